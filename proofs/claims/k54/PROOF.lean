import PyProof.Rows.All
import Wide.All
import OpenK.AllK
import Wide.FinOn
import KE.KStateDown
import KE.KSuper
import KE.DatumIndex
import HandS.ForMost
import HandS.ForExc
import HandS.Wide
import HandS.WideBits
import HandS.Property
import HandS.Star
import HandS.IsInst
import HandS.FStr
import HandS.RaiseMore
import HandS.OwnEq
import HandS.Flow
import HandS.Style
import HandS.TryMany
import HandS.MakeKw
import HandS.Defaults
import HandS.Zip
import HandS.Head2
import HandS.HeadEnd
import HandS.HeadHook2
import HandS.Nested
import PyProof.ReprRoads
import PyProof.Rows.StrDigitsNeg
import HandS.Walk
import PyProof.AttrMiss
import OpenK.KCls
import KE.KOpsOwn
import HandS.Conv
import PyProof.InstNe
import PyProof.CallFns
import HandS.ClsMeth
import OpenK.KOps
import HandS.SetFor
import HandS.Strs
import PyProof.AutoIntOps
import PyProof.AssignAttr
import HandS.ExcIs
import HandS.HotCalls
import HandS.TryOnly
import HandS.More
import PyProof.InstEq
import PyProof.EqKinds
import HandS.Dict
import HandS.Exc
import HandS.Text
import HandS.ExcInit
import HandS.ExcField
import PyProof.ListStr
import KE.KExcIs
import PyProof.StrBlock2
import PyProof.NeData
import HandS.Iter
import HandS.ExcInitHot
import HandS.Small
import PyProof.LongRange
import HandS.Lambda
import HandS.SortKw
import HandS.SetBool
import HandS.HeadHook4
import HandS.EndTab
import PySem.Challenge.RW_onwardlines_k54_full_nets
set_option Elab.async false
set_option linter.all false
set_option maxRecDepth 100000
set_option maxHeartbeats 4000000
/-! Fw, part A: what the top has left, read by a hook of our own: checks of the written part, and defs by their places. -/
namespace Fw
open PySem PySem.Spec PyProof.Rows L2
open He (ga ma frG growD frG_in eqO eqO_ok relB relB_ok)
abbrev Frag := PySem.W.Frag
abbrev Ck := Frag → Bool
/-- the function at f: its name, qualified name, parameters, body, scope, the names it closes over -/
abbrev FnM : Type := Option (Str × Str × Arguments × FuncBody × Scope × Addr × List Str × Value × Addr)
def fnM (K : Frag) (f : Addr) : FnM := match K.lookup f with
  | some ⟨_, _, .func fd, _⟩ => some (fd.name, fd.qualname, fd.params, fd.body, fd.scope, fd.globals, fd.closure.map (fun c => c.1), fd.defaults, fd.builtins)
  | _ => none
structure DefM where
  at_ : Frag → Addr
  name : Str
  qual : Str
  st : Stmt
  clo : List Str := []
def DefM.val (d : DefM) : FnM := some (d.name, d.qual, defArgs d.st, .stmts (defBody d.st), defScope d.st, mainGlobals, d.clo, .none, builtinsNs)
def DefM.ok (K : Frag) (d : DefM) : Bool := PySem.W.keepIn K (.ref (d.at_ K)) && (match K.lookup (d.at_ K) with
  | some ⟨_, _, .func fd, _⟩ => PySem.W.codeIn K fd.code d.qual
  | _ => false)
/-- the function object at f -/
def fdAt (K : Frag) (f : Addr) : FuncData := match K.lookup f with
  | some ⟨_, _, .func fd, _⟩ => fd
  | _ => PySem.W.fnOf Str.empty Str.empty ⟨[], [], none, [], [], none, []⟩ [] ⟨.function, [], false, false, []⟩ .none .none .none .none none .none .none
theorem DefM.fun {K : Frag} {d : DefM} (e : fnM K (d.at_ K) = d.val) (c : d.ok K = true) (hc : d.clo = []) : Fun K d.name d.qual d.st (d.at_ K) (fdAt K (d.at_ K)) := by
  obtain ⟨kp, c2⟩ := Bool.and_eq_true_iff.mp c
  unfold fnM at e
  unfold fdAt
  cases q : K.lookup (d.at_ K) with
  | none => rw [q] at c2; cases c2
  | some o =>
    obtain ⟨oc, od, dt, osl⟩ := o
    rw [q] at c2 e
    cases dt with
    | func fd =>
      obtain ⟨n1, n2, n3, n4, n5, n6, n7, n8, n9, n10, n11, n12, n13, n14, n15⟩ := fd
      have e2 : (some (n1, n2, n3, n4, n5, n6, n7.map (fun c => c.1), n8, n15) : FnM) = some (d.name, d.qual, defArgs d.st, .stmts (defBody d.st), defScope d.st, mainGlobals, d.clo, .none, builtinsNs) := e
      rw [hc] at e2
      simp only [Option.some.injEq, Prod.mk.injEq, List.map_eq_nil_iff] at e2
      obtain ⟨h1, h2, h3, h4, h5, h6, h7, h8, h9⟩ := e2
      subst h1 h2 h3 h4 h5 h6 h7 h8 h9
      exact ⟨⟨oc, od, n9, n10, n11, n12, n13, n14, osl, rfl, q, c2⟩, kp⟩
    | _ => cases c2
/-- a def that closes over one name -/
structure FunC (K : Frag) (x qual y : Str) (st : Stmt) (f : Addr) : Prop where
  ex : ∃ (oc : Value) (od : Option Addr) (cc : Addr) (kV doc pm : Value) (an : Option Addr) (cdv ct : Value) (osl : Array (Option Value)),
    K.lookup f = some ⟨oc, od, .func (PySem.W.fnX x qual (defArgs st) (defBody st) (defScope st) [(y, cc)] .none kV doc pm an cdv ct), osl⟩ ∧ PySem.W.codeIn K cdv qual = true
  kp : PySem.W.keepIn K (.ref f) = true
theorem DefM.func {K : Frag} {d : DefM} {y : Str} (e : fnM K (d.at_ K) = d.val) (c : d.ok K = true) (hc : d.clo = [y]) : FunC K d.name d.qual y d.st (d.at_ K) := by
  obtain ⟨kp, c2⟩ := Bool.and_eq_true_iff.mp c
  unfold fnM at e
  cases q : K.lookup (d.at_ K) with
  | none => rw [q] at c2; cases c2
  | some o =>
    obtain ⟨oc, od, dt, osl⟩ := o
    rw [q] at c2 e
    cases dt with
    | func fd =>
      obtain ⟨n1, n2, n3, n4, n5, n6, n7, n8, n9, n10, n11, n12, n13, n14, n15⟩ := fd
      have e2 : (some (n1, n2, n3, n4, n5, n6, n7.map (fun c => c.1), n8, n15) : FnM) = some (d.name, d.qual, defArgs d.st, .stmts (defBody d.st), defScope d.st, mainGlobals, d.clo, .none, builtinsNs) := e
      rw [hc] at e2
      simp only [Option.some.injEq, Prod.mk.injEq] at e2
      obtain ⟨h1, h2, h3, h4, h5, h6, h7, h8, h9⟩ := e2
      obtain ⟨cc, rfl⟩ : ∃ cc, n7 = [(y, cc)] := by
        match n7, h7 with
        | [(a, b)], h7 =>
          simp only [List.map_cons, List.map_nil, List.cons.injEq, and_true] at h7
          exact ⟨b, by rw [h7]⟩
      subst h1 h2 h3 h4 h5 h6 h8 h9
      exact ⟨⟨oc, od, cc, n9, n10, n11, n12, n13, n14, osl, q, c2⟩, kp⟩
    | _ => cases c2

/-! ### the hook -/
/-- what the module's names and the statics reach in n steps -/
def asM (g : Addr → Option Obj) : Nat → List Addr
  | 0 => [mainGlobals, cStatics]
  | n + 1 => growD g (asM g n)
abbrev AlM : Type := Bool × List FnM
def obsM (ck : List Ck) (fn : List DefM) (K : Frag) : AlM := ((ck.all fun f => f K) && fn.all fun d => d.ok K, fn.map fun d => fnM K (d.at_ K))
def valM (fn : List DefM) : AlM := (true, fn.map DefM.val)
def SaysM (ck : List Ck) (fn : List DefM) (K : Frag) : Prop := obsM ck fn K = valM fn
def obsMG (n : Nat) (ck : List Ck) (fn : List DefM) (g : Addr → Option Obj) : AlM := obsM ck fn (frG g (asM g n))
def hookM (n : Nat) (ck : List Ck) (fn : List DefM) : PySem.W.Hook where
  α := AlM
  obs := fun s => obsMG n ck fn s.heap.get?
  val := fun _ => valM fn
  says := fun _ h => ∃ K : Frag, K.In h ∧ SaysM ck fn K
  of := fun _ _ e => ⟨_, frG_in, e⟩
  keeps := fun _ _ _ ⟨K, hK, c⟩ k => ⟨K, PySem.W.Frag.In.keeps hK k, c⟩
theorem obsMG_eq {n : Nat} {ck : List Ck} {fn : List DefM} {g : Addr → Option Obj} {s : Shared} (h : ∀ a, g a = s.heap.get? a) : obsMG n ck fn g = (hookM n ck fn).obs s := by
  have e : g = s.heap.get? := funext h
  rw [e] <;> rfl
/-- what the end leans on -/
structure Zs (ck : List Ck) (fn : List DefM) (K : Frag) (mg : Str → Option Value) : Prop where
  says : SaysM ck fn K
  ns : ∃ h : Heap, K.In h ∧ h.Ns mainGlobals mg
section
variable {ck : List Ck} {fn : List DefM} {K : Frag} {mg : Str → Option Value}
theorem Zs.c (Z : Zs ck fn K mg) (i : Nat) {f : Ck} (h : ck[i]? = some f := by rfl) : f K = true := by
  have c1 := (Bool.and_eq_true_iff.mp (show ((ck.all fun f => f K) && fn.all fun d => d.ok K) = true from congrArg (fun z : AlM => z.1) Z.says)).1
  exact List.all_eq_true.mp c1 f (List.mem_of_getElem? h)
theorem Zs.f0 (Z : Zs ck fn K mg) (i : Nat) {d : DefM} (h : fn[i]? = some d) : fnM K (d.at_ K) = d.val ∧ d.ok K = true := by
  have c2 := (Bool.and_eq_true_iff.mp (show ((ck.all fun f => f K) && fn.all fun d => d.ok K) = true from congrArg (fun z : AlM => z.1) Z.says)).2
  have e : fn.map (fun d => fnM K (d.at_ K)) = fn.map DefM.val := congrArg (fun z : AlM => z.2) Z.says
  have e2 : (fn.map fun d => fnM K (d.at_ K))[i]? = (fn.map DefM.val)[i]? := by rw [e]
  rw [List.getElem?_map, List.getElem?_map, h] at e2
  exact ⟨Option.some.inj e2, List.all_eq_true.mp c2 d (List.mem_of_getElem? h)⟩
theorem Zs.f (Z : Zs ck fn K mg) (i : Nat) {d : DefM} (h : fn[i]? = some d := by rfl) (hc : d.clo = [] := by rfl) : Fun K d.name d.qual d.st (d.at_ K) (fdAt K (d.at_ K)) :=
  DefM.fun (Z.f0 i h).1 (Z.f0 i h).2 hc
theorem Zs.fc (Z : Zs ck fn K mg) (i : Nat) {d : DefM} {y : Str} (h : fn[i]? = some d := by rfl) (hc : d.clo = [y] := by rfl) : FunC K d.name d.qual y d.st (d.at_ K) :=
  DefM.func (Z.f0 i h).1 (Z.f0 i h).2 hc
end
/-! ### checks -/
def cGlo (x : Str) : Ck := fun K => (He.Fa.glo x).ok K
def cFree (x : Str) : Ck := fun K => (He.Fa.free x).ok K
def cInt (x : Str) (i : Int) : Ck := fun K => (He.Fa.int x i).ok K
def cCls (x : Str) : Ck := fun K => (He.Fa.cls x).ok K
def cNoat (x f : Str) : Ck := fun K => (He.Fa.noat x f).ok K
def cMeth (x m : Str) : Ck := fun K => (He.Fa.meth x m).ok K
def cMkr (x : Str) : Ck := fun K => (He.Fa.mkr x).ok K
def cKeep (x : Str) : Ck := fun K => (He.Fa.keep x).ok K
/-- the property f of the class named x; its getter -/
def prA (K : Frag) (C : Addr) (f : Str) : Addr := match PySem.W.recIn K (ma K C f) "property" with
  | some (.ref g :: _) => g
  | _ => 0
def cProp (x f : Str) : Ck := fun K => eqO (PySem.W.findIn K (.ref (ga K x)) f) (some (some (.ref (ma K (ga K x) f)))) &&
  (eqO (PySem.W.specialIn K (.ref (ma K (ga K x) f)) "__get__") (some (some (.builtin "property.__get__"))) && (decide (PySem.W.takesIn K (.ref (ma K (ga K x) f)) = some true) &&
  (match PySem.W.recIn K (ma K (ga K x) f) "property" with
  | some (.ref g :: _) => true
  | _ => false)))
/-- the same getter in both classes -/
def cSameP (x y f : Str) : Ck := fun K => decide (prA K (ga K x) f = prA K (ga K y) f)
def cSameM (x y f : Str) : Ck := fun K => decide (ma K (ga K x) f = ma K (ga K y) f)
/-- an instance of the class named x may be called -/
def cCall (x : Str) : Ck := fun K => eqO (PySem.W.findIn K (.ref (ga K x)) "__call__") (some (some (.ref (ma K (ga K x) "__call__")))) && (PySem.W.isFn K (.ref (ma K (ga K x) "__call__")) && PySem.W.fnIn K (ma K (ga K x) "__call__"))
/-- a text constant of a class -/
def cCon (x f z : Str) : Ck := fun K => (match PySem.W.findIn K (.ref (ga K x)) f with
  | some (some (.str y t)) => decide (y = z) && (eqO (PySem.W.specialIn K (.str y t) "__get__") (some none))
  | _ => false)
section
variable {K : Frag} {mg : Str → Option Value} {ck : List Ck} {fn : List DefM}
theorem Zs.glo (Z : Zs ck fn K mg) {x : Str} (c : cGlo x K = true) : mg x = some (.ref (ga K x)) := let ⟨_, X, G⟩ := Z.ns; He.glo_ok X G c
theorem Zs.free (Z : Zs ck fn K mg) {x : Str} (c : cFree x K = true) : mg x = none := let ⟨_, X, G⟩ := Z.ns; He.free_ok X G c
theorem Zs.int (Z : Zs ck fn K mg) {x : Str} {i : Int} (c : cInt x i K = true) : ∃ u, mg x = some u ∧ RelV (.int i) u := let ⟨_, X, G⟩ := Z.ns; let ⟨t, e⟩ := He.int_ok X G c; ⟨_, e, t, rfl⟩
theorem cls_of {x : Str} (c : cCls x K = true) : Cls K (ga K x) := He.cls_ok c
theorem noat_of {x f : Str} (c : cNoat x f K = true) : NoAttr K (ga K x) f := He.noat_ok c
theorem meth_of {x m : Str} (c : cMeth x m K = true) : Meth K (ga K x) m (ma K (ga K x) m) := He.meth_ok c
theorem mkr_of {x : Str} (c : cMkr x K = true) : Mk K (ga K x) (ma K (ga K x) "__init__") := He.mkr_ok c
theorem prop_of {x f : Str} (c : cProp x f K = true) : PropOf K (ga K x) f (ma K (ga K x) f) (prA K (ga K x) f) := by
  obtain ⟨c1, c⟩ := Bool.and_eq_true_iff.mp c
  obtain ⟨c2, c⟩ := Bool.and_eq_true_iff.mp c
  obtain ⟨c3, c4⟩ := Bool.and_eq_true_iff.mp c
  refine ⟨eqO_ok c1, eqO_ok c2, of_decide_eq_true c3, ?_⟩
  unfold prA
  cases e : PySem.W.recIn K (ma K (ga K x) f) "property" with
  | none => rw [e] at c4; cases c4
  | some l =>
    rw [e] at c4
    match l, c4 with
    | (.ref g :: r), _ => exact ⟨r, rfl⟩
theorem call_of {x : Str} (c : cCall x K = true) : StX.CallO K (ga K x) (ma K (ga K x) "__call__") := by
  obtain ⟨c1, c⟩ := Bool.and_eq_true_iff.mp c
  obtain ⟨c2, c3⟩ := Bool.and_eq_true_iff.mp c
  exact ⟨eqO_ok c1, c2, c3⟩
theorem con_of {x f z : Str} (c : cCon x f z K = true) (cp : PySem.W.copiedNames.contains f = false) : ∃ u, Con K (ga K x) f (.str z) u := by
  unfold cCon at c
  cases e : PySem.W.findIn K (.ref (ga K x)) f with
  | none => rw [e] at c; cases c
  | some r =>
    rw [e] at c
    match r, c, e with
    | some (.str y t), c, e =>
      obtain ⟨c1, c2⟩ := Bool.and_eq_true_iff.mp c
      have e1 : y = z := of_decide_eq_true c1
      exact ⟨.str y t, e, ⟨t, by rw [e1]⟩, eqO_ok c2, cp⟩
end
theorem Fun.bindsAny {K : Frag} {x qual y : Str} {st : Stmt} {f : Addr} {fd : FuncData} (F : Fun K x qual st f fd) (s : Shared) (u : Value)
    (h : ∀ (kV doc pm : Value) (an : Option Addr) (cdv ct : Value), bindArgs (PySem.W.fnOf x qual (defArgs st) (defBody st) (defScope st) .none kV doc pm an cdv ct) ⟨[u], []⟩ = pure [(y, u)]) : BindsTo s fd ⟨[u], []⟩ [(y, u)] := by
  obtain ⟨oc, od, kV, doc, pm, an, cdv, ct, osl, rfl, lk, hcd⟩ := F.ex
  exact .of_eq (h kV doc pm an cdv ct)
/-! ### the end: a law's def keeps its promise -/
theorem endM {l : PySem.W.OpenLaw} {k N : Nat} {q : Program} {loose : List Str} {d : DefRec} {ck : List Ck} {fn : List DefM} {XP : (Str → Option Value) → Heap → Prop} {spL : Frag → Sp}
    (hn : l.most = some 63) (hdf : d.params.defaults = []) (hr : Room k callerA) (hd : d.name = ("law" : Str))
    (F : ∀ (w : World) (K : Frag) (mg : Str → Option Value) (base : Heap), Zs ck fn K mg → K.In base → base.Ns mainGlobals mg → FnOk l.prog w K mg base (L2.CX l.prog w) k (ga K "law") (fdAt K (ga K "law")) ["script"] (spL K))
    (hg : ∀ (K : Frag) (mg : Str → Option Value), Zs ck fn K mg → mg "law" = some (.ref (ga K "law")))
    (hb : ∀ (K : Frag) (mg : Str → Option Value), Zs ck fn K mg → ∀ (s : Shared) (u : Value), BindsTo s (fdAt K (ga K "law")) ⟨[u], []⟩ [("script", u)])
    (hs : ∀ (K : Frag) (H : Hp) (a : Addr) (ns : List Int), ns.length ≤ 63 → Only H → SqL K H a (ns.map V.int) → spL K [.ref a] H (fun v _ => v = .bl true) fun _ _ _ => False) :
    PySem.W.WalkO q loose XP (hookM N ck fn).says l.row.toRowW d [] (fun f vs => PySem.call f vs) := by
  refine Att.attach_call hn hdf fun w s₀ s₁ mg mb fa o pm cd doc a vs ns G Y ho hd' hcd hmg hobj hints hlen hgn => ?_
  obtain ⟨K, KX, c⟩ := Y
  have Z : Zs ck fn K mg := ⟨c, _, KX, G.T.g⟩
  have e : fa = ga K "law" := by
    have h1 := hg K mg Z
    rw [hd] at hmg
    rw [hmg] at h1
    cases h1
    rfl
  subst e
  exact law_call KX G.T.g G.T.b G.T.builtins G.T.nolimit hgn hobj hints (Nat.le_trans hlen (by decide)) hr (fun base h1 h2 => F w K mg base Z h1 h2) (hb K mg Z) (fun H hO hS => hs K H a ns hlen hO hS) fun H e s' h => by
    obtain ⟨_, _, _, _, _, _, _, _, _, _, _, _, z⟩ := h
    exact z.elim
end Fw

/-! Fw, part B: an __init__ that says super().__init__(..) and no more. -/
namespace Fw
open PySem PySem.Spec PyProof.Rows L2
open He (ga ma eqO eqO_ok)
/-- the address that a cell holds; the file that a code object names -/
def cellOf (K : Frag) (cc : Addr) : Option Addr := match K.lookup cc with
  | some ⟨_, _, .cell (some (.ref a)), _⟩ => some a
  | _ => none
theorem cellOf_ok {K : Frag} {cc D : Addr} (h : cellOf K cc = some D) : ∃ cl cld csl, K.lookup cc = some ⟨cl, cld, .cell (some (.ref D)), csl⟩ := by
  unfold cellOf at h
  split at h
  · rename_i a b c d e
    cases h
    exact ⟨_, _, _, e⟩
  · cases h
def fileOf (K : Frag) (v : Value) : Option Str := match v with
  | .ref c => (match K.lookup c with
    | some ⟨_, _, .fields vs, _⟩ => (match (vs.toList[2]? : Option Value) with
      | some (.str y _) => some y
      | _ => none)
    | _ => none)
  | _ => none
theorem fileOf_ok {K : Frag} {v : Value} {z : Str} (h : fileOf K v = some z) : ∃ c ccl cdd vs ccs t, v = .ref c ∧ K.lookup c = some ⟨ccl, cdd, .fields vs, ccs⟩ ∧ vs.toList[2]? = some (.str z t) := by
  unfold fileOf at h
  split at h
  · split at h
    · split at h
      · rename_i e1 _ _ _ e2
        cases h
        exact ⟨_, _, _, _, _, _, rfl, by assumption, by assumption⟩
      · cases h
    · cases h
  · cases h
def cloCell (K : Frag) (f : Addr) : Option Addr := match K.lookup f with
  | some ⟨_, _, .func fd, _⟩ => (match fd.closure with
    | [p] => cellOf K p.2
    | _ => none)
  | _ => none
def fnFile (K : Frag) (f : Addr) : Option Str := match K.lookup f with
  | some ⟨_, _, .func fd, _⟩ => fileOf K fd.code
  | _ => none
/-- what of the written part such a def leans on: f the def, D its class, f2 the __init__ of the class above, z the text's file -/
def supB (K : Frag) (f D f2 : Addr) (z : Str) : Bool :=
  decide (cloCell K f = some D) && (decide (fnFile K f = some z) &&
  ((PySem.W.clsIn K D).isSome && (decide (PySem.W.mroIn K D (.ref D) = some true) && (eqO (PySem.W.ks_superIn K D D "__init__") (some (some (.ref f2))) &&
  (decide (PySem.W.typeIn K (.ref f2) = some (.type "function")) && (PySem.W.fnIn K f2 && (eqO (PySem.W.nsIn K mainGlobals "super") (some none) && eqO (PySem.W.nsIn K cStatics "thirdparty.any") (some none))))))))
def cSup (x y z : Str) : Ck := fun K => supB K (ma K (ga K x) "__init__") (ga K x) (ma K (ga K y) "__init__") z
structure SupOk (K : Frag) (f D f2 : Addr) (z : Str) (cc : Addr) (cdv : Value) : Prop where
  cell : ∃ cl cld csl, K.lookup cc = some ⟨cl, cld, .cell (some (.ref D)), csl⟩
  code : ∃ c ccl cdd vs ccs t, cdv = .ref c ∧ K.lookup c = some ⟨ccl, cdd, .fields vs, ccs⟩ ∧ vs.toList[2]? = some (.str z t)
  cls : ∃ cd, PySem.W.clsIn K D = some cd
  mro : PySem.W.mroIn K D (.ref D) = some true
  sup : PySem.W.ks_superIn K D D "__init__" = some (some (.ref f2))
  ty : PySem.W.typeIn K (.ref f2) = some (.type "function")
  fi : PySem.W.fnIn K f2 = true
  bsup : PySem.W.nsIn K mainGlobals "super" = some none
  thrd : PySem.W.nsIn K cStatics "thirdparty.any" = some none
theorem supB_ok {K : Frag} {f D f2 : Addr} {z : Str} {fd : FuncData} {oc : Value} {od : Option Addr} {osl : Array (Option Value)} {y : Str} {cc : Addr} (h : supB K f D f2 z = true) (hf : K.lookup f = some ⟨oc, od, .func fd, osl⟩) (hc : fd.closure = [(y, cc)]) : SupOk K f D f2 z cc fd.code := by
  obtain ⟨h0, h⟩ := Bool.and_eq_true_iff.mp h
  obtain ⟨h1, h⟩ := Bool.and_eq_true_iff.mp h
  obtain ⟨h2, h⟩ := Bool.and_eq_true_iff.mp h
  obtain ⟨h3, h⟩ := Bool.and_eq_true_iff.mp h
  obtain ⟨h4, h⟩ := Bool.and_eq_true_iff.mp h
  obtain ⟨h5, h⟩ := Bool.and_eq_true_iff.mp h
  obtain ⟨h6, h⟩ := Bool.and_eq_true_iff.mp h
  obtain ⟨h7, h8⟩ := Bool.and_eq_true_iff.mp h
  have c1 : cloCell K f = some D := of_decide_eq_true h0
  have c2 : fnFile K f = some z := of_decide_eq_true h1
  unfold cloCell at c1
  unfold fnFile at c2
  rw [hf] at c1 c2
  dsimp only at c1 c2
  rw [hc] at c1
  exact ⟨cellOf_ok c1, fileOf_ok c2, Option.isSome_iff_exists.mp h2, of_decide_eq_true h3, eqO_ok h4, of_decide_eq_true h5, h6, eqO_ok h7, eqO_ok h8⟩

/-- the scope of such a def -/
structure SupScope (N ps : List Str) (sc : Scope) : Prop where
  kind : sc.kind = .function
  co : sc.isCoroutine = false
  gen : sc.isGenerator = false
  nd : N.Nodup
  pre : N = ps
  par : ∀ x ∈ ps, sc.names.lookup x = some .local
  nocell : ∀ y ∈ sc.names, y.2 ≠ .cell
  fr : ∀ y ∈ sc.names, y.2 = .free → y.1 = "__class__"
  ks : sc.names.lookup ("super" : Str) = some .globalImplicit
  kc : sc.names.lookup ("__class__" : Str) = some .free

/-- the context of such a def's body -/
def supCx (P : Program) (w : World) (K : Frag) (mg : Str → Option Value) (base : Heap) (N : List Str) (qual : Str) (scope : Scope) (f : Addr) (cd : Value) (cc : Addr) (A : Around) (outer : List Env) (s : Shared) (H : Hp) (E : XK) : Cx where
  prog := P
  w := w
  K := K
  mg := mg
  base := base
  A := A.deeper (PySem.W.ksEnv qual scope s.heap.objs.size f cd cc)
  N := N
  s_0 := s
  H_0 := H
  env := PySem.W.ksEnv qual scope s.heap.objs.size f cd cc
  outer := outer
  stack := PySem.W.ksEnv qual scope s.heap.objs.size f cd cc :: outer
  ex := []
  calm := true
  fn := fun _ => false
  pn := []
  xe := fun e s' => wpAny (model P w) (A.deeper (PySem.W.ksEnv qual scope s.heap.objs.size f cd cc)) (leaving (PySem.W.ksEnv qual scope s.heap.objs.size f cd cc) e) (fun _ s'' => L2.CX P w outer H s E e s'') (fun e' s'' => L2.CX P w outer H s E e' s'') s'

theorem rev_look {ps : List Str} {us : List Value} {i : Nat} {x : Str} {u : Value} (nd : ps.Nodup) (h1 : ps[i]? = some x) (h2 : us[i]? = some u) : (ps.zip us).reverse.lookup x = some u := NdefX.zip_look nd h1 h2

theorem sup_inv {P : Program} {w : World} {K : Frag} {mg : Str → Option Value} {base : Heap} {N ps : List Str} {qual : Str} {scope : Scope} {f D f2 cc : Addr} {z : Str} {cd : Value} {A : Around} {outer : List Env} {s : Shared} {h₁ : Heap} {tk : Nat} {H : Hp} {E : XK} {us : List Value} {vs : List V}
    (S : SupScope N ps scope) (O : SupOk K f D f2 z cc cd) (hd : A.handled = none) (e0 : Env0 P w K mg base A outer s H) (hl : vs.length = ps.length) (r : Vals vs us)
    (hns : h₁.Ns s.heap.objs.size (fun x => (ps.zip us).reverse.lookup x)) (hk : ∀ b o, s.heap.get? b = some o → h₁.get? b = some o) :
    Inv (supCx P w K mg base N qual scope f cd cc A outer s H E) [] (L2.start N vs) H { s with heap := h₁, toks := tk } := by
  have noA : ∀ b : Addr, b ∉ (supCx P w K mg base N qual scope f cd cc A outer s H E).ex := fun b z => absurd (show b ∈ ([] : List Addr) from z) (by simp)
  have cl1 : ∀ y c, (supCx P w K mg base N qual scope f cd cc A outer s H E).env.cells.lookup y = some c → y = "__class__" ∧ c = cc := fun y c h => by
    have h' : (match y == ("__class__" : Str) with | true => some cc | false => none) = some c := h
    cases e : (y == ("__class__" : Str)) with
    | true => rw [e] at h'; exact ⟨beq_iff_eq.mp e, (Option.some.inj h').symm⟩
    | false => rw [e] at h'; cases h'
  obtain ⟨cl, cld, csl, hcell⟩ := O.cell
  have KX : K.In s.heap := e0.mod.kin.keeps fun b o e => (e0.bs b o e).1
  refine ⟨⟨e0.mod, S.kind, rfl, rfl, Nat.le_refl _, fun y z c h1 h2 => ?_, fun y hy => ?_, fun y c hf _ => ?_, fun _ => hd, Around.frames_deeper e0.frames, .inr ⟨rfl, rfl⟩, fun b z => absurd z (noA b), e0.bs, e0.bsz, fun b _ _ => noA b, fun b z => absurd z (noA b), e0.funs, e0.frf⟩,
    rfl, e0.bare, Un.kept hk, ⟨_, hns, fun i y v h1 h2 h3 => ?_⟩, fun y c h => ?_, e0.hok.fresh (Nat.le_refl _), fun y c h => ?_, fun p hp => absurd (show p ∈ ([] : List (Addr × Obj)) from hp) (by simp), e0.hok.kept hk, ?_⟩
  · exact (cl1 y c h1).1.trans (cl1 z c h2).1.symm
  · have hy : scope.names.lookup y = some .cell ∨ scope.names.lookup y = some .free := hy
    rcases hy with hy | hy
    · exact absurd rfl (S.nocell _ (PySem.mem_of_lookup hy))
    · have e := S.fr _ (PySem.mem_of_lookup hy) rfl
      have e' : y = "__class__" := e
      subst e'
      exact ⟨cc, by rfl⟩
  · cases (show false = true from hf)
  · have hN : vs.length = N.length := by rw [S.pre]; exact hl
    have hs : L2.start N vs = vs.map some := by
      unfold L2.start
      rw [hN, Nat.sub_self]
      simp
    rw [hs, List.getElem?_map] at h2
    cases e : vs[i]? with
    | none => rw [e] at h2; cases h2
    | some a =>
      rw [e] at h2
      cases h2
      obtain ⟨u, hu, rv⟩ := r.get e
      have hp : ps[i]? = some y := by rw [← S.pre]; exact h1
      have nd : ps.Nodup := by rw [← S.pre]; exact S.nd
      exact ⟨u, rv, .inl ⟨S.par y (List.mem_of_getElem? hp), rev_look nd hp hu⟩⟩
  · obtain ⟨_, rfl⟩ := cl1 y c h
    exact ⟨_, _, hk _ _ (KX _ _ hcell), rfl⟩
  · obtain ⟨_, rfl⟩ := cl1 y c h
    exact (e0.bs _ _ (e0.mod.kin _ _ hcell)).2
  · rw [show (L2.start N vs).length = N.length from ?_]
    rfl
    unfold L2.start
    rw [List.length_append, List.length_map, List.length_replicate, S.pre, hl]
    omega

theorem fn_super {P : Program} {w : World} {K : Frag} {mg : Str → Option Value} {base : Heap} {k : Nat} {f D f2 : Addr} {fd2 : FuncData} {x qual z : Str} {st : Stmt} {N ps ps2 : List Str} {sp sp2 : Sp} {e : Expr} {es : List Expr} {p0 p1 apos pos pos2 : Pos} {ar : Arg} {ta : TA}
    (F : FunC K x qual "__class__" st f) (S : SupScope N ps (defScope st)) (hB : supB K f D f2 z = true) (hz : ((P.main.file : Str) == z) = true) (htop : (P.main.scope.names.lookup ("super" : Str)).isSome = false)
    (hb : defBody st = [.Expr (.Call (.Attribute (.Call (.Name "super" p0) [] [] p1) "__init__" apos) (e :: es) [] pos) pos2])
    (har : ((defArgs st).posonlyargs ++ (defArgs st).args).head? = some ar) (hself : ps[0]? = some ar.arg)
    (F2 : FnOk P w K mg base (L2.CX P w) k f2 fd2 ps2 sp2) (b2 : Binds K fd2 ps2 [])
    (len : ∀ vs H Q E, sp vs H Q E → vs.length = ps.length)
    (ha : ∀ (cdv : Value) (cc : Addr) (A : Around) (outer : List Env) (s : Shared) (H : Hp) (E : XK), PA (supCx P w K mg base N qual (defScope st) f cdv cc A outer s H E) (e :: es) ta)
    {pl : Env → Sem Bool} (ht : ∀ env : Env, eval (.Call (.Attribute (.Call (.Name "super" p0) [] [] p1) "__init__" apos) (e :: es) [] pos) env = (do
      let ov ← attributeBase (.Call (.Name "super" p0) [] [] p1) "__init__" env (eval (.Call (.Name "super" p0) [] [] p1) env)
      standAt apos.atName
      let (g, first) ← holding [ov] (getMethod ov "__init__" (pl env))
      callWith pos g first (backTo pos (starEach (e :: es) env)) []))
    (hst : ∀ env : Env, starEach (e :: es) env = (false, eval e env) :: starEach es env) (hpl : ∀ env : Env, (backTo pos (starEach es env)).any (·.1) = false)
    (hsp : ∀ vs H Q E, sp vs H Q E → ∃ xa dx fs, vs[0]? = some (.ref xa) ∧ H xa = some (.ins D dx fs) ∧ ta (L2.start N vs) H fun us H1 => sp2 (.ref xa :: us) H1 (fun v H2 => Q .non H2) E) :
    FnOk P w K mg base (L2.CX P w) (k + 1) f (fdAt K f) ps sp := by
  obtain ⟨oc, od, cc, kV, doc, pm, an, cdv, ct, osl, lk, hcd⟩ := F.ex
  have efd : fdAt K f = PySem.W.fnX x qual (defArgs st) (defBody st) (defScope st) [("__class__", cc)] .none kV doc pm an cdv ct := by
    unfold fdAt
    rw [lk]
  rw [efd]
  have O : SupOk K f D f2 z cc cdv := supB_ok hB lk rfl
  refine ⟨len, fun A outer s H args us vs Q E hr e0 hbd r hq => ?_⟩
  have hl := len _ _ _ _ hq
  have KX : K.In s.heap := e0.mod.kin.keeps fun b o e => (e0.bs b o e).1
  have lim : s.heap.NoLimit := e0.mod.nolimit.keeps fun b o e => (e0.bs b o e).1
  have hloc : ∀ y ∈ ps.zip us, (defScope st).names.lookup y.1 = some .local := fun ⟨n, v⟩ hy => S.par n (List.of_mem_zip hy).1
  refine PySem.ks_codeAny_call_defAt (fd := PySem.W.fnX x qual (defArgs st) (defBody st) (defScope st) [("__class__", cc)] .none kV doc pm an cdv ct) hr.depth (KX _ _ lk) rfl lim (PySem.W.codeRec_of KX hcd) rfl hbd S.nocell hloc (fun h₁ hns hk₁ => ?_) S.co S.gen S.kind
  have I := sup_inv (qual := qual) (E := E) (tk := s.toks + (ps.zip us).length) S O hr.hd e0 hl r hns hk₁
  obtain ⟨xa, dx, fs, hv0, hx, hta⟩ := hsp _ _ _ _ hq
  -- the body
  have hex : execs (defBody st) (PySem.W.ksEnv qual (defScope st) s.heap.objs.size f cdv cc) = execs [.Expr (.Call (.Attribute (.Call (.Name "super" p0) [] [] p1) "__init__" apos) (e :: es) [] pos) pos2] (PySem.W.ksEnv qual (defScope st) s.heap.objs.size f cdv cc) := by rw [hb]
  show PySem.wpAt (model P w) (A.deeper (PySem.W.ksEnv qual (defScope st) s.heap.objs.size f cdv cc)) (.func (defBody st) (PySem.W.ksEnv qual (defScope st) s.heap.objs.size f cdv cc)) (execs (defBody st) (PySem.W.ksEnv qual (defScope st) s.heap.objs.size f cdv cc)) _ _ _
  rw [hex]
  have hint : interactive (PySem.W.ksEnv qual (defScope st) s.heap.objs.size f cdv cc) = false := I.quiet
  have X1 : K.In h₁ := KX.keeps hk₁
  obtain ⟨cl, cld, csl, hcell⟩ := O.cell
  obtain ⟨c, ccl, cdd, vcs, ccs, tf, ecd, hcode, hvs⟩ := O.code
  obtain ⟨cdD, hcD⟩ := O.cls
  have hvs' : vcs[2]? = some (.str z tf) := by rw [← Array.getElem?_toList]; exact hvs
  obtain ⟨oD, hD1, hD2⟩ : ∃ oD, h₁.get? D = some oD ∧ oD.data = .cls cdD := by
    unfold PySem.W.clsIn at hcD
    split at hcD
    · rename_i ho
      cases hcD
      exact ⟨_, X1 _ _ ho, rfl⟩
    · cases hcD
  obtain ⟨of, hof, hofc⟩ : ∃ of, K.lookup f2 = some of ∧ of.cls = .type "function" := by
    have ht : (K.lookup f2).map (fun o => o.cls) = some (.type "function") := O.ty
    cases q : K.lookup f2 with
    | none => rw [q] at ht; cases ht
    | some o => rw [q] at ht; exact ⟨o, rfl, Option.some.inj ht⟩
  obtain ⟨mA, OM, _⟩ := ins_get I.hok hx
  obtain ⟨odx, J, _⟩ := OM.look
  obtain ⟨mb, hmb, hbb⟩ := e0.mod.blt
  have up0 : ∀ b o, base.get? b = some o → h₁.get? b = some o := fun b o q => hk₁ b o (e0.bs b o q).1
  have hself2 : (fun y => (ps.zip us).reverse.lookup y) ar.arg = some (Value.ref xa) := by
    obtain ⟨u, hu, ru⟩ := r.get hv0
    have ru' : u = Value.ref xa := ru
    subst ru'
    exact rev_look (by rw [← S.pre]; exact S.nd) hself hu
  have hka : (defScope st).names.lookup ar.arg = some .local := S.par _ (List.mem_of_getElem? hself)
  refine PySem.ks_wpAt_execs_cons (PySem.ks_wpAt_Expr_any (PySem.ks_wpAt_MethodCall ?_ (ht _)) hint rfl)
  refine PySem.ks_wpAt_super_base (attr := "__init__") (env := PySem.W.ksEnv qual (defScope st) s.heap.objs.size f cdv cc) (f := f) (cc := c) (ar := ar) (fd := PySem.W.fnX x qual (defArgs st) (defBody st) (defScope st) [("__class__", cc)] .none kV doc pm an cdv ct) S.ks S.kc (by decide) rfl (X1 _ _ lk) rfl har ecd (X1 _ _ hcode) rfl hvs' hz htop ?_
  refine PySem.W.ks_loadName_global S.kind S.ks (PySem.Calls.loadGlobal_builtin (env := PySem.W.ksEnv qual (defScope st) s.heap.objs.size f cdv cc) (e0.mod.glob.keeps up0) (PySem.W.mg_none_of e0.mod.kin e0.mod.glob O.bsup) (hmb.keeps up0) ((hbb _ (by decide +kernel)).trans (by decide +kernel)) ⟨rfl, ?_⟩)
  refine wpAny_loadName_free S.kind S.kc rfl ⟨_, X1 _ _ hcell, rfl⟩ ?_
  refine wpAny_loadName_local S.kind hka hns hself2 ?_
  refine PySem.ks_wpAny_isType_cls hD1 hD2 ⟨rfl, ?_⟩
  refine PySem.ks_wpAny_call_super hD1 hD2 J.at_ J.cls (fun c e => ?_) (PySem.W.looks_mroIn X1 O.mro) (fun h' es' kk => ?_)
  · have := J.no
    unfold PySem.W.notCls at this
    rw [e] at this
    exact Bool.noConfusion this
  -- the super object stands; its __init__, bound
  have I2 := I.kept (h' := h') (t' := s.toks + (ps.zip us).length) kk
  have X2 : K.In h' := X1.keeps kk
  have hal : PySem.W.alongIn K "__init__" ((cdD.mro.dropWhile (· != .ref D)).drop 1) = some (some (.ref f2)) := by
    have q := O.sup
    unfold PySem.W.ks_superIn at q
    rw [hcD] at q
    exact q
  refine PySem.ks_wpAny_getMethod_super es' (PySem.W.looks_opaque X2 O.thrd) (l₀ := cdD.mro) ?_ rfl X2 hal (X2 _ _ hof) hofc (PySem.W.ks_ne X1 J hcD) (by decide) ?_
  · exact fun A Q E s k q => wpAny_bind ((PySem.W.looks_clsIn X2 hcD) A _ E s k (wpAny_pure q))
  have km : ∀ b o, h'.get? b = some o → (h'.push { cls := .type "method", data := .fields #[.ref f2, .ref xa] }).get? b = some o := fun b o q => Heap.get?_push_of_some _ q
  have I3 := I2.kept (h' := h'.push { cls := .type "method", data := .fields #[.ref f2, .ref xa] }) (t' := s.toks + (ps.zip us).length + 1) km
  have hq3 : (h'.push { cls := .type "method", data := .fields #[.ref f2, .ref xa] }).get? h'.objs.size = some (PySem.W.methodObj (.ref f2) (.ref xa)) := Heap.get?_push_at rfl rfl
  have I4 := I3.pins_of (pins' := [(h'.objs.size, PySem.W.methodObj (.ref f2) (.ref xa))]) fun p hp => by
    have e : p = (h'.objs.size, PySem.W.methodObj (.ref f2) (.ref xa)) := by simpa using hp
    subst e
    exact ⟨hq3, I2.hok.fresh (Nat.le_refl _), Nat.ne_of_gt I2.lt, I2.nofs (Nat.le_refl _), fun v q => nomatch q⟩
  have hE : (backToKw pos (keywordEach [] (PySem.W.ksEnv qual (defScope st) s.heap.objs.size f cdv cc))) = [] := rfl
  rw [hst]
  refine PySem.W.callWith_of (P := PySem.W.MethP K h'.objs.size f2 (.ref xa)) (by show ((false || (backTo pos (starEach es _)).any (fun x => x.1)) || false) = false; rw [hpl]; rfl) (PySem.W.keeps_M O.fi) (Calls.evalArgs_plain ?_)
  have hrun := (ha cdv cc A outer s H E).run pos _ _ _ _ _ I4 hta
  rw [hst] at hrun
  refine thn hrun fun us2 s4 ⟨vs2, H2, I5, r2, q2⟩ => ?_
  have hm4 : s4.heap.get? h'.objs.size = some (PySem.W.methodObj (.ref f2) (.ref xa)) := (I5.pin _ (List.mem_cons_self ..)).1
  refine ⟨⟨hm4, I5.kIn⟩, wpAny_call (PySem.W.method_call hm4 ?_)⟩
  have hr2 : Room k (supCx P w K mg base N qual (defScope st) f cdv cc A outer s H E).A := hr.deeper _
  refine codeAny_mono (run_fnR (us := .ref xa :: us2) (vs := .ref xa :: vs2) ((F2.raw b2 .nil).imp fun vs H Q E q => by rw [List.append_nil]; exact q) hr2 (passes_call (takes_of rfl rfl rfl rfl) fun _ _ _ _ q => q) I5 (.cons rfl r2) q2) fun rr s5 hq5 => ?_
  cases rr with
  | error er => exact hq5
  | ok fl =>
    cases fl with
    | ret u =>
      obtain ⟨v, H', J5, _, q⟩ := hq5
      exact wpAt_of_wpAny (wpAny_execs_nil ⟨.non, H', J5.os, J5.bare, J5.base, J5.hok, rfl, q⟩)
    | next => exact False.elim hq5
    | brk => exact False.elim hq5
    | cont => exact False.elim hq5
theorem FunC.binds {K : Frag} {x qual y : Str} {st : Stmt} {f : Addr} {ps : List Str} (F : FunC K x qual y st f)
    (h : ∀ (cc : Addr) (kV doc pm : Value) (an : Option Addr) (cdv ct : Value) (us : List Value), us.length = ps.length → bindArgs (PySem.W.fnX x qual (defArgs st) (defBody st) (defScope st) [(y, cc)] .none kV doc pm an cdv ct) ⟨us, []⟩ = pure (ps.zip us)) : L2.Binds K (fdAt K f) ps [] := by
  obtain ⟨oc, od, cc, kV, doc, pm, an, cdv, ct, osl, lk, hcd⟩ := F.ex
  have efd : fdAt K f = PySem.W.fnX x qual (defArgs st) (defBody st) (defScope st) [(y, cc)] .none kV doc pm an cdv ct := by
    unfold fdAt
    rw [lk]
  rw [efd]
  exact .all (h cc kV doc pm an cdv ct)
end Fw

/-! Fw, part C: lines of any kind; calls by keywords alone; what stays of the heap. -/
namespace Fw
open PySem PySem.Spec PyProof.Rows L2
open He (ga ma eqO eqO_ok)
/-! ### calls -/
/-- f(k = v, ..), no positional value -/
theorem pe_callN0 {X : Cx} {CX : CXT} {k : Nat} {f : Addr} {fd : FuncData} {ps ks : List Str} {sp : Sp} {E : XK} {x : Str} {p pos : Pos} {kws : List Keyword} {tk : TA} {g : List Value → List Value → List Value} {gV : List V → List V → List V}
    (F : FnOk X.prog X.w X.K X.mg X.base CX k f fd ps sp) (hr : Room k X.A) (hg : Gl X x) (hm : X.mg x = some (.ref f)) (hk : PySem.W.keepIn X.K (.ref f) = true) (hb : KBn X.K fd ps 0 ks g gV) (hx : Passes CX X E) (hkw : PK X kws tk)
    (hall : (backToKw pos (keywordEach kws X.env)).all (fun q => q.1.isSome) = true := by rfl) (hks : (backToKw pos (keywordEach kws X.env)).filterMap (fun q => q.1) = ks := by rfl) (hdb : (x == ("__debug__" : Str)) = false := by decide)
    (hpl : ((backTo pos (starEach [] X.env)).any (fun q => q.1) || (backToKw pos (keywordEach kws X.env)).any (fun q => q.1.isNone)) = false := by rfl) :
    PE X (.Call (.Name x p) [] kws pos) (tCallN 0 ks.length sp gV E tNil tk) := by
  refine ⟨fun pins s σ H Q I h => ?_⟩
  refine wpAny_Call_Name_kw (ld_glob I hg hm ?_ hdb)
  refine PySem.W.callWith_KW0 (h₀ := X.base) I.ok.mod.kin hk hall ?_ hpl
  refine thn (hkw.run pos pins s σ H _ I h) fun ws s2 ⟨zs, H2, I2, rz, l1, l2, q2⟩ => ⟨I2.kIn, ?_⟩
  rw [hks]
  exact run_fnN (us := []) (vs := []) F hr hb hx I2 .nil rz rfl l2 q2
/-- how keywords bind where the def has no defaults: h by cases of the lists, each one rfl -/
theorem Fun.kb {K : Frag} {x qual : Str} {st : Stmt} {f : Addr} {fd : FuncData} {ps : List Str} (F : Fun K x qual st f fd) (n : Nat) (ks : List Str) (g : {α : Type} → List α → List α → List α)
    (hrel : ∀ {vs zs : List V} {us ws : List Value}, Vals vs us → Vals zs ws → Vals (g vs zs) (g us ws))
    (h : ∀ (kV doc pm : Value) (an : Option Addr) (cdv ct : Value) (us ws : List Value), us.length = n → ws.length = ks.length → bindArgs (PySem.W.fnOf x qual (defArgs st) (defBody st) (defScope st) .none kV doc pm an cdv ct) ⟨us, ks.zip ws⟩ = pure (ps.zip (g us ws))) :
    KBn K fd ps n ks g g := by
  obtain ⟨oc, od, kV, doc, pm, an, cdv, ct, osl, rfl, lk, hcd⟩ := F.ex
  exact ⟨fun s us ws _ l1 l2 => .of_eq (h kV doc pm an cdv ct us ws l1 l2), fun r1 r2 => hrel r1 r2⟩
/-- the items at these places -/
def pick {α : Type} (l : List α) (is : List Nat) : List α := is.filterMap fun i => l[i]?
theorem Vals.pick {vs : List V} {us : List Value} (r : Vals vs us) (is : List Nat) : Vals (Fw.pick vs is) (Fw.pick us is) := by
  unfold Fw.pick
  induction is with
  | nil => exact .nil
  | cons i is ih =>
    rw [List.filterMap_cons, List.filterMap_cons]
    cases e : vs[i]? with
    | none => rw [r.none_of e]; exact ih
    | some v =>
      obtain ⟨u, hu, rv⟩ := r.get e
      rw [hu]
      exact .cons rv ih
/-! ### lines -/
inductive LK where
  | line | walk | stop
  deriving DecidableEq
def cA (K : Frag) : LK → Addr
  | .line => ga K "Line"
  | .walk => ga K "Walk"
  | .stop => ga K "Stop"
/-- the numbers of a line -/
structure N3 where
  e : Int
  a : Int
  r : Int
  deriving DecidableEq
def N3.ok (n : N3) : Prop := 1 ≤ n.e ∧ 0 ≤ n.a ∧ n.a < n.e ∧ 0 ≤ n.r
def lf (n : N3) : List (Str × V) := putF "held_ride" (.int n.r) (putF "held_at" (.int n.a) (putF "held_every" (.int n.e) []))
theorem lf_e (n : N3) : (lf n).lookup ("held_every" : Str) = some (.int n.e) := by
  unfold lf
  rw [lookup_putF, if_neg (by decide +kernel), lookup_putF, if_neg (by decide +kernel), lookup_putF, if_pos rfl]
theorem lf_a (n : N3) : (lf n).lookup ("held_at" : Str) = some (.int n.a) := by
  unfold lf
  rw [lookup_putF, if_neg (by decide +kernel), lookup_putF, if_pos rfl]
theorem lf_r (n : N3) : (lf n).lookup ("held_ride" : Str) = some (.int n.r) := by
  unfold lf
  rw [lookup_putF, if_pos rfl]
theorem lf_no (n : N3) {m : Str} (h1 : ¬ m = "held_ride") (h2 : ¬ m = "held_at") (h3 : ¬ m = "held_every") : (lf n).lookup m = none := by
  unfold lf
  rw [lookup_putF, if_neg h1, lookup_putF, if_neg h2, lookup_putF, if_neg h3]
  rfl
/-- at a stands a line of the kind k with the numbers n -/
def LnAt (K : Frag) (H : Hp) (a : Addr) (k : LK) (n : N3) : Prop := ∃ dx, H a = some (.ins (cA K k) dx (lf n))
theorem LnAt.same {K : Frag} {H H' : Hp} {a : Addr} {k : LK} {n : N3} (h : LnAt K H a k n) (s : Same H H') : LnAt K H' a k n := let ⟨dx, e⟩ := h; ⟨dx, s _ _ e⟩
/-- what the top must say of the three classes -/
structure LnF (K : Frag) : Prop where
  cls : ∀ k, Cls K (cA K k)
  nE : ∀ k, NoAttr K (cA K k) "held_every"
  nA : ∀ k, NoAttr K (cA K k) "held_at"
  nR : ∀ k, NoAttr K (cA K k) "held_ride"
/-- e.f, a property of lines whose getter hands back the field hf -/
def tLG (K : Frag) (ta : TE) (g : N3 → Int) : TE := fun σ H Q => ta σ H fun x H1 => ∃ a k n, x = .ref a ∧ LnAt K H1 a k n ∧ Q (.int (g n)) H1
theorem pe_lget {X : Cx} {f hf : Str} {g : Addr} {fd : FuncData} {e : Expr} {pos : Pos} {ta : TE} {gg : N3 → Int} (he : PE X e ta) (L : LnF X.K) (hp : ∀ k, ∃ p, PropOf X.K (cA X.K k) f p g)
    (F : ∀ k, FnOk X.prog X.w X.K X.mg X.base (L2.CX X.prog X.w) 1 g fd ["self"] (getSp (cA X.K k) hf)) (hb : Binds X.K fd ["self"] []) (hr : Room 2 X.A) (hl : ∀ n, (lf n).lookup hf = some (.int (gg n)))
    (hab : attributeBase e f X.env (eval e X.env) = eval e X.env) : PE X (.Attribute e f pos) (tLG X.K ta gg) := by
  refine ⟨fun pins s σ H Q I h => ?_⟩
  refine attr_of hab (thn (he.run pins s σ H _ I h) fun u s1 ⟨x, H1, I1, rx, a, k, n, ex, ⟨dx, ea⟩, q⟩ => ?_)
  subst ex
  obtain rfl : u = Value.ref a := rx
  obtain ⟨p, hp⟩ := hp k
  exact getprop_ok I1 ea (L.cls k) hp (F k) hr hb .nil passL ⟨a, dx, _, _, rfl, ea, hl n, q⟩
theorem ok_getter {P : Program} {w : World} {K : Frag} {mg : Str → Option Value} {base : Heap} {CX : CXT} {x qual hf : Str} {st : Stmt} {g C : Addr} {fd : FuncData} {N : List Str} {p1 p2 p3 : Pos} (F : Fun K x qual st g fd) (S : FnScope N ["self"] (defScope st))
    (hN : N[0]? = some ("self" : Str)) (hb : defBody st = [.Return (some (.Attribute (.Name "self" p1) hf p2)) p3]) (c : Cls K C) (n : NoAttr K C hf) : FnOk P w K mg base CX 1 g fd ["self"] (getSp C hf) := by
  obtain ⟨oc, od, kV, doc, pm, an, cdv, ct, osl, rfl, lk, hcd⟩ := F.ex
  exact fn_getter lk hcd S hN hb c n
/-- o.m(e, ..), o a line, m the same def in all three classes -/
def tLM (K : Frag) (sp : Sp) (E : XK) (ta : TE) (t : TA) : TE := fun σ H Q => ta σ H fun x H1 => ∃ a k n, x = .ref a ∧ LnAt K H1 a k n ∧ t σ H1 fun vs H2 => sp (.ref a :: vs) H2 Q E
theorem pe_lmeth {X : Cx} {k0 : Nat} {f : Addr} {fd : FuncData} {ps : List Str} {sp : Sp} {E : XK} {m : Str} {pos apos : Pos} {e o : Expr} {es : List Expr} {ta : TE} {t : TA} {pl : Sem Bool} (he : PE X o ta) (L : LnF X.K) (hm : ∀ k, Meth X.K (cA X.K k) m f)
    (F : FnOk X.prog X.w X.K X.mg X.base (L2.CX X.prog X.w) k0 f fd ps sp) (hr : Room k0 X.A) (hb : Binds X.K fd ps []) (hx : Passes (L2.CX X.prog X.w) X E) (ha : PA X (e :: es) t)
    (n1 : ¬ m = "held_ride" := by decide +kernel) (n2 : ¬ m = "held_at" := by decide +kernel) (n3 : ¬ m = "held_every" := by decide +kernel)
    (hst : starEach (e :: es) X.env = (false, eval e X.env) :: starEach es X.env := by rfl) (hpl : (backTo pos (starEach es X.env)).any (fun q => q.1) = false := by rfl)
    (ht : eval (.Call (.Attribute o m apos) (e :: es) [] pos) X.env = (do
      let ov ← eval o X.env
      standAt apos.atName
      let (g, first) ← holding [ov] (getMethod ov m pl)
      callWith pos g first (backTo pos (starEach (e :: es) X.env)) (backToKw pos (keywordEach [] X.env))) := by rfl) :
    PE X (.Call (.Attribute o m apos) (e :: es) [] pos) (tLM X.K sp E ta t) := by
  refine ⟨fun pins s σ H Q I h => ?_⟩
  refine PySem.W.methodCall_KW (pl := pl) (thn (he.run pins s σ H _ I h) fun u s1 ⟨x, H1, I1, rx, a, k, n, ex, ⟨dx, ea⟩, q⟩ => ?_) ht
  subst ex
  obtain rfl : u = Value.ref a := rx
  refine getmeth_ok I1 ea (L.cls k) (hm k) (lf_no n n1 n2 n3) ?_
  refine PySem.W.callWith_K (first := [.ref a]) (h₀ := X.base) I.ok.mod.kin (hm k).kp (thn (ha.run pos pins s1 σ H1 _ I1 q) fun us s2 ⟨vs, H2, I2, r, q2⟩ => ⟨I2.kIn, ?_⟩) hst hpl
  exact run_fn (us := .ref a :: us) (vs := .ref a :: vs) F hr hb .nil hx I2 (.cons rfl r) (by rw [List.append_nil]; exact q2)
/-- o.m(), o a line -/
theorem pe_lmeth0 {X : Cx} {k0 : Nat} {f : Addr} {fd : FuncData} {ps : List Str} {sp : Sp} {E : XK} {m : Str} {pos apos : Pos} {o : Expr} {ta : TE} {pl : Sem Bool} (he : PE X o ta) (L : LnF X.K) (hm : ∀ k, Meth X.K (cA X.K k) m f)
    (F : FnOk X.prog X.w X.K X.mg X.base (L2.CX X.prog X.w) k0 f fd ps sp) (hr : Room k0 X.A) (hb : Binds X.K fd ps []) (hx : Passes (L2.CX X.prog X.w) X E)
    (n1 : ¬ m = "held_ride" := by decide +kernel) (n2 : ¬ m = "held_at" := by decide +kernel) (n3 : ¬ m = "held_every" := by decide +kernel)
    (ht : eval (.Call (.Attribute o m apos) [] [] pos) X.env = (do
      let ov ← eval o X.env
      standAt apos.atName
      let (g, first) ← holding [ov] (getMethod ov m pl)
      callWith pos g first (backTo pos (starEach [] X.env)) (backToKw pos (keywordEach [] X.env))) := by rfl) :
    PE X (.Call (.Attribute o m apos) [] [] pos) (tLM X.K sp E ta tNil) := by
  refine ⟨fun pins s σ H Q I h => ?_⟩
  refine PySem.W.methodCall_KW (pl := pl) (thn (he.run pins s σ H _ I h) fun u s1 ⟨x, H1, I1, rx, a, k, n, ex, ⟨dx, ea⟩, q⟩ => ?_) ht
  subst ex
  obtain rfl : u = Value.ref a := rx
  refine getmeth_ok I1 ea (L.cls k) (hm k) (lf_no n n1 n2 n3) ?_
  exact PySem.W.callWith_K0 (first := [.ref a]) I1.kIn (hm k).kp (run_fn (us := [.ref a]) (vs := [.ref a]) F hr hb .nil hx I1 (.cons rfl .nil) (by rw [List.append_nil]; exact q))
/-- line(e, ..) -/
theorem pe_lcall {X : Cx} {k0 : Nat} {g : Addr} {sp : Sp} {E : XK} {fe e : Expr} {es : List Expr} {tf : TE} {t : TA} {pos : Pos} (hf : PE X fe tf) (c : ∀ k, StX.CallO X.K (cA X.K k) g) (F : FnR X.prog X.w X.K X.mg X.base (L2.CX X.prog X.w) k0 g sp) (hr : Room k0 X.A) (hx : Passes (L2.CX X.prog X.w) X E)
    (ha : PA X (e :: es) t) (ht : eval (.Call fe (e :: es) [] pos) X.env = (do callWith pos (← eval fe X.env) [] (backTo pos (starEach (e :: es) X.env)) (backToKw pos (keywordEach [] X.env))) := by rfl)
    (he : starEach (e :: es) X.env = (false, eval e X.env) :: starEach es X.env := by rfl) (hpl : (backTo pos (starEach es X.env)).any (fun q => q.1) = false := by rfl) :
    PE X (.Call fe (e :: es) [] pos) (fun σ H Q => tf σ H fun y H1 => ∃ a, y = V.ref a ∧ t σ H1 fun vs H2 => (∃ k n, LnAt X.K H2 a k n) ∧ sp (V.ref a :: vs) H2 Q E) := by
  refine ⟨fun pins s σ H Q I h => ?_⟩
  refine Call_ (thn (hf.run pins s σ H _ I h) fun u s1 ⟨y, H1, I1, ry, a, ey, q⟩ => ?_) ht
  subst ey
  obtain rfl : u = Value.ref a := ry
  refine StX.callO_with (thn (ha.run pos pins s1 σ H1 _ I1 q) fun us s2 ⟨vs, H2, I2, r, ⟨k, n, dx, hi⟩, q2⟩ => ?_) he hpl
  have hI : StX.InsC X H2 a (cA X.K k) := .inr ⟨dx, _, hi⟩
  obtain ⟨ox, od, J, hd⟩ := StX.insC_at I2 hI
  exact ⟨⟨_, ox, od, J, hd⟩, StX.run_callO (c k) F hr hx I2 hI r q2⟩

/-! ### heaps: what stays -/
/-- all but what M holds is as it was -/
def Ext (M : Addr → Prop) (H H' : Hp) : Prop := ∀ b o, ¬ M b → H b = some o → H' b = some o
theorem Ext.refl {M : Addr → Prop} {H : Hp} : Ext M H H := fun _ _ _ e => e
theorem Ext.trans {M : Addr → Prop} {H H1 H2 : Hp} (a : Ext M H H1) (b : Ext M H1 H2) : Ext M H H2 := fun c o n e => b c o n (a c o n e)
theorem Ext.same {M : Addr → Prop} {H H' : Hp} (s : Same H H') : Ext M H H' := fun b o _ e => s b o e
theorem Same.new {H : Hp} {p : Addr} {o : HO} (h : H p = none) : Same H (upd H p o) := fun b u e => by rw [upd_ne (ne_of_none e h)]; exact e
theorem Ext.new {M : Addr → Prop} {H : Hp} {p : Addr} {o : HO} (h : H p = none) : Ext M H (upd H p o) := Ext.same (Same.new h)
end Fw

/-! Fw, part D: the tank of draws; numbers; the mathematics of one line taken again and again. -/
namespace Fw
open PySem PySem.Spec PyProof.Rows L2
/-! ### great numbers -/
theorem pow_lt_two {n : Nat} {i : Int} (h1 : -(2 ^ n : Int) < i) (h2 : i < (2 ^ n : Int)) : i.natAbs < 2 ^ n := by
  have e : ((2 ^ n : Nat) : Int) = (2 : Int) ^ n := by simp
  rw [← e] at h1 h2
  omega
/-- i lies within b bits -/
def Sz (b : Nat) (i : Int) : Prop := i.natAbs < 2 ^ b
theorem Sz.of {b : Nat} {i : Int} (h1 : -(2 ^ b : Int) < i) (h2 : i < (2 ^ b : Int)) : Sz b i := pow_lt_two h1 h2
theorem Sz.mono {a b : Nat} {i : Int} (h : Sz a i) (l : a ≤ b) : Sz b i := Nat.lt_of_lt_of_le h (Nat.pow_le_pow_right (by decide) l)
theorem Sz.mul {a b : Nat} {i j : Int} (h : Sz a i) (g : Sz b j) : Sz (a + b) (i * j) := wide_lt h g
theorem Sz.add {a : Nat} {i j : Int} (h : Sz a i) (g : Sz a j) : Sz (a + 1) (i + j) := by
  unfold Sz at *
  rw [Nat.pow_succ]
  omega
theorem Sz.sub {a : Nat} {i j : Int} (h : Sz a i) (g : Sz a j) : Sz (a + 1) (i - j) := by
  unfold Sz at *
  rw [Nat.pow_succ]
  omega
theorem Sz.mod {a : Nat} {i j : Int} (h : 0 < j) (g : Sz a j) : Sz a (i % j) := by
  have h1 := Int.emod_nonneg i (show j ≠ 0 by omega)
  have h2 := Int.emod_lt_of_pos i h
  unfold Sz at *
  omega
theorem Sz.cmul {a b : Nat} {i j : Int} (h : Sz a i) (g : Sz b j) (ha : 0 < a := by decide) (hb : 0 < b := by decide) (l : a + b ≤ 1000000 := by decide) : CMulW i j := wide_mul h g ha hb l
theorem Sz.div {b : Nat} {i j : Int} (h : 0 < j) (g : Sz b j) (hb : 0 < b := by decide) (l : b ≤ 9000 := by decide) : CDivW i j := wide_div h g hb l
theorem Sz.le {a : Nat} {i j : Int} (h0 : 0 ≤ i) (h : i ≤ j) (g : Sz a j) : Sz a i := wide_le h0 h g
/-! ### the tank: a list [c, mixed, drawn], c the list of the digits -/
def tkM (a c : Addr) (b : Addr) : Prop := b = a ∨ b = c
abbrev M127 : Int := 170141183460469231731687303715884105727
/-- N draws may still be made -/
def Tk (a c : Addr) (N : Nat) (H : Hp) : Prop := ∃ (ds : List Int) (m n : Int), H a = some (.lst [.ref c, .int m, .int n]) ∧ H c = some (.lst (ds.map V.int)) ∧ ds.length ≤ 100 ∧ 0 ≤ m ∧ m < M127 ∧ 0 ≤ n ∧ n + (N : Int) ≤ 2 ^ 40
theorem Tk.less {a c : Addr} {N N' : Nat} {H : Hp} (h : Tk a c N H) (l : N' ≤ N) : Tk a c N' H := by
  obtain ⟨ds, m, n, h1, h2, h3, h4, h5, h6, h7⟩ := h
  exact ⟨ds, m, n, h1, h2, h3, h4, h5, h6, by omega⟩
theorem Tk.same {a c : Addr} {N : Nat} {H H' : Hp} (h : Tk a c N H) (s : Same H H') : Tk a c N H' := by
  obtain ⟨ds, m, n, h1, h2, h3⟩ := h
  exact ⟨ds, m, n, s _ _ h1, s _ _ h2, h3⟩
theorem Tk.ne {a c : Addr} {N : Nat} {H : Hp} (h : Tk a c N H) : a ≠ c := by
  obtain ⟨ds, m, n, h1, h2, _⟩ := h
  intro e
  subst e
  rw [h1] at h2
  cases ds with
  | nil => cases h2
  | cons d r => cases h2
/-- an object that is no list is none of the tank's -/
theorem Tk.out {a c p : Addr} {N : Nat} {H : Hp} {o : HO} (h : Tk a c N H) (e : H p = some o) (d : ∀ xs, o ≠ .lst xs) : ¬ tkM a c p := by
  obtain ⟨ds, m, n, h1, h2, _⟩ := h
  rintro (rfl | rfl)
  · rw [h1] at e; cases e; exact d _ rfl
  · rw [h2] at e; cases e; exact d _ rfl
theorem Tk.fresh {a c p : Addr} {N : Nat} {H : Hp} (h : Tk a c N H) (e : H p = none) : ¬ tkM a c p := by
  obtain ⟨ds, m, n, h1, h2, _⟩ := h
  rintro (rfl | rfl)
  · rw [h1] at e; cases e
  · rw [h2] at e; cases e
theorem Tk.tup {a c p : Addr} {N : Nat} {H H' : Hp} {xs : List V} (h : Tk a c N H) (x : Ext (tkM a c) H H') (e : H p = some (.tup xs)) : H' p = some (.tup xs) := x _ _ (h.out e fun _ z => nomatch z) e
theorem Tk.line {K : Frag} {a c p : Addr} {N : Nat} {H H' : Hp} {k : LK} {n : N3} (h : Tk a c N H) (x : Ext (tkM a c) H H') (e : LnAt K H p k n) : LnAt K H' p k n := let ⟨dx, e⟩ := e; ⟨dx, x _ _ (h.out e fun _ z => nomatch z) e⟩
theorem Tk.script {K : Frag} {a c p : Addr} {N : Nat} {H H' : Hp} {xs : List V} (h : Tk a c N H) (x : Ext (tkM a c) H H') (e : SqL K H p xs) (hn : ¬ tkM a c p) : SqL K H' p xs := by
  rcases e with (e | ⟨o, e⟩) | e
  · exact .inl (.inl (x _ _ hn e))
  · exact .inl (.inr ⟨o, x _ _ hn e⟩)
  · exact .inr e
/-- sip(tank, many): some number below many, and one draw less -/
def spSip (K : Frag) : Sp := fun vs H Q _ => ∃ (a c : Addr) (N : Nat) (m : Int), vs = [.ref a, .int m] ∧ Tk a c (N + 1) H ∧ 1 ≤ m ∧ Sz 8000 m ∧
  ∀ (v : Int) (H' : Hp), 0 ≤ v → v < m → Ext (tkM a c) H H' → Tk a c N H' → Q (.int v) H'
/-- what the deep == says of a list of ints and the empty list -/
theorem eqv_nil (ds : List PyData) : PyData.eqv (.list ds) (.list []) = decide (ds = []) := by
  cases ds with
  | nil => rfl
  | cons d r => rfl
theorem dpAll_ints {K : Frag} {H : Hp} : ∀ ds : List Int, DpAll K H (ds.map V.int) (ds.map PyData.int)
  | [] => .nil
  | d :: r => .cons (.int d) (dpAll_ints r)
theorem canLay_ints : ∀ ds : List Int, PyData.canLayAll0 (ds.map PyData.int) = true
  | [] => by simp [PyData.canLayAll0]
  | d :: r => by
    rw [List.map_cons]
    simp only [PyData.canLayAll0, PyData.canLay0, canLay_ints r, Bool.and_self]
theorem depth_ints : ∀ ds : List Int, PyData.depthAll (ds.map PyData.int) = 0
  | [] => by simp [PyData.depthAll]
  | d :: r => by
    rw [List.map_cons]
    simp only [PyData.depthAll, PyData.depth, depth_ints r, Nat.max_self]
theorem shaped_ints (ds : List Int) : SeqAt.shaped (.list (ds.map PyData.int)) = true := by
  unfold SeqAt.shaped
  simp only [PyData.canLay0, canLay_ints, PyData.depth, depth_ints, Bool.true_and]
  decide
theorem ifT {p A B : Prop} [Decidable p] (h : p) (a : A) : if decide p = true then A else B := by
  rw [if_pos (decide_eq_true h)]
  exact a
theorem ifF {p A B : Prop} [Decidable p] (h : ¬ p) (b : B) : if decide p = true then A else B := by
  rw [if_neg (by rw [decide_eq_false h]; exact Bool.false_ne_true)]
  exact b
theorem ifD {p A B : Prop} [Decidable p] (h : p → A) (g : ¬ p → B) : if decide p = true then A else B := by
  by_cases c : p
  · exact ifT c (h c)
  · exact ifF c (g c)
theorem qT {p : Prop} [Decidable p] {Q : VK} {H : Hp} (h : p) (q : Q (.bl true) H) : Q (.bl (decide p)) H := by
  rw [decide_eq_true h]
  exact q
theorem qF {p : Prop} [Decidable p] {Q : VK} {H : Hp} (h : ¬ p) (q : Q (.bl false) H) : Q (.bl (decide p)) H := by
  rw [decide_eq_false h]
  exact q
theorem at0 {α : Type} {x : α} {xs : List α} : atI (x :: xs) 0 = some x := atI_nat (j := 0) rfl
theorem ix0 {n : Nat} : ixN (n + 1) 0 = some 0 := by
  unfold ixN
  rw [if_pos (by decide), if_pos (by omega)]
  rfl
theorem sq0 {n : Nat} : seqIndex? 0 (n + 1) = some 0 := by
  have h := (ixN_seq (ix0 (n := n))).1
  exact h
theorem Sz.m127 {m : Int} (h0 : 0 ≤ m) (h1 : m < M127) : Sz 127 m := by
  have a : (0 : Int) < 2 ^ 127 := by decide
  exact Sz.of (by omega) (Int.lt_of_lt_of_le h1 (by decide))
theorem Sz.n40 {n : Int} (h0 : 0 ≤ n) (h1 : n ≤ 2 ^ 40) : Sz 41 n := by
  have a : (0 : Int) < 2 ^ 41 := by decide
  have b : (2 : Int) ^ 40 < 2 ^ 41 := by decide
  exact Sz.of (by omega) (by omega)
/-- the items of a cut list of ints -/
def cutI (ns : List Int) (lo hi : Option Int) : List Int := (ns.drop (HT.sIx ns.length 0 lo)).take (HT.sIx ns.length ns.length hi - HT.sIx ns.length 0 lo)
theorem cutV_ints (ns : List Int) (lo hi : Option Int) : cutV (ns.map V.int) lo hi = (cutI ns lo hi).map V.int := by
  unfold cutV cutI
  rw [List.length_map, List.map_take, List.map_drop]
theorem cutI_le (ns : List Int) (lo hi : Option Int) : (cutI ns lo hi).length ≤ ns.length := by
  unfold cutI
  rw [List.length_take, List.length_drop]
  omega
theorem get_ints {ns : List Int} {i : Nat} {x : V} (h : (ns.map V.int)[i]? = some x) : ∃ z, ns[i]? = some z ∧ x = .int z := by
  rw [List.getElem?_map] at h
  cases e : ns[i]? with
  | none => rw [e] at h; cases h
  | some z => rw [e] at h; exact ⟨z, rfl, (Option.some.inj h).symm⟩
/-! ### rounds -/
def dep (n : N3) (t : Int) : Int := t + (n.a - t) % n.e
def rl (n : N3) : Int := n.r + (0 - n.r) % n.e
def arr (n : N3) (t m : Int) : Int := dep n t + (m - 1) * rl n + n.r
def optV : Option Int → V
  | none => .non
  | some i => .int i
def ovt (x y : N3) (t : Int) : Option Int := if arr y t 1 - arr x t 1 < 0 then some 1 else if 0 < rl x - rl y then some (2 + (arr y t 1 - arr x t 1) / (rl x - rl y)) else none
/-- the time from the first departure to the end of m rounds -/
def RR (n : N3) (m : Int) : Int := (m - 1) * rl n + n.r
theorem arr_RR (n : N3) (t m : Int) : arr n t m = dep n t + RR n m := by
  unfold arr RR
  omega
theorem rl_dvd {n : N3} (h : 0 < n.e) : ∃ k, rl n = n.e * k := by
  unfold rl
  have e := Int.emod_add_mul_ediv (0 - n.r) n.e
  refine ⟨-((0 - n.r) / n.e), ?_⟩
  rw [Int.mul_neg]
  omega
theorem RR_mod {n : N3} (h : 0 < n.e) (m : Int) : (0 - RR n m) % n.e = (0 - n.r) % n.e := by
  obtain ⟨k, e⟩ := rl_dvd h
  unfold RR
  rw [e, show (0 : Int) - ((m - 1) * (n.e * k) + n.r) = (0 - n.r) + n.e * (-((m - 1) * k)) by
    rw [Int.mul_neg, Int.mul_left_comm]
    omega]
  exact Int.add_mul_emod_self_left ..
theorem RR_add {n : N3} (h : 0 < n.e) (j k : Int) : RR n j + (0 - RR n j) % n.e + RR n k = RR n (j + k) := by
  rw [RR_mod h]
  have e : rl n = n.r + (0 - n.r) % n.e := rfl
  generalize hd : (0 - n.r) % n.e = d at e
  unfold RR
  rw [e]
  have e1 : (j + k - 1) * (n.r + d) = (j - 1) * (n.r + d) + (k - 1) * (n.r + d) + (n.r + d) := by
    rw [← Int.add_mul, show j + k - 1 = (j - 1 + (k - 1)) + 1 by omega, Int.add_mul _ 1, Int.one_mul]
  omega
theorem rl_nn {n : N3} (h : n.ok) : n.r ≤ rl n ∧ rl n < n.r + n.e := by
  obtain ⟨h1, h2, h3, h4⟩ := h
  have a := Int.emod_nonneg (0 - n.r) (show n.e ≠ 0 by omega)
  have b := Int.emod_lt_of_pos (0 - n.r) (show 0 < n.e by omega)
  unfold rl
  omega
theorem dep_le {n : N3} (h : n.ok) (t : Int) : t ≤ dep n t ∧ dep n t < t + n.e := by
  obtain ⟨h1, h2, h3, h4⟩ := h
  have a := Int.emod_nonneg (n.a - t) (show n.e ≠ 0 by omega)
  have b := Int.emod_lt_of_pos (n.a - t) (show 0 < n.e by omega)
  unfold dep
  omega
/-- the law's own arrival after m rounds -/
def farN (n : N3) (s m : Int) : Int := if m = 0 then s else arr n s m
theorem at_mem {α : Type} {xs : List α} {v : Int} (h0 : 0 ≤ v) (h1 : v < (xs.length : Int)) : ∃ x, atI xs v = some x ∧ x ∈ xs := by
  obtain ⟨j, rfl⟩ : ∃ j : Nat, v = (j : Int) := ⟨v.toNat, by omega⟩
  have hj : j < xs.length := by omega
  exact ⟨xs[j], atI_nat (List.getElem?_eq_getElem hj), List.getElem_mem hj⟩
theorem at_ints (is : List Int) {v : Int} (h0 : 0 ≤ v) (h1 : v < (is.length : Int)) : ∃ i, atI (is.map V.int) v = some (.int i) ∧ i ∈ is := by
  obtain ⟨x, e, m⟩ := at_mem (xs := is.map V.int) h0 (by rw [List.length_map]; exact h1)
  obtain ⟨i, hi, rfl⟩ := List.mem_map.mp m
  exact ⟨i, e, hi⟩
theorem mk_same {H : Hp} {x dx : Addr} {o o1 o2 : HO} (hx : H x = none) (hd : H dx = none) : Same H (upd (upd (upd H dx o) x o1) x o2) := fun b u e => by
  rw [upd_ne (ne_of_none e hx), upd_ne (ne_of_none e hx), upd_ne (ne_of_none e hd)]
  exact e
/-- a tuple of a line's three numbers -/
def T3 (H : Hp) (p : Addr) (n : N3) : Prop := H p = some (.tup [.int n.e, .int n.a, .int n.r])
theorem T3.same {H H' : Hp} {p : Addr} {n : N3} (h : T3 H p n) (s : Same H H') : T3 H' p n := s _ _ h
end Fw
namespace Fw
open PySem PySem.Spec PyProof.Rows L2
theorem lead_m (x y : N3) (s m : Int) (hm : 1 ≤ m) : farN x s m - farN y s m = (m - 1) * (rl x - rl y) - (arr y s 1 - arr x s 1) := by
  unfold farN
  rw [if_neg (by omega), if_neg (by omega)]
  unfold arr
  rw [Int.mul_sub]
  simp only [Int.sub_self, Int.zero_mul]
  omega
theorem ovt_right {x y : N3} {s : Int} (hA : arr y s 1 - arr x s 1 ≤ 10 ^ 60) :
    (ovt x y s = none ∧ arr x s 1 - arr y s 1 ≤ 0 ∧ rl x - rl y ≤ 0) ∨
    (∃ t, ovt x y s = some t ∧ ¬ (arr x s 1 - arr y s 1 ≤ 0 ∧ rl x - rl y ≤ 0) ∧ 1 ≤ t ∧ t ≤ 10 ^ 61 ∧ (1 < t → ¬ 0 < farN x s (t - 1) - farN y s (t - 1)) ∧ 0 < farN x s t - farN y s t) := by
  unfold ovt
  generalize hA' : arr y s 1 - arr x s 1 = A at *
  have eA : arr x s 1 - arr y s 1 = -A := by omega
  rw [eA]
  by_cases c : A < 0
  · rw [if_pos c]
    refine .inr ⟨1, rfl, by omega, by omega, by decide, fun h => absurd h (by decide), ?_⟩
    rw [lead_m x y s 1 (by decide), hA']
    simp only [Int.sub_self, Int.zero_mul]
    omega
  · rw [if_neg c]
    by_cases d : 0 < rl x - rl y
    · rw [if_pos d]
      have q0 : 0 ≤ A / (rl x - rl y) := Int.ediv_nonneg (by omega) (by omega)
      have q1 : A / (rl x - rl y) ≤ A := Int.ediv_le_self _ (by omega)
      have q2 := Int.emod_add_mul_ediv A (rl x - rl y)
      have q3 := Int.emod_nonneg A (show rl x - rl y ≠ 0 by omega)
      have q4 := Int.emod_lt_of_pos A d
      rw [Int.mul_comm] at q2
      refine .inr ⟨_, rfl, by omega, by omega, by omega, fun _ => ?_, ?_⟩
      · rw [lead_m x y s _ (by omega), hA', show 2 + A / (rl x - rl y) - 1 - 1 = A / (rl x - rl y) by omega]
        omega
      · rw [lead_m x y s _ (by omega), hA', show 2 + A / (rl x - rl y) - 1 = A / (rl x - rl y) + 1 by omega, Int.add_mul, Int.one_mul]
        omega
    · rw [if_neg d]
      exact .inl ⟨rfl, by omega, by omega⟩
end Fw

/-! Fw, part E: rounds. -/
namespace Fw
open PySem PySem.Spec PyProof.Rows L2
theorem farN_RR {n : N3} {s m : Int} (h : 1 ≤ m) : farN n s m = dep n s + RR n m := by
  unfold farN
  rw [if_neg (by omega), arr_RR]
theorem dep_mod {n : N3} (h : n.ok) (s : Int) : ∃ k, dep n s = n.a + n.e * k := by
  unfold dep
  have e := Int.emod_add_mul_ediv (n.a - s) n.e
  refine ⟨-((n.a - s) / n.e), ?_⟩
  rw [Int.mul_neg]
  omega
theorem farN_add {n : N3} (h : n.ok) {s m k : Int} (hm : 0 ≤ m) (hk : 0 ≤ k) : farN n (farN n s m) k = farN n s (m + k) := by
  by_cases m0 : m = 0
  · subst m0
    rw [Int.zero_add]
    unfold farN
    rw [if_pos rfl]
  by_cases k0 : k = 0
  · subst k0
    rw [Int.add_zero]
    generalize farN n s m = z
    unfold farN
    rw [if_pos rfl]
  have he : 0 < n.e := by have := h.1; omega
  rw [farN_RR (s := farN n s m) (by omega), farN_RR (s := s) (m := m) (by omega), farN_RR (by omega), ← RR_add he m k]
  obtain ⟨j, e⟩ := dep_mod h s
  have q : dep n (dep n s + RR n m) = dep n s + RR n m + (0 - RR n m) % n.e := by
    show dep n s + RR n m + (n.a - (dep n s + RR n m)) % n.e = _
    rw [show n.a - (dep n s + RR n m) = (0 - RR n m) + n.e * (-j) by rw [Int.mul_neg]; omega, Int.add_mul_emod_self_left]
  rw [q]
  omega
theorem Sz.log {b : Nat} {i : Int} (h : Sz b i) (hb : b ≤ 1920 := by decide) (h0 : 0 < b := by decide) : i.natAbs.log2 < 1920 := by
  by_cases z : i.natAbs = 0
  · rw [z]
    decide
  · have := (Nat.log2_lt z).mpr h
    omega
theorem dep_sz {n : N3} (h : n.ok) {s : Int} {b : Nat} (hs : Sz b s) (he : Sz b n.e) : Sz (b + 1) (dep n s) := by
  have d := dep_le h s
  have h1 := h.1
  unfold Sz at *
  rw [Nat.pow_succ]
  omega
def untl (n : N3) (t g : Int) : Option Int := if g ≤ t then some 0 else if g ≤ arr n t 1 then some 1 else if rl n = 0 then none else some (1 - (arr n t 1 - g) / rl n)
theorem arr1 (n : N3) (t : Int) : arr n t 1 = dep n t + n.r := by
  unfold arr
  simp only [Int.sub_self, Int.zero_mul]
  omega
theorem untl_some {n : N3} {t g : Int} (h : n.ok) (h0 : t < g) (h1 : ¬ (n.r = 0 ∧ dep n t + n.r < g)) :
    ∃ k, untl n t g = some k ∧ 1 ≤ k ∧ k ≤ g - t + rl n + 1 ∧ g ≤ farN n t k ∧ farN n t (k - 1) < g := by
  have d := dep_le h t
  have hr := rl_nn h
  have h4 := h.2.2.2
  unfold untl
  rw [if_neg (by omega), arr1]
  by_cases c : g ≤ dep n t + n.r
  · rw [if_pos c]
    refine ⟨1, rfl, by decide, by omega, ?_, ?_⟩
    · unfold farN
      rw [if_neg (by decide), arr1]
      exact c
    · unfold farN
      rw [if_pos (by decide)]
      exact h0
  · rw [if_neg c]
    have r0 : ¬ n.r = 0 := fun z => h1 ⟨z, by omega⟩
    have l0 : 0 < rl n := by omega
    rw [if_neg (by omega)]
    have e := Int.emod_add_mul_ediv (dep n t + n.r - g) (rl n)
    have m0 := Int.emod_nonneg (dep n t + n.r - g) (show rl n ≠ 0 by omega)
    have m1 := Int.emod_lt_of_pos (dep n t + n.r - g) l0
    have q0 : (dep n t + n.r - g) / rl n < 0 := Int.ediv_lt_of_lt_mul l0 (by omega)
    generalize (dep n t + n.r - g) / rl n = q at *
    generalize (dep n t + n.r - g) % rl n = r at *
    have q1 : rl n * q ≤ 1 * q := Int.mul_le_mul_of_nonpos_right (by omega) (by omega)
    refine ⟨1 - q, rfl, by omega, by omega, ?_, ?_⟩
    · unfold farN
      rw [if_neg (by omega)]
      unfold arr
      rw [show 1 - q - 1 = -q by omega, Int.neg_mul, Int.mul_comm q]
      omega
    · unfold farN
      rw [if_neg (by omega)]
      unfold arr
      rw [show 1 - q - 1 - 1 = -q - 1 by omega, Int.sub_mul, Int.neg_mul, Int.mul_comm q, Int.one_mul]
      omega
theorem untl_none {n : N3} {t g : Int} (h : n.ok) (h0 : t < g) (h1 : n.r = 0) (h2 : dep n t + n.r < g) : untl n t g = none := by
  have hr : rl n = 0 := by
    unfold rl
    rw [h1]
    simp
  unfold untl
  rw [if_neg (by omega), arr1, if_neg (by omega), if_pos hr]
/-! ### rounds one by one -/
def ends41 (n : N3) (s : Int) : List Int := (List.range 41).map fun (i : Nat) => farN n s i
/-! ### comprehensions -/
/-- i items of ys stand in the new list at D, all else is as in H1 -/
def LcP (H1 : Hp) (D : Addr) (ys : List V) (i : Nat) (H : Hp) : Prop := Same H1 H ∧ H D = some (.lst (ys.take i))
theorem LcP.start {H1 : Hp} {D : Addr} {ys : List V} (hD : H1 D = none) : LcP H1 D ys 0 (upd H1 D (.lst [])) := ⟨Same.new hD, upd_same⟩
theorem LcP.step {H1 H H4 : Hp} {D : Addr} {ys : List V} {i : Nat} {y : V} (p : LcP H1 D ys i H) (hD : H1 D = none) (hz : ys.length < sizeLine) (s : Same H H4) (hy : ys[i]? = some y) :
    ∃ acc, H4 D = some (.lst acc) ∧ acc.length < sizeLine ∧ LcP H1 D ys (i + 1) (upd H4 D (.lst (acc ++ [y]))) := by
  obtain ⟨p1, p2⟩ := p
  refine ⟨_, s _ _ p2, Nat.lt_of_le_of_lt (by rw [List.length_take]; omega) hz, fun b o e => ?_, ?_⟩
  · rw [upd_ne (ne_of_none e hD)]
    exact s _ _ (p1 _ _ e)
  · rw [upd_same, List.take_add_one, hy]
    rfl
theorem LcP.done {H1 H : Hp} {D : Addr} {ys : List V} {i : Nat} (p : LcP H1 D ys i H) (h : ys.length ≤ i) : H D = some (.lst ys) := by
  rw [p.2, List.take_of_length_le h]
end Fw

/-! Fw, part G: promises of defs that hold where no repr is under way; repr of data at any depth. -/
namespace Fw
open PySem PySem.Spec PyProof.Rows L2
open He (ga ma)
/-! ### how long a repr is -/
mutual
/-- a bound on the length of the text -/
def wt : PyData → Nat
  | .none => 4
  | .bool _ => 5
  | .int _ => 600
  | .str x => (PyData.shown (.str x)).length
  | .list xs | .tuple xs => wtAll xs + 5
  | .dict kvs => (PyData.shown (.dict kvs)).length
def wtAll : List PyData → Nat
  | [] => 0
  | x :: xs => wt x + 2 + wtAll xs
end
theorem len_app (a b : Str) : (a ++ b).length = a.length + b.length := by
  show (a.cps ++ b.cps).size = _
  rw [Array.size_append]
  rfl
theorem int_len {i : Int} (h : i.natAbs.log2 < 1920) : (Str.ofString (toString i)).length ≤ 600 := by
  have b : i.natAbs < 2 ^ 1920 := by
    by_cases z : i.natAbs = 0
    · rw [z]
      exact Nat.two_pow_pos _
    · exact (Nat.log2_lt z).mp h
  have c : (2 : Nat) ^ 1920 < 10 ^ 598 := by decide +kernel
  by_cases n : 0 ≤ i
  · refine Nat.le_trans (toString_length_le n (k := 598) (by decide) ?_) (by decide)
    have e : ((10 ^ 598 : Nat) : Int) = (10 : Int) ^ 598 := by simp
    rw [← e]
    omega
  · rw [toString_neg (by omega)]
    have q := toString_length_le (v := 0 - i) (by omega) (k := 598) (by decide) (by
      have e : ((10 ^ 598 : Nat) : Int) = (10 : Int) ^ 598 := by simp
      rw [← e]
      omega)
    rw [PyProof.Rows.ofString_length] at q ⊢
    rw [String.toList_append, List.length_append]
    have e1 : ("-" : String).toList.length = 1 := by decide
    omega
theorem textFrom_le : ∀ (ts : List Str) (k : Nat) (acc : Str), (textFrom k acc ts).length ≤ acc.length + piled ts
  | [], _, acc => by
    show acc.length ≤ _
    omega
  | t :: r, k, acc => by
    have ih := textFrom_le r (k + 1) (acc ++ (if k > 0 then ", " else "" : String) ++ t)
    show (textFrom (k + 1) _ r).length ≤ _
    rw [len_app, len_app] at ih
    rw [piled_cons]
    have s2 : (Str.ofString (if k > 0 then ", " else "" : String)).length ≤ 2 := by
      by_cases z : k > 0
      · rw [if_pos z]; decide
      · rw [if_neg z]; decide
    omega
mutual
theorem shown_wt : ∀ d : PyData, d.showable = true → (PyData.shown d).length ≤ wt d
  | .none, _ => by simp only [PyData.shown, wt]; decide
  | .bool b, _ => by cases b <;> simp only [PyData.shown, wt] <;> decide
  | .int i, h => by
    simp only [PyData.showable, decide_eq_true_eq] at h
    simp only [PyData.shown, wt]
    exact int_len h
  | .str x, _ => by simp only [wt]; exact Nat.le_refl _
  | .list xs, h => by
    simp only [PyData.showable] at h
    have q := shownAll_wt xs h
    simp only [PyData.shown, wt]
    unfold listText
    rw [len_app]
    have t := textFrom_le (PyData.shownAll xs) 0 "["
    have e1 : (Str.ofString "[").length = 1 := by decide
    have e2 : (Str.ofString "]").length = 1 := by decide
    omega
  | .tuple xs, h => by
    simp only [PyData.showable] at h
    have q := shownAll_wt xs h
    simp only [PyData.shown, wt]
    unfold tupleText
    rw [len_app, len_app]
    have e1 : (Str.ofString "(").length = 1 := by decide
    have e2 : (Str.ofString (if (PyData.shownAll xs).length == 1 then ",)" else ")" : String)).length ≤ 2 := by
      by_cases z : ((PyData.shownAll xs).length == 1) = true
      · rw [if_pos z]; decide
      · rw [if_neg z]; decide
    by_cases z : PyData.shownAll xs = []
    · rw [z] at e2 ⊢
      have e3 : (Str.join ", " ([] : List Str)).length = 0 := by decide
      omega
    · have t := join_length_add _ z
      omega
  | .dict kvs, _ => by simp only [wt]; exact Nat.le_refl _
theorem shownAll_wt : ∀ ds : List PyData, PyData.showableAll ds = true → piled (PyData.shownAll ds) ≤ wtAll ds
  | [], _ => by simp only [PyData.shownAll, wtAll]; exact Nat.le_refl _
  | d :: r, h => by
    simp only [PyData.showableAll, Bool.and_eq_true] at h
    have q1 := shown_wt d h.1
    have q2 := shownAll_wt r h.2
    simp only [PyData.shownAll, wtAll]
    rw [piled_cons]
    omega
end
/-! ### repr -/
/-- data whose repr is a text of a fit length -/
structure Fit (d : PyData) : Prop where
  sh : d.showable = true
  nd : d.hasDict = false
  dp : d.depth ≤ 40
  wt : wt d ≤ 16777216
theorem call_reprD {X : Cx} (hg : X.A.guards = some []) (hu : X.A.units + 64 < cLine) : CallR X (.builtin "repr") (fun xs H Q => ∃ a d, xs = [.ref a] ∧ Dp X.K H (.ref a) d ∧ Fit d ∧ Q (.str d.shown) H) := by
  intro pins s σ H xs us Q I r h
  obtain ⟨a, d, rfl, hd, f, q⟩ := h
  obtain ⟨u, rfl, ru⟩ := vals1 r
  obtain ⟨as, rd⟩ := Dp.reads I d (.ref a) u hd ru
  obtain rfl : u = Value.ref a := ru
  have hl : d.shown.length ≤ sizeLine := Nat.le_trans (shown_wt d f.sh) f.wt
  have hdp := f.dp
  exact repr_of_reads' rd f.sh (PyData.noDict_hsm f.nd) hg (by omega) (fun _ _ e => e) (fun h' t tk hk => ⟨.str d.shown, H, I.kept hk, ⟨_, rfl⟩, q⟩) hl
/-! ### promises where no repr is under way -/
structure FnG (P : Program) (w : World) (K : PySem.W.Frag) (mg : Str → Option Value) (base : Heap) (CX : CXT) (k : Nat) (f : Addr) (fd : FuncData) (ps : List Str) (sp : Sp) : Prop where
  count : ∀ vs H Q E, sp vs H Q E → vs.length = ps.length
  go : ∀ (A : Around) (outer : List Env) (s : Shared) (H : Hp) (args : Args) (us : List Value) (vs : List V) (Q : VK) (E : XK), A.guards = some [] → Room k A → Env0 P w K mg base A outer s H →
    BindsTo s fd args (ps.zip us) → Vals vs us → sp vs H Q E → codeAny (model P w) A (.call (.ref f) args) (CR CX outer P w H s Q E) s
section
variable {P : Program} {w : World} {K : PySem.W.Frag} {mg : Str → Option Value} {base : Heap}
theorem Fun.okG {x qual : Str} {st : Stmt} {f : Addr} {fd : FuncData} {N ps : List Str} {k : Nat} {sp : Sp} (F : Fun K x qual st f fd) (S : FnScope N ps (defScope st)) (len : ∀ vs H Q E, sp vs H Q E → vs.length = ps.length)
    (body : ∀ (cdv : Value) (A : Around) (outer : List Env) (s : Shared) (H : Hp) (vs : List V) (Q : VK) (E : XK), (A.deeper (envOfC qual (defScope st) s.heap.objs.size f cdv)).guards = some [] → Room k (A.deeper (envOfC qual (defScope st) s.heap.objs.size f cdv)) → sp vs H Q E →
      ∃ t, PSs (cxOf (L2.CX P w) P w K mg base N qual (defScope st) f cdv A outer s H E) (defBody st) t ∧ t { nx := fun _ H' => Q .non H', rt := Q } (L2.start N vs) H) : FnG P w K mg base (L2.CX P w) (k + 1) f fd ps sp := by
  obtain ⟨oc, od, kV, doc, pm, an, cdv, ct, osl, rfl, lk, hcd⟩ := F.ex
  constructor
  · exact len
  intro A outer s H args us vs Q E hg room e0 bound rv want
  have up : ∀ {b : Addr} {o : Obj}, base.get? b = some o → s.heap.get? b = some o := fun {b o} e => (e0.bs b o e).1
  have inK : K.In s.heap := e0.mod.kin.keeps fun b o e => up e
  have free : s.heap.NoLimit := e0.mod.nolimit.keeps fun b o e => up e
  obtain ⟨t, ht, hq⟩ := body cdv A outer s H vs Q E hg (room.deeper _) want
  apply codeAny_call_function room.depth (inK _ _ lk) rfl S.co S.gen rfl (PySem.W.codeRec_of inK hcd) (bound _ _ _ _ ?rest)
  apply wpAny_newFunctionEnv_cells S.kind
  · intro y hy
    obtain ⟨n, v⟩ := y
    cases S.par n (List.of_mem_zip hy).1 with
    | inl q => exact .inl q
    | inr q => exact .inr ⟨q, PySem.W.cellsFrom_some _ _ _ (.inl q)⟩
  intro env ee s1 inC
  subst ee
  refine ⟨free.keeps inC.toInCall.keep, codeAny_func ?_⟩
  have J : Inv (cxOf (L2.CX P w) P w K mg base N qual (defScope st) f cdv A outer s H E) [] (L2.start N vs) H s1 := inv_start S room.hd e0 (len _ _ _ _ want) rv inC
  have close : ∀ {s' : Shared} {τ : L2.St} {H' : Hp} {v : V} {u : Value}, Inv (cxOf (L2.CX P w) P w K mg base N qual (defScope st) f cdv A outer s H E) [] τ H' s' → RelV v u → Q v H' → CE outer P w H s Q u s' := fun i rr qq => ⟨_, _, i.os, i.bare, i.base, i.hok, rr, qq⟩
  refine wpAny_mono (ht.run [] s1 _ H _ J hq) ?_ fun _ _ z => z
  intro fl s' z
  match fl, z with
  | .ret _, ⟨_, _, _, i, rr, qq⟩ => exact close i rr qq
  | .next, ⟨_, _, i, qq⟩ => exact close (v := V.non) (u := Value.none) i rfl qq
  | .brk, ⟨_, _, _, no⟩ => exact False.elim no
  | .cont, ⟨_, _, _, no⟩ => exact False.elim no
end
section
variable {X : Cx} {CX : CXT} {k : Nat} {f : Addr} {fd : FuncData} {ps ks : List Str} {sp : Sp} {E : XK} {x : Str} {p pos : Pos} {e : Expr} {es : List Expr} {t tk : TA} {kws : List Keyword}
theorem runG {pins : List (Addr × Obj)} {σ : L2.St} {H : Hp} {s : Shared} {Q : VK} {args : Args} {us : List Value} {vs : List V} (F : FnG X.prog X.w X.K X.mg X.base CX k f fd ps sp) (hg : X.A.guards = some []) (hr : Room k X.A) (hb : BindsTo s fd args (ps.zip us)) (hx : Passes CX X E)
    (I : Inv X pins σ H s) (r : Vals vs us) (h : sp vs H Q E) : codeAny (model X.prog X.w) X.A (.call (.ref f) args) (fun r s' => match r with | .error e => X.xe e s' | .ok (.ret u) => EP X pins σ Q u s' | .ok _ => False) s := by
  refine codeAny_mono (F.go X.A X.stack s H args us vs Q E hg hr I.env0 hb r h) fun z s' q => ?_
  match z, q with
  | .error e, q => exact hx pins σ H s e s' I q
  | .ok (.ret u), q => exact I.after q
/-- f(e, ..), f a def whose promise wants that no repr is under way -/
theorem pe_callG (F : FnG X.prog X.w X.K X.mg X.base CX k f fd ps sp) (hg : X.A.guards = some []) (hr : Room k X.A) (hgl : Gl X x) (hm : X.mg x = some (.ref f)) (hk : PySem.W.keepIn X.K (.ref f) = true) (hb : Binds X.K fd ps []) (hx : Passes CX X E)
    (ha : PA X (e :: es) t) (hdb : (x == ("__debug__" : Str)) = false := by decide) (he : starEach (e :: es) X.env = (false, eval e X.env) :: starEach es X.env := by rfl) (hpl : (backTo pos (starEach es X.env)).any (fun q => q.1) = false := by rfl) :
    PE X (.Call (.Name x p) (e :: es) [] pos) (tCall sp [] E t) := by
  constructor
  intro pins s σ H Q I h
  apply wpAny_Call_Name_kw
  apply ld_glob I hgl hm _ hdb
  apply PySem.W.callWith_K (h₀ := X.base) I.ok.mod.kin hk _ he hpl
  refine thn (ha.run pos pins s σ H _ I h) fun us s1 ⟨vs, H1, I1, r, q⟩ => ⟨I1.kIn, ?_⟩
  have q : sp (vs ++ []) H1 Q E := q
  rw [List.append_nil] at q
  have len : us.length = ps.length := by rw [← r.length]; exact F.count _ _ _ _ q
  refine wpAny_call (codeAny_mono (runG F hg hr (us := us) (by have b := hb s1 us I1.kIn (by rw [List.append_nil]; exact len); rw [List.append_nil] at b; exact b) hx I1 r q) fun z s' q => ?_)
  match z, q with
  | .error e, q => exact q
  | .ok (.ret u), q => exact q
end
/-! ### the end -/
section
variable {P : Program} {w : World} {K : PySem.W.Frag} {mg mb : Str → Option Value} {CX : CXT} {k : Nat} {fa a : Addr} {fd : FuncData} {x : Str} {sp : Sp} {s₁ : Shared} {vs : List Value} {ns : List Int}
/-- from a heap H in which nothing but the script is tracked -/
theorem endG_from {H : Hp} (KX : K.In s₁.heap) (hns : s₁.heap.Ns mainGlobals mg) (hb : s₁.heap.Ns builtinsNs mb) (hbb : ∀ x : Str, x ≠ "__name__" → mb x = bootBuiltins x) (hlim : s₁.heap.NoLimit) (hg : s₁.gens = #[])
    (data : ∀ b o es ep, s₁.heap.get? b = some o → o.data = .dict es ep → H b = none) (out : ∀ b o, K.lookup b = some o → H b = none) (hr : Room k callerA)
    (F : ∀ base : Heap, K.In base → base.Ns mainGlobals mg → FnG P w K mg base CX k fa fd [x] sp) (hbind : ∀ (s : Shared) (u : Value), BindsTo s fd ⟨[u], []⟩ [(x, u)])
    (hO : Only H) (hok : HOk P w H s₁.heap) (want : sp [.ref a] H (fun v _ => v = .bl true) fun _ _ _ => False) (hCX : ∀ e s', CX [] H s₁ (fun _ _ _ => False) e s' → False) :
    codeAny (model P w) callerA (.call (.ref fa) ⟨[.ref a], []⟩) (fun r s' => r = .ok (.ret (.bool true)) ∧ OldK s₁.heap s'.heap ∧ s'.os = s₁.os ∧ AllBare s'.gens) s₁ := by
  have ns : ∀ {b : Addr} {m : Str → Option Value}, s₁.heap.Ns b m → (hidT s₁.heap H).Ns b m := by
    intro b m h
    obtain ⟨o, es, ep, e, d, r⟩ := h
    exact ⟨o, es, ep, hidT_get e (data b o es ep e d), d, r⟩
  have kin : K.In (hidT s₁.heap H) := fun b o e => hidT_get (KX b o e) (out b o e)
  obtain ⟨mc, c1, c2⟩ := hlim
  have env : Env0 P w K mg (hidT s₁.heap H) callerA [] s₁ H :=
    { frames := rfl, mod := { kin := kin, glob := ns hns, blt := ⟨mb, ns hb, hbb⟩, nolimit := ⟨mc, ns c1, c2⟩ }, bs := fun b o e => of_hidT e, bsz := Nat.le_of_eq (hidT_size _ _), funs := trivial, frf := (fun b z => nomatch z), hok := hok, bare := .of_eq hg }
  have run := (F _ kin (ns hns)).go callerA [] s₁ H ⟨[.ref a], []⟩ [.ref a] [.ref a] _ _ rfl hr env (hbind s₁ (.ref a)) (.cons rfl .nil) want
  refine codeAny_mono run ?_
  intro r s' z
  match r, z with
  | .error e, z => exact (hCX e s' z).elim
  | .ok (.ret u), ⟨v, H', os, bare, un, hok', rr, vt⟩ =>
    cases (show v = .bl true from vt)
    cases (show u = Value.bool true from rr)
    refine ⟨rfl, OldK.of_keep ?_, os, bare⟩
    intro b o e
    rcases hO b with z | ⟨ob, xs, z⟩
    · exact un.keep b o e z (fun q => nomatch q) (by simp)
    · have g2 := (hok' b _ (un.frzs b ob _ z)).1
      have g1 := (hok b _ z).1
      rw [e] at g1
      cases g1
      exact g2
theorem law_callG (KX : K.In s₁.heap) (hns : s₁.heap.Ns mainGlobals mg) (hb : s₁.heap.Ns builtinsNs mb) (hbb : ∀ x : Str, x ≠ "__name__" → mb x = bootBuiltins x) (hlim : s₁.heap.NoLimit) (hg : s₁.gens = #[])
    (ha : s₁.heap.get? a = some { cls := .type "list", data := .seq vs.toArray }) (hi : IntsAre vs ns) (hl : ns.length ≤ sizeLine) (hr : Room k callerA)
    (F : ∀ base : Heap, K.In base → base.Ns mainGlobals mg → FnG P w K mg base CX k fa fd [x] sp) (hbind : ∀ (s : Shared) (u : Value), BindsTo s fd ⟨[u], []⟩ [(x, u)])
    (hsp : ∀ H : Hp, Only H → SqL K H a (ns.map V.int) → sp [.ref a] H (fun v _ => v = .bl true) fun _ _ _ => False)
    (hCX : ∀ H e s', CX [] H s₁ (fun _ _ _ => False) e s' → False) :
    codeAny (model P w) callerA (.call (.ref fa) ⟨[.ref a], []⟩) (fun r s' => r = .ok (.ret (.bool true)) ∧ OldK s₁.heap s'.heap ∧ s'.os = s₁.os ∧ AllBare s'.gens) s₁ := by
  have rv := vals_ints hi
  have lenV := hi.length
  by_cases hk : ∃ o, K.lookup a = some o
  · obtain ⟨o, hk⟩ := hk
    have e := KX a o hk
    rw [ha] at e
    cases e
    have only : Only (fun _ => none) := fun _ => .inl rfl
    have seq : SqL K (fun _ => none) a (ns.map V.int) := .inr ⟨_, vs.toArray, _, hk, rfl, rfl, rfl, by rw [List.size_toArray, lenV]; exact hl, by simpa using rv⟩
    exact endG_from KX hns hb hbb hlim hg (fun _ _ _ _ _ _ => rfl) (fun _ _ _ => rfl) hr F hbind only (fun b u z => nomatch z) (hsp _ only seq) (hCX _)
  · have no : K.lookup a = none := by
      cases q : K.lookup a with
      | none => rfl
      | some o => exact absurd ⟨o, q⟩ hk
    let H : Hp := upd (fun _ => none) a (.frz { cls := .type "list", data := .seq vs.toArray } (.lst (ns.map V.int)))
    have at_ : H a = some (.frz { cls := .type "list", data := .seq vs.toArray } (.lst (ns.map V.int))) := upd_same
    have off : ∀ b, b ≠ a → H b = none := fun b n => upd_ne n
    have only : Only H := by
      intro b
      by_cases z : b = a
      · exact .inr ⟨_, _, by rw [z]; exact at_⟩
      · exact .inl (off b z)
    refine endG_from KX hns hb hbb hlim hg ?_ ?_ hr F hbind only ?_ (hsp H only (.inl (.inr ⟨_, at_⟩))) (hCX _)
    · intro b o es ep e d
      refine off b fun z => ?_
      rw [z, ha] at e
      cases e
      cases d
    · intro b o e
      refine off b fun z => ?_
      rw [z, no] at e
      cases e
    · intro b u e
      by_cases z : b = a
      · subst z
        rw [at_] at e
        cases e
        exact ⟨ha, by rw [List.length_map]; exact hl, vs, _, rv, ha⟩
      · rw [off b z] at e
        cases e
end
theorem endMG {l : PySem.W.OpenLaw} {k N : Nat} {q : Program} {loose : List Str} {d : DefRec} {ck : List Ck} {fn : List DefM} {XP : (Str → Option Value) → Heap → Prop} {spL : Frag → Sp}
    (hn : l.most = some 63) (hdf : d.params.defaults = []) (hr : Room k callerA) (hd : d.name = ("law" : Str))
    (F : ∀ (w : World) (K : Frag) (mg : Str → Option Value) (base : Heap), Zs ck fn K mg → K.In base → base.Ns mainGlobals mg → FnG l.prog w K mg base (L2.CX l.prog w) k (ga K "law") (fdAt K (ga K "law")) ["script"] (spL K))
    (hg : ∀ (K : Frag) (mg : Str → Option Value), Zs ck fn K mg → mg "law" = some (.ref (ga K "law")))
    (hb : ∀ (K : Frag) (mg : Str → Option Value), Zs ck fn K mg → ∀ (s : Shared) (u : Value), BindsTo s (fdAt K (ga K "law")) ⟨[u], []⟩ [("script", u)])
    (hs : ∀ (K : Frag) (H : Hp) (a : Addr) (ns : List Int), ns.length ≤ 63 → Only H → SqL K H a (ns.map V.int) → spL K [.ref a] H (fun v _ => v = .bl true) fun _ _ _ => False) :
    PySem.W.WalkO q loose XP (hookM N ck fn).says l.row.toRowW d [] (fun f vs => PySem.call f vs) := by
  refine Att.attach_call hn hdf fun w s₀ s₁ mg mb fa o pm cd doc a vs ns G Y ho hd' hcd hmg hobj hints hlen hgn => ?_
  obtain ⟨K, KX, c⟩ := Y
  have Z : Zs ck fn K mg := ⟨c, _, KX, G.T.g⟩
  have e : fa = ga K "law" := by
    have h1 := hg K mg Z
    rw [hd] at hmg
    rw [hmg] at h1
    cases h1
    rfl
  subst e
  exact law_callG KX G.T.g G.T.b G.T.builtins G.T.nolimit hgn hobj hints (Nat.le_trans hlen (by decide)) hr (fun base h1 h2 => F w K mg base Z h1 h2) (hb K mg Z) (fun H hO hS => hs K H a ns hlen hO hS) fun H e s' h => by
    obtain ⟨_, _, _, _, _, _, _, _, _, _, _, _, z⟩ := h
    exact z.elim
end Fw

/-! Fw, part H: names from a list's items; int of a bool; class constants of lines. -/
namespace Fw
open PySem PySem.Spec PyProof.Rows L2
open He (ga ma)
section
variable {X : Cx} {pos : Pos}
/-- int(b), b a bool -/
theorem call_int_bl : CallR X (.type "int") (fun xs H Q => ∃ b, xs = [.bl b] ∧ Q (.int (if b then 1 else 0)) H) := by
  intro pins s σ H xs us Q I r h
  obtain ⟨b, rfl, q⟩ := h
  obtain ⟨u, rfl, ru⟩ := vals1 r
  obtain rfl : u = Value.bool b := ru
  exact call_int_bool ⟨.int _, H, I.tok _, ⟨_, rfl⟩, q⟩
end
/-! ### the word of a kind -/
def kn : LK → Str
  | .line => "line"
  | .walk => "walk"
  | .stop => "stop"
/-! ### the feed: a list [digits, seed, count] -/
abbrev P61 : Int := 2305843009213693951
def fdM (a : Addr) (b : Addr) : Prop := b = a
/-- N counts may still be made -/
def Fd (a : Addr) (N : Nat) (H : Hp) : Prop := ∃ (d m n : Int), H a = some (.lst [.int d, .int m, .int n]) ∧ 0 ≤ d ∧ 0 ≤ m ∧ m < P61 ∧ 0 ≤ n ∧ n + (N : Int) ≤ 2 ^ 40
theorem Fd.less {a : Addr} {N N' : Nat} {H : Hp} (h : Fd a N H) (l : N' ≤ N) : Fd a N' H := by
  obtain ⟨d, m, n, h1, h2, h3, h4, h5, h6⟩ := h
  exact ⟨d, m, n, h1, h2, h3, h4, h5, by omega⟩
theorem Fd.same {a : Addr} {N : Nat} {H H' : Hp} (h : Fd a N H) (s : Same H H') : Fd a N H' := by
  obtain ⟨d, m, n, h1, h2⟩ := h
  exact ⟨d, m, n, s _ _ h1, h2⟩
theorem Fd.out {a p : Addr} {N : Nat} {H : Hp} {o : HO} (h : Fd a N H) (e : H p = some o) (d : ∀ xs, o ≠ .lst xs) : ¬ fdM a p := by
  obtain ⟨x, m, n, h1, _⟩ := h
  intro z
  rw [show p = a from z, h1] at e
  cases e
  exact d _ rfl
theorem Fd.fresh {a p : Addr} {N : Nat} {H : Hp} (h : Fd a N H) (e : H p = none) : ¬ fdM a p := by
  obtain ⟨x, m, n, h1, _⟩ := h
  intro z
  rw [show p = a from z, h1] at e
  cases e
theorem Fd.line {K : Frag} {a p : Addr} {N : Nat} {H H' : Hp} {k : LK} {n : N3} (h : Fd a N H) (x : Ext (fdM a) H H') (e : LnAt K H p k n) : LnAt K H' p k n := let ⟨dx, e⟩ := e; ⟨dx, x _ _ (h.out e fun _ z => nomatch z) e⟩
/-- what keeps all but the feed, seen from a heap in which the feed stood as well -/
theorem Ext.back {M : Addr → Prop} {H H' : Hp} {p : Addr} (x : Ext M H H') (n : ¬ M p) (e : H' p = none) : H p = none := by
  cases q : H p with
  | none => rfl
  | some o =>
    rw [x p o n q] at e
    cases e
/-- pick(feed, many): some number below many -/
def spPick (K : Frag) : Sp := fun vs H Q _ => ∃ (a : Addr) (N : Nat) (m : Int), vs = [.ref a, .int m] ∧ Fd a (N + 128) H ∧ 1 ≤ m ∧ Sz 4000 m ∧
  ∀ (v : Int) (H' : Hp), 0 ≤ v → v < m → Ext (fdM a) H H' → Fd a N H' → Q (.int v) H'
theorem bits_le {m : Int} {b : Nat} (h : Sz b m) : Builtin.Int.intBits m ≤ b := by
  unfold Builtin.Int.intBits
  by_cases z : m = 0
  · subst z
    exact Nat.zero_le _
  · have q : m.natAbs ≠ 0 := by omega
    have l := (Nat.log2_lt q).mpr h
    split
    · exact Nat.zero_le _
    · omega
theorem Sz.p61 {m : Int} (h0 : 0 ≤ m) (h1 : m < P61) : Sz 61 m := Sz.of (by omega) (Int.lt_of_lt_of_le h1 (by decide))
/-- the numbers of a line as a list, its kind ahead -/
def L4 (H : Hp) (p : Addr) (k : LK) (n : N3) : Prop := H p = some (.lst [.str (kn k), .int n.e, .int n.a, .int n.r])
/-- numbers that a line of the kind may have -/
structure NmOk (k : LK) (n : N3) : Prop where
  ok : n.ok
  walk : k = .walk → n.e = 1 ∧ n.a = 0
  stop : k = .stop → n.r = 0
/-! ### headways of which each one divides the next one -/
def limG : Bool → Int
  | true => 10 ^ 59
  | false => 60
structure ChOk (g : Bool) (cs : List Int) : Prop where
  ne : cs ≠ []
  len : cs.length ≤ 10
  pos : ∀ c ∈ cs, 1 ≤ c ∧ c ≤ limG g
  div : cs.Pairwise (fun x y => x ∣ y)
theorem ChOk.fit {g : Bool} {cs : List Int} (h : ChOk g cs) {x y : Int} (hx : x ∈ cs) (hy : y ∈ cs) : x ∣ y ∨ y ∣ x := by
  obtain ⟨i, hi, rfl⟩ := List.mem_iff_getElem.mp hx
  obtain ⟨j, hj, rfl⟩ := List.mem_iff_getElem.mp hy
  have q := List.pairwise_iff_getElem.mp h.div
  by_cases c : i < j
  · exact .inl (q i j hi hj c)
  by_cases d : j < i
  · exact .inr (q j i hj hi d)
  · have e : i = j := by omega
    subst e
    exact .inl (Int.dvd_refl _)
theorem ChOk.app {g : Bool} {ds : List Int} {l m : Int} (h : ChOk g (ds ++ [l])) (hd : ∀ x ∈ ds, x ∣ l) (hl : (ds ++ [l]).length ≤ 9) (h1 : 1 ≤ l * m) (h2 : l * m ≤ limG g) : ChOk g ((ds ++ [l]) ++ [l * m]) ∧ ∀ x ∈ ds ++ [l], x ∣ l * m := by
  have hx : ∀ x ∈ ds ++ [l], x ∣ l * m := by
    intro x hx
    rcases List.mem_append.mp hx with q | q
    · exact Int.dvd_trans (hd x q) (Int.dvd_mul_right l m)
    · rw [List.mem_singleton.mp q]
      exact Int.dvd_mul_right l m
  refine ⟨⟨by simp, by rw [List.length_append]; simp; simp at hl; omega, ?_, ?_⟩, hx⟩
  · intro c hc
    rcases List.mem_append.mp hc with q | q
    · exact h.pos c q
    · rw [List.mem_singleton.mp q]
      exact ⟨h1, h2⟩
  · rw [List.pairwise_append]
    refine ⟨h.div, List.pairwise_singleton _ _, ?_⟩
    intro x hx' y hy
    rw [List.mem_singleton.mp hy]
    exact hx x hx'
end Fw

/-! Fw, part I: methods of lines, and lines themselves, called with keywords alone. -/
namespace Fw
open PySem PySem.Spec PyProof.Rows L2
open He (ga ma)
section
variable {X : Cx} {k0 : Nat} {f : Addr} {fd : FuncData} {ps ks : List Str} {sp : Sp} {E : XK} {m : Str} {pos apos : Pos} {o fe : Expr} {kws : List Keyword} {ta tf : TE} {tk : TA} {g : List Value → List Value → List Value} {gV : List V → List V → List V}
/-- o.m(k = v, ..), o a line -/
def tLMN (K : Frag) (n : Nat) (gV : List V → List V → List V) (sp : Sp) (E : XK) (ta : TE) (tk : TA) : TE := fun σ H Q => ta σ H fun x H1 => ∃ a k nn, x = .ref a ∧ LnAt K H1 a k nn ∧ tk σ H1 fun zs H2 => zs.length = n ∧ sp (gV [.ref a] zs) H2 Q E
theorem pe_lmethN {pl : Sem Bool} (he : PE X o ta) (L : LnF X.K) (hm : ∀ k, Meth X.K (cA X.K k) m f) (F : FnOk X.prog X.w X.K X.mg X.base (L2.CX X.prog X.w) k0 f fd ps sp) (hr : Room k0 X.A) (hb : KBn X.K fd ps 1 ks g gV) (hx : Passes (L2.CX X.prog X.w) X E) (hkw : PK X kws tk)
    (n1 : ¬ m = "held_ride" := by decide +kernel) (n2 : ¬ m = "held_at" := by decide +kernel) (n3 : ¬ m = "held_every" := by decide +kernel)
    (hall : (backToKw pos (keywordEach kws X.env)).all (fun q => q.1.isSome) = true := by rfl) (hks : (backToKw pos (keywordEach kws X.env)).filterMap (fun q => q.1) = ks := by rfl)
    (hpl : ((backTo pos (starEach [] X.env)).any (fun q => q.1) || (backToKw pos (keywordEach kws X.env)).any (fun q => q.1.isNone)) = false := by rfl)
    (ht : eval (.Call (.Attribute o m apos) [] kws pos) X.env = (do
      let ov ← eval o X.env
      standAt apos.atName
      let (g, first) ← holding [ov] (getMethod ov m pl)
      callWith pos g first (backTo pos (starEach [] X.env)) (backToKw pos (keywordEach kws X.env))) := by rfl) :
    PE X (.Call (.Attribute o m apos) [] kws pos) (tLMN X.K ks.length gV sp E ta tk) := by
  constructor
  intro pins s σ H Q I h
  apply PySem.W.methodCall_KW (pl := pl) _ ht
  refine thn (he.run pins s σ H _ I h) fun u s1 ⟨x, H1, I1, rx, a, k, n, ex, ⟨dx, ea⟩, q⟩ => ?_
  subst ex
  obtain rfl : u = Value.ref a := rx
  refine getmeth_ok I1 ea (L.cls k) (hm k) (lf_no n n1 n2 n3) ?_
  apply PySem.W.callWith_KW0 (h₀ := X.base) (first := [.ref a]) I.ok.mod.kin (hm k).kp hall _ hpl
  refine thn (hkw.run pos pins s1 σ H1 _ I1 q) fun ws s2 ⟨zs, H2, I2, rz, l2, q2⟩ => ⟨I2.kIn, ?_⟩
  rw [hks]
  exact run_fnN (us := [.ref a]) (vs := [.ref a]) F hr hb hx I2 (.cons rfl .nil) rz rfl l2 q2
/-- the node of a call of an instance, keywords and all -/
theorem callKw_of {M : Model} {A : Around} {E : Value → Shared → Prop} {s : Shared} {a : Addr} {pos : Pos} {Q : Value → Shared → Prop} {args : List (Bool × Sem Value)} {keywords : List (Option Str × Sem Value)} (plain : (args.any (fun q => q.1) || keywords.any (fun q => q.1.isNone)) = false)
    (h : wpAny M A (evalArgs (.ref a) true args keywords) (fun z s₁ => (∃ C ox od, PySem.W.InstAt s₁.heap a ox C od ∧ ox.data = .plain) ∧ wpAny M A (call (.ref a) ([] ++ z.pos) z.kw) Q E s₁) E s) : wpAny M A (callWith pos (.ref a) [] args keywords) Q E s := by
  unfold callWith
  apply wpAny_bind
  apply wpAny_holding
  refine wpAny_mono h ?_ fun _ _ y => y
  intro z s₁ hz
  obtain ⟨⟨C, ox, od, J, hd⟩, hz⟩ := hz
  apply wpAny_bind
  apply wpAny_standAt
  simp only [plain]
  apply wpAny_bind
  apply (PySem.W.kco_keeper (M := M) J hd).here
  have close : ∀ {t : Sem Value}, wpAny M A t Q E s₁ → wpAny M A (t >>= fun r => holding [r] point >>= fun _ => pure r) Q E s₁ := by
    intro t ht
    apply wpAny_bind
    refine wpAny_mono ht ?_ fun _ _ y => y
    intro r s₂ hr
    apply wpAny_bind
    apply wpAny_holding
    exact wpAny_point (wpAny_pure hr)
  exact close (wpAny_operateT hz)
/-- line(k = v, ..) -/
def tLCN (K : Frag) (n : Nat) (gV : List V → List V → List V) (sp : Sp) (E : XK) (tf : TE) (tk : TA) : TE := fun σ H Q => tf σ H fun y H1 => ∃ a, y = V.ref a ∧ tk σ H1 fun zs H2 => (∃ k nn, LnAt K H2 a k nn) ∧ zs.length = n ∧ sp (gV [.ref a] zs) H2 Q E
theorem pe_lcallN (hf : PE X fe tf) (c : ∀ k, StX.CallO X.K (cA X.K k) f) (F : FnOk X.prog X.w X.K X.mg X.base (L2.CX X.prog X.w) k0 f fd ps sp) (hr : Room k0 X.A) (hb : KBn X.K fd ps 1 ks g gV) (hx : Passes (L2.CX X.prog X.w) X E) (hkw : PK X kws tk)
    (hall : (backToKw pos (keywordEach kws X.env)).all (fun q => q.1.isSome) = true := by rfl) (hks : (backToKw pos (keywordEach kws X.env)).filterMap (fun q => q.1) = ks := by rfl)
    (hpl : ((backTo pos (starEach [] X.env)).any (fun q => q.1) || (backToKw pos (keywordEach kws X.env)).any (fun q => q.1.isNone)) = false := by rfl)
    (ht : eval (.Call fe [] kws pos) X.env = (do callWith pos (← eval fe X.env) [] (backTo pos (starEach [] X.env)) (backToKw pos (keywordEach kws X.env))) := by rfl) :
    PE X (.Call fe [] kws pos) (tLCN X.K ks.length gV sp E tf tk) := by
  constructor
  intro pins s σ H Q I h
  rw [ht]
  apply wpAny_bind
  refine thn (hf.run pins s σ H _ I h) fun u s1 ⟨y, H1, I1, ry, a, ey, q⟩ => ?_
  subst ey
  obtain rfl : u = Value.ref a := ry
  apply callKw_of hpl
  apply PyProof.Rows.evalArgs_kw2_nil hall
  refine thn (hkw.run pos pins s1 σ H1 _ I1 q) fun ws s2 ⟨zs, H2, I2, rz, ⟨k, n, dx, hi⟩, l2, q2⟩ => ?_
  obtain ⟨ox, od, J, hd⟩ := StX.insC_at I2 (.inr ⟨dx, _, hi⟩ : StX.InsC X H2 a (cA X.K k))
  refine ⟨⟨_, ox, od, J, hd⟩, wpAny_call (PySem.W.kco_code (a := ⟨[], _⟩) I2.kIn J hd (c k).at_ (c k).fn (c k).fi ?_)⟩
  rw [hks]
  have rr : Vals [V.ref a] [Value.ref a] := .cons rfl .nil
  refine codeAny_mono (F.run X.A X.stack s2 H2 ⟨[.ref a], ks.zip ws⟩ (g [.ref a] ws) (gV [.ref a] zs) Q E hr I2.env0 (hb.to s2 [.ref a] ws I2.kIn rfl (rz.length.symm.trans l2)) (hb.rel rr rz) q2) ?_
  intro z s' q
  match z, q with
  | .error e, q => exact hx pins σ H2 s2 e s' I2 q
  | .ok (.ret u), q => exact I2.after q
end
end Fw

/-! Fw, part J: + and * of instances of own classes; a name that a class does not have. -/
namespace Fw
open PySem PySem.Spec PyProof.Rows L2
open PySem.W (Looks looks_findIn looks_clsIn looks_subIn looks_typeIn)
section
variable {α : Type} {prog : Program} {w : World} {A : Around} {E : Value → Shared → Prop} {s : Shared} {K : Frag}
/-- an AttributeError with a text alone is raised -/
theorem raise_attr {msg : Str} {Q : α → Shared → Prop} (hh : A.handled = none) (h : ∀ h' tk e, Heap.NewExcOf s.heap h' e "AttributeError" → E (.ref e) { s with heap := h', toks := tk }) (hm : msg.length ≤ sizeLine) :
    wpAny (model prog w) A (raiseErrorStr "AttributeError" msg : Sem α) Q E s := by
  unfold raiseErrorStr
  refine wpAny_bind (wpAny_mkStr (wpAny_bind ?_) hm)
  unfold newExc newTuple
  refine wpAny_bind (wpAny_newObj_type ?_ (by size_fits))
  refine wpAny_bind (m := firstArgMember _ _) (wpAny_of_eq (a := Value.none) (by simp only [firstArgMember, attrError_no_first]; rfl) ?_)
  rw [ownMembersOf_AttributeError]
  refine wpAny_newObj_type ?_ (by size_fits)
  unfold raiseNew
  refine wpAny_bind (wpAny_handled ?_)
  rw [hh]
  refine wpAny_bind (wpAny_pure (wpAny_throw ?_))
  refine h _ _ _ ⟨fun b ob hb => Heap.get?_push_of_some _ (Heap.get?_push_of_some _ hb), Heap.get?_none_of_le (by simp), ?_⟩
  exact ⟨_, _, Heap.get?_push_size _ rfl, rfl, rfl, rfl⟩
/-- the class at C has no such name, and its own name is short -/
structure Lacks (K : Frag) (C : Addr) (name : Str) : Prop where
  reads : PySem.W.readsIn K C (.type "type") = true
  none_ : PySem.W.findIn K (.ref C) name = some none
  meta_ : PySem.W.findIn K (.type "type") name = some none
  hook : PySem.W.findIn K (.type "type") "__getattr__" = some none
  cls : ∃ cd, PySem.W.clsIn K C = some cd ∧ cd.name.cps.foldl (fun k c => k + (Str.utf8Of c).length) 0 ≤ 100 ∧ cd.name.toString.length ≤ 1000
theorem tga_missing {C : Addr} {name : Str} {tk : Tok} {Q : Fin → Shared → Prop} (hh : A.handled = none) (X : K.In s.heap) (L : Lacks K C name) (hz : name.length ≤ 1000)
    (h : ∀ h' tk e, Heap.NewExcOf s.heap h' e "AttributeError" → E (.ref e) { s with heap := h', toks := tk }) : wpAny (model prog w) A (Builtin.«type.__getattribute__» ⟨[.ref C, .str name tk], []⟩) Q E s := by
  have hr := L.reads
  simp only [PySem.W.readsIn, Bool.and_eq_true, beq_iff_eq] at hr
  obtain ⟨⟨⟨⟨r1, r2⟩, r3⟩, r4⟩, r5⟩ := hr
  obtain ⟨cd, c1, c2, c3⟩ := L.cls
  have ho : Looks (model prog w) s.heap (opaqueClassAbove (.ref C)) none := PySem.W.looks_opaque X r1
  have ht : Looks (model prog w) s.heap (typeOf (.ref C)) (.type "type") := looks_typeIn X r2
  have l1 : Looks (model prog w) s.heap (typeLookup (.type "type") name) none := looks_findIn X L.meta_
  have l2 : Looks (model prog w) s.heap (typeLookup (.ref C) name) none := looks_findIn X L.none_
  have l3 : Looks (model prog w) s.heap (classData C) cd := looks_clsIn X c1
  obtain ⟨hp, g, d, t, os⟩ := s
  unfold Builtin.«type.__getattribute__»
  refine wpAny_bind (wpAny_pure (wpAny_bind (ho.at (wpAny_bind (ht.at (wpAny_bind (l1.at ?_)))))))
  refine wpAny_bind (wpAny_pure ?_)
  refine wpAny_bind (l2.at ?_)
  refine wpAny_bind (wpAny_rule (wpAny_bind ?_))
  show wpAny _ _ (classData C >>= _) _ _ _
  refine wpAny_bind (l3.at ?_)
  simp only [if_pos c2]
  refine wpAny_pure ?_
  refine raise_attr hh h ?_
  rw [len_app, len_app, PyProof.Rows.ofString_length, PyProof.Rows.ofString_length]
  simp only [String.toList_append, List.length_append]
  have e1 : (toString "type object '").toList.length = 13 := by decide
  have e2 : (toString "' has no attribute '").toList.length = 20 := by decide
  have e3 : ("'" : String).toList.length = 1 := by decide
  have e4 : (toString cd.name.toString).toList.length = cd.name.toString.length := rfl
  show _ ≤ 16777216
  omega
/-- the question for a name that the class lacks is answered with none -/
theorem asked_missing {C : Addr} {name : Str} {tk : Tok} {Q : Option Value → Shared → Prop} (hh : A.handled = none) (X : K.In s.heap) (L : Lacks K C name) (hz : name.length ≤ 1000)
    (h : ∀ h' t', (∀ b o, s.heap.get? b = some o → h'.get? b = some o) → Q none { s with heap := h', toks := t' }) : wpAny (model prog w) A (getAttrBy? (.ref C) (.str name tk)) Q E s := by
  have hr := L.reads
  simp only [PySem.W.readsIn, Bool.and_eq_true, beq_iff_eq] at hr
  obtain ⟨⟨⟨⟨r1, r2⟩, r3⟩, r4⟩, r5⟩ := hr
  have ht : Looks (model prog w) s.heap (typeOf (.ref C)) (.type "type") := looks_typeIn X r2
  have l1 : Looks (model prog w) s.heap (typeLookup (.type "type") "__getattribute__") (some (.builtin "type.__getattribute__")) := looks_findIn X r3
  have ls : Looks (model prog w) s.heap (isSubtype (.type "type") (.type "type")) true := looks_subIn X r5
  unfold getAttrBy?
  refine wpAny_bind (wpAny_attempt ?_)
  unfold getAttrBy
  refine wpAny_holding (wpAny_bind (ht.here (wpAny_bind (l1.here ?_))))
  dsimp only
  rw [show (onTheHeap (.type "type") && Value.builtin "type.__getattribute__" == Value.builtin "object.__getattribute__") = false from rfl, if_neg (by decide)]
  unfold getAttrByItsOwn
  refine wpAny_bind (wpAny_pure (wpAny_bind (wpAny_attempt (wpAny_holding ?_))))
  unfold callGetattribute
  rw [show (false && onTheHeap (Value.builtin "type.__getattribute__")) = false from rfl, if_neg (by decide)]
  unfold boundAndCalled
  rw [PySem.W.KF.slot_tga.bind]
  refine wpAny_bind (wpAny_pure ?_)
  show wpAny _ _ (call (.builtin "type.__getattribute__") [.ref C, .str name tk]) _ _ _
  refine wpAny_call ?_
  refine codeAny_call_builtin PySem.W.KF.slot_tga.plain PySem.W.KF.entry_tga ?_
  refine @PySem.W.check_slot (model prog w) _ _ s "type.__getattribute__" "type" "__getattribute__" (.ref C) [.str name tk] [] _ (by decide +kernel) (by decide +kernel) (ht.andThen ls) (PySem.W.KF.args_tga (.ref C) (.str name tk)) ?_
  refine tga_missing (s := s) hh X L hz ?_
  intro h' t' e ne
  have X' : K.In h' := X.keeps ne.keeps
  have ty : (⟨h', s.gens, s.drawn, t', s.os⟩ : Shared).TypeIs (.ref e) "AttributeError" := by
    obtain ⟨ob, vs, a, b, _⟩ := ne.there
    exact ⟨ob, a, b⟩
  show wpAny _ _ (getattributeRaised _ _ _ _ _ _ _) _ _ _
  unfold getattributeRaised
  refine wpAny_bind (wpAny_isInstance ty sub_AttributeError ?_)
  rw [if_pos rfl]
  have l2 : Looks (model prog w) h' (typeLookup (.type "type") "__getattr__") none := looks_findIn X' L.hook
  refine wpAny_bind ?_
  show wpAny _ _ (typeLookup (.type "type") "__getattr__") _ _ _
  refine l2.at ?_
  unfold hookOrError
  dsimp only
  unfold attributeErrorLeaves
  rw [if_pos (show (!false) = true from rfl)]
  refine wpAny_bind (wpAny_throw ?_)
  refine wpAny_bind (wpAny_isInstance ty sub_AttributeError ?_)
  rw [if_pos rfl]
  exact wpAny_pure (h h' t' ne.keeps)
theorem instAt_keeps {h h' : Heap} {x C : Addr} {ox : Obj} {od : Option Obj} (I : PySem.W.InstAt h x ox C od) (k : ∀ b o, h.get? b = some o → h'.get? b = some o) : PySem.W.InstAt h' x ox C od := by
  obtain ⟨a, b, c, d⟩ := I
  refine ⟨k _ _ a, b, c, ?_⟩
  cases e : ox.dict with
  | none =>
    rw [e] at d
    cases od with
    | none => exact trivial
    | some o => exact False.elim d
  | some dx =>
    rw [e] at d
    cases od with
    | none => exact False.elim d
    | some o => exact k _ _ d
/-- what an own class must say that its instances may stand at an operator: nm, its def f, no reflected one -/
structure OpOf (K : Frag) (C : Addr) (nm : String) (f : Addr) : Prop where
  first : PySem.W.selfFirst K C = true
  at_ : PySem.W.findIn K (.ref C) (PySem.dunder nm) = some (some (.ref f))
  fn : PySem.W.isFn K (.ref f) = true
  refl : PySem.W.findIn K (.ref C) (dunderR nm) = some none
theorem differs_not {C D f g : Addr} {nm : String} {Q : Bool → Shared → Prop} (hh : A.handled = none) (X : K.In s.heap) (c : OpOf K C nm f) (d : OpOf K D nm g) (L : Lacks K D (dunderR nm)) (hz : (dunderR nm).length ≤ 1000)
    (h : ∀ h' t', (∀ b o, s.heap.get? b = some o → h'.get? b = some o) → Q false { s with heap := h', toks := t' }) : wpAny (model prog w) A (reflectedDiffers (.ref C) (.ref D) nm) Q E s := by
  have l1 : Looks (model prog w) s.heap (numberSlotInPython (.ref C) nm) true := PySem.W.ksp_inPy X c.at_ c.refl (.inl rfl)
  have l2 : Looks (model prog w) s.heap (numberSlotInPython (.ref D) nm) true := PySem.W.ksp_inPy X d.at_ d.refl (.inl rfl)
  unfold reflectedDiffers
  refine wpAny_bind (l1.here ?_)
  rw [if_neg (by decide)]
  refine wpAny_bind (l2.here ?_)
  rw [if_neg (by decide)]
  refine wpAny_bind (wpAny_mkStr ?_ (by show _ ≤ 16777216; omega))
  refine wpAny_bind (asked_missing hh (s := { s with toks := s.toks + 1 }) X L hz ?_)
  intro h' t' k
  exact wpAny_pure (h h' t' k)
/-- x op y, x and y of two own classes that have the operator by a def and no reflected one -/
theorem binop_two {op : Operator} {x y C D f g : Addr} {ox oy : Obj} {od oe : Option Obj} {b : Bool} {Q : Value → Shared → Prop} (hh : A.handled = none) (X : K.In s.heap) (I : PySem.W.InstAt s.heap x ox C od) (J : PySem.W.InstAt s.heap y oy D oe) (ne : C ≠ D)
    (c : OpOf K C op.info.2 f) (d : OpOf K D op.info.2 g) (sub : PySem.W.subIn K (.ref D) (.ref C) = some b) (L : b = true → Lacks K D (dunderR op.info.2)) (hz : (dunderR op.info.2).length ≤ 1000)
    (h : ∀ h' t', (∀ b o, s.heap.get? b = some o → h'.get? b = some o) → wpAny (model prog w) A (call (.ref f) [.ref x, .ref y]) (PySem.W.CmpBack Q) E { s with heap := h', toks := t' }) : wpAny (model prog w) A (binaryOp op (.ref x) (.ref y)) Q E s := by
  obtain ⟨cd, rest, hcd, hm⟩ := PySem.W.ksp_first c.first
  obtain ⟨ce, rest2, hce, hm2⟩ := PySem.W.ksp_first d.first
  rcases hi : op.info with ⟨sym, nm⟩
  rw [hi] at c d L hz
  dsimp only at c d L hz
  have hne : (Value.ref C == Value.ref D) = false := Bool.eq_false_iff.mpr fun q => ne (by cases beq_iff_eq.mp q; rfl)
  have l3 : Looks (model prog w) s.heap (fillsNumberSlot (.ref C) nm) true := PySem.W.fills_K X hcd hm c.at_
  have l4 : Looks (model prog w) s.heap (fillsNumberSlot (.ref D) nm) true := PySem.W.fills_K X hce hm2 d.at_
  have l5 : Looks (model prog w) s.heap (isSubtype (.ref D) (.ref C)) b := looks_subIn X sub
  have l6 : Looks (model prog w) s.heap (numberSlotInPython (.ref C) nm) true := PySem.W.ksp_inPy X c.at_ c.refl (.inl rfl)
  have l7 : Looks (model prog w) s.heap (numberSlotInPython (.ref D) nm) true := PySem.W.ksp_inPy X d.at_ d.refl (.inl rfl)
  simp only [binaryOp, hi]
  refine wpAny_holding (wpAny_bind ?_)
  unfold binaryOp1
  refine wpAny_bind (I.type.here (wpAny_bind (J.type.here (wpAny_bind (l3.here ?_)))))
  simp only [hne, Bool.false_eq_true, if_false]
  refine wpAny_bind (l4.here ?_)
  simp only [Bool.and_self, if_true]
  refine wpAny_bind (l5.here ?_)
  cases b with
  | false =>
    simp only [Bool.false_eq_true, if_false, Bool.not_false, Bool.and_self, if_true]
    refine wpAny_bind (l6.here ?_)
    simp only [if_true]
    refine wpAny_bind (l7.here ?_)
    simp only [Bool.not_true, Bool.false_eq_true, if_false]
    refine wpAny_bind (wpAny_mono (PySem.W.ksp_try X I c.at_ c.fn (h s.heap s.toks fun _ _ e => e)) ?_ fun _ _ e => e)
    rintro r s' ⟨v, rfl, q⟩
    exact wpAny_pure (wpAny_pure q)
  | true =>
    simp only [if_true]
    refine wpAny_bind (differs_not hh X c d (L rfl) hz ?_)
    intro h' t' k
    simp only [Bool.false_eq_true, if_false, Bool.not_false, Bool.and_self, if_true]
    refine wpAny_bind ((l6.keeps k).at ?_)
    simp only [if_true]
    refine wpAny_bind ((l7.keeps k).at ?_)
    simp only [Bool.not_true, Bool.false_eq_true, if_false]
    refine wpAny_bind (wpAny_mono (PySem.W.ksp_try (X.keeps k) (instAt_keeps I k) c.at_ c.fn (h h' t' k)) ?_ fun _ _ e => e)
    rintro r s' ⟨v, rfl, q⟩
    exact wpAny_pure (wpAny_pure q)
end
open He (ga ma eqO eqO_ok)
/-! ### lines at operators -/
/-- the operator nm of lines: one def f for all three classes -/
structure OpL (K : Frag) (nm : String) (f : Addr) : Prop where
  of : ∀ k, OpOf K (cA K k) nm f
  two : ∀ k j, k ≠ j → cA K k ≠ cA K j ∧ ∃ b, PySem.W.subIn K (.ref (cA K j)) (.ref (cA K k)) = some b ∧ (b = true → Lacks K (cA K j) (dunderR nm))
/-- line op line, the result an object -/
def rLop (K : Frag) (sp : Sp) (E : XK) : R2 := fun x y H Q => ∃ a k n b j m, x = .ref a ∧ y = .ref b ∧ LnAt K H a k n ∧ LnAt K H b j m ∧ sp [.ref a, .ref b] H (fun v H' => (∃ p, v = .ref p) ∧ Q v H') E
/-- line op number, the result an object -/
def rLnum (K : Frag) (sp : Sp) (E : XK) : R2 := fun x y H Q => ∃ a k n i, x = .ref a ∧ y = .int i ∧ LnAt K H a k n ∧ sp [.ref a, .int i] H (fun v H' => (∃ p, v = .ref p) ∧ Q v H') E
section
variable {X : Cx} {op : Operator} {k0 : Nat} {f : Addr} {fd : FuncData} {ps : List Str} {sp : Sp} {E : XK}
theorem ep_back {pins : List (Addr × Obj)} {σ : L2.St} {Q : VK} {v : Value} {s' : Shared} (h : EP X pins σ (fun v H' => (∃ p, v = .ref p) ∧ Q v H') v s') : PySem.W.CmpBack (EP X pins σ Q) v s' := by
  obtain ⟨y, H', I, r, ⟨p, e⟩, q⟩ := h
  subst e
  obtain rfl : v = Value.ref p := r
  exact ⟨.ref p, H', I, rfl, q⟩
theorem op_lop (hc : X.calm = true) (O : OpL X.K op.info.2 f) (hz : (dunderR op.info.2).length ≤ 1000) (F : FnOk X.prog X.w X.K X.mg X.base (L2.CX X.prog X.w) k0 f fd ps sp) (hr : Room k0 X.A) (hb : L2.Binds X.K fd ps []) (hx : Passes (L2.CX X.prog X.w) X E) : OpR X (binaryOp op) (rLop X.K sp E) := by
  intro pins s σ H x y v u Q I rx ry h
  obtain ⟨a, k, n, b, j, m, rfl, rfl, ⟨dx, ha⟩, ⟨dy, hb'⟩, q⟩ := h
  obtain rfl : v = Value.ref a := rx
  obtain rfl : u = Value.ref b := ry
  have hh : X.A.handled = none := I.ok.hd hc
  obtain ⟨mA, OA, _⟩ := ins_get I.hok ha
  obtain ⟨od, JA, _⟩ := OA.look
  obtain ⟨mB, OB, _⟩ := ins_get I.hok hb'
  obtain ⟨oe, JB, _⟩ := OB.look
  have run : ∀ s', Inv X pins σ H s' → wpAny (model X.prog X.w) X.A (call (.ref f) [.ref a, .ref b]) (PySem.W.CmpBack (EP X pins σ Q)) X.xe s' := by
    intro s' I'
    have w := run_fn (us := [.ref a, .ref b]) (vs := [.ref a, .ref b]) F hr hb .nil hx I' (.cons rfl (.cons rfl .nil)) (by rw [List.append_nil]; exact q)
    exact wpAny_mono w (fun _ _ z => ep_back z) fun _ _ z => z
  by_cases e : k = j
  · subst e
    obtain ⟨mm, fr⟩ := I.fr
    exact PySem.W.binop_K fr I.ok.mod.kin JA JB.type (O.of k).first (O.of k).at_ (O.of k).fn (run s I)
  · obtain ⟨ne, bb, sb, L⟩ := O.two k j e
    exact binop_two hh I.kIn JA JB ne (O.of k) (O.of j) sb L hz fun h' t' kp => run _ (I.kept kp)
theorem op_lnum {fo ro : Option Value} (O : OpL X.K op.info.2 f) (h1 : PySem.W.findIn X.K (.type "int") (PySem.dunder op.info.2) = some fo) (h2 : PySem.W.findIn X.K (.type "int") (dunderR op.info.2) = some ro) (hs : ∀ k, PySem.W.subIn X.K (.type "int") (.ref (cA X.K k)) = some false)
    (F : FnOk X.prog X.w X.K X.mg X.base (L2.CX X.prog X.w) k0 f fd ps sp) (hr : Room k0 X.A) (hb : L2.Binds X.K fd ps []) (hx : Passes (L2.CX X.prog X.w) X E) : OpR X (binaryOp op) (rLnum X.K sp E) := by
  intro pins s σ H x y v u Q I rx ry h
  obtain ⟨a, k, n, i, rfl, rfl, ⟨dx, ha⟩, q⟩ := h
  obtain rfl : v = Value.ref a := rx
  obtain ⟨t, rfl⟩ := ry
  obtain ⟨mA, OA, _⟩ := ins_get I.hok ha
  obtain ⟨od, JA, _⟩ := OA.look
  obtain ⟨mm, fr⟩ := I.fr
  refine PySem.W.ksp_binT fr I.ok.mod.kin JA rfl (O.of k).first (O.of k).at_ (O.of k).fn (O.of k).refl (.inl rfl) h1 h2 (hs k) ?_
  have w := run_fn (us := [.ref a, .int i t]) (vs := [.ref a, .int i]) F hr hb .nil hx I (.cons rfl (.cons ⟨t, rfl⟩ .nil)) (by rw [List.append_nil]; exact q)
  exact wpAny_mono w (fun _ _ z => ep_back z) fun _ _ z => z
end
/-! ### the checks of the top -/
def cOpOf (x : Str) (nm : String) (f : Frag → Addr) : Ck := fun K => PySem.W.selfFirst K (ga K x) && (eqO (PySem.W.findIn K (.ref (ga K x)) (PySem.dunder nm)) (some (some (.ref (f K)))) && (PySem.W.isFn K (.ref (f K)) && eqO (PySem.W.findIn K (.ref (ga K x)) (dunderR nm)) (some none)))
def cLacks (x : Str) (name : Str) : Ck := fun K => PySem.W.readsIn K (ga K x) (.type "type") && (eqO (PySem.W.findIn K (.ref (ga K x)) name) (some none) && (eqO (PySem.W.findIn K (.type "type") name) (some none) && (eqO (PySem.W.findIn K (.type "type") "__getattr__") (some none) &&
  (match PySem.W.clsIn K (ga K x) with | some cd => decide (cd.name.cps.foldl (fun k c => k + (Str.utf8Of c).length) 0 ≤ 100) && decide (cd.name.toString.length ≤ 1000) | none => false))))
def cTwo (x y : Str) (b : Bool) : Ck := fun K => decide (ga K x ≠ ga K y) && decide (PySem.W.subIn K (.ref (ga K y)) (.ref (ga K x)) = some b)
def cIntOp (x : Str) (nm : String) : Ck := fun K => (PySem.W.findIn K (.type "int") (PySem.dunder nm)).isSome && ((PySem.W.findIn K (.type "int") (dunderR nm)).isSome && decide (PySem.W.subIn K (.type "int") (.ref (ga K x)) = some false))
section
variable {K : Frag}
theorem opOf_of {x : Str} {nm : String} {f : Frag → Addr} (c : cOpOf x nm f K = true) : OpOf K (ga K x) nm (f K) := by
  obtain ⟨c1, c⟩ := Bool.and_eq_true_iff.mp c
  obtain ⟨c2, c⟩ := Bool.and_eq_true_iff.mp c
  obtain ⟨c3, c4⟩ := Bool.and_eq_true_iff.mp c
  exact ⟨c1, eqO_ok c2, c3, eqO_ok c4⟩
theorem lacks_of {x name : Str} (c : cLacks x name K = true) : Lacks K (ga K x) name := by
  obtain ⟨c1, c⟩ := Bool.and_eq_true_iff.mp c
  obtain ⟨c2, c⟩ := Bool.and_eq_true_iff.mp c
  obtain ⟨c3, c⟩ := Bool.and_eq_true_iff.mp c
  obtain ⟨c4, c⟩ := Bool.and_eq_true_iff.mp c
  refine ⟨c1, eqO_ok c2, eqO_ok c3, eqO_ok c4, ?_⟩
  cases e : PySem.W.clsIn K (ga K x) with
  | none => rw [e] at c; cases c
  | some cd =>
    rw [e] at c
    obtain ⟨d1, d2⟩ := Bool.and_eq_true_iff.mp c
    exact ⟨cd, rfl, of_decide_eq_true d1, of_decide_eq_true d2⟩
theorem two_of {x y : Str} {b : Bool} (c : cTwo x y b K = true) : ga K x ≠ ga K y ∧ PySem.W.subIn K (.ref (ga K y)) (.ref (ga K x)) = some b := by
  obtain ⟨c1, c2⟩ := Bool.and_eq_true_iff.mp c
  exact ⟨of_decide_eq_true c1, of_decide_eq_true c2⟩
theorem intOp_of {x : Str} {nm : String} (c : cIntOp x nm K = true) : ∃ fo ro, PySem.W.findIn K (.type "int") (PySem.dunder nm) = some fo ∧ PySem.W.findIn K (.type "int") (dunderR nm) = some ro ∧ PySem.W.subIn K (.type "int") (.ref (ga K x)) = some false := by
  obtain ⟨c1, c⟩ := Bool.and_eq_true_iff.mp c
  obtain ⟨c2, c3⟩ := Bool.and_eq_true_iff.mp c
  obtain ⟨fo, e1⟩ := Option.isSome_iff_exists.mp c1
  obtain ⟨ro, e2⟩ := Option.isSome_iff_exists.mp c2
  exact ⟨fo, ro, e1, e2, of_decide_eq_true c3⟩
end
end Fw

/-! Fw, part K: t[::2] of a tuple of three; == and != of lines. -/
namespace Fw
open PySem PySem.Spec PyProof.Rows L2
open PySem.W (Looks looks_findIn looks_clsIn looks_subIn looks_typeIn)
open He (ga ma eqO eqO_ok)
section
variable {prog : Program} {w : World} {A : Around} {E : Value → Shared → Prop} {s : Shared}
theorem sliceApplied_two {sl : Addr} {vl vu vs : Value} {Q : Int × Int × Nat → Shared → Prop} (hs : s.heap.IsSliceOf sl vl vu vs) (pl : IsPart vl none) (pu : IsPart vu none) (ps : IsPart vs (some 2))
    (h : Q (0, 2, 2) s) : wpAny (model prog w) A (Builtin.Slice.sliceApplied (.ref sl) (pure (3 : Int))) Q E s := by
  obtain ⟨os, hos, hcs, hds⟩ := id hs
  unfold Builtin.Slice.sliceApplied Builtin.Slice.sliceFields
  refine wpAny_bind (wpAny_bind (wpAny_field hos hds (x := vl) rfl (wpAny_bind (wpAny_field hos hds (x := vu) rfl (wpAny_bind (wpAny_field hos hds (x := vs) rfl (wpAny_pure ?_)))))))
  refine wpAny_bind (HT.slicePart_ ps ?_)
  show wpAny _ _ (if ((2 : Int) == 0) = true then _ else _) _ _ s
  rw [if_neg (by decide)]
  refine wpAny_bind (HT.slicePart_ pl (wpAny_bind (HT.slicePart_ pu (wpAny_bind (wpAny_pure ?_)))))
  exact wpAny_pure h
theorem getItem_tuple_two {t sl : Addr} {x0 x1 x2 : Value} {vl vu vs : Value} {Q : Value → Shared → Prop} (ht : IsTup s.heap t #[x0, x1, x2]) (hs : s.heap.IsSliceOf sl vl vu vs) (pl : IsPart vl none) (pu : IsPart vu none) (ps : IsPart vs (some 2))
    (h : Q (.ref s.heap.objs.size) { s with heap := s.heap.push { cls := .type "tuple", data := .seq #[x0, x2] } }) : wpAny (model prog w) A (getItem (.ref t) (.ref sl)) Q E s := by
  have htake : sizeOk (.seq #[x0, x2]) := by
    show (2 : Nat) ≤ sizeLine
    decide
  obtain ⟨os, hos, hcs, hds⟩ := id hs
  have hTs : s.TypeIs (.ref sl) "slice" := ⟨os, hos, hcs⟩
  unfold getItem
  try with_reducible refine wpAny_holding ?_
  first | refine wpAny_bind (wpAny_pure ?_) | skip
  refine wpAny_bind (wpAny_sequenceKey ht.typeIs (by decide) ?_)
  refine wpAny_bind (wpAny_callSpecial?_slot (name := Str.ofString "__getitem__") ht.typeIs PyProof.Rows.slot_tuple_getitem
    (wpAny_call_entry PyProof.Rows.slot_tuple_getitem ht.typeIs entry_tuple_getitem ?_ (args_tuple_getitem _ _)))
  show wpAny _ _ (Builtin.Tuple.tupleItemsOf (.ref t) >>= _) _ _ s
  refine wpAny_bind (tupleItemsOf_ ht ?_)
  refine wpAny_bind (wpAny_typeOf hTs ?_)
  rw [if_pos (by decide)]
  refine wpAny_bind (sliceApplied_two hs pl pu ps ?_)
  have e : ((List.range 2).filterMap fun (m : Nat) => (#[x0, x1, x2] : Array Value)[((0 : Int) + (m : Int) * 2).toNat]?).toArray = #[x0, x2] := rfl
  show wpAny _ _ (if ((0 : Int) == 0 && (2 : Int) == 1 && (2 == 3)) = true then _ else _) _ _ s
  rw [if_neg (by decide)]
  first
    | exact wpAny_bind (m := Builtin.Tuple.tupleExact _) (wpAny_newObj_type (wpAny_pure ⟨_, rfl, wpAny_pure h⟩) htake)
    | exact wpAny_bind (m := Builtin.Tuple.tupleExact _) (wpAny_newObj_type (wpAny_bind (wpAny_pure (wpAny_pure ⟨_, rfl, wpAny_pure h⟩))) htake)
    | exact wpAny_bind (wpAny_bind (m := Builtin.Tuple.tupleExact _) (wpAny_newObj_type (wpAny_pure (wpAny_pure ⟨_, rfl, wpAny_pure h⟩)) htake))
    | exact wpAny_bind (wpAny_bind (m := Builtin.Tuple.tupleExact _) (wpAny_newObj_type (wpAny_pure ⟨_, rfl, wpAny_pure h⟩) htake))
end
/-! ### t[::2] -/
def tTup2 (K : Frag) (te : TE) : TE := fun σ H Q => te σ H fun x H1 => ∃ a x0 x1 x2, x = .ref a ∧ SqT K H1 a [x0, x1, x2] ∧ ∀ p, H1 p = none → Q (.ref p) (upd H1 p (.tup [x0, x2]))
section
variable {X : Cx}
theorem pe_tup2 {e : Expr} {te : TE} {k : Nat} {p1 p3 pos : Pos} (he : PE X e te) : PE X (.Subscript e (.Slice none none (some (.Constant (.int 2) k p1)) p3) pos) (tTup2 X.K te) := by
  refine ⟨fun pins s σ H Q I h => ?_⟩
  refine Subscript_ (thn (he.run pins s σ H _ I h) fun v s1 ⟨x, H1, I1, r1, q1⟩ => ?_)
  obtain ⟨a, x0, x1, x2, ex, hx, q⟩ := q1
  subst ex
  cases r1
  have hst : PO X (some (.Constant (.int 2) k p1)) (tPart (tC (.int 2))) := po_some pe_int
  refine wpAny_Slice (thn (po_none.run pins s1 σ H1 (fun o H2 => o = none ∧ H2 = H1) I1 ⟨rfl, rfl⟩) fun vl s2 ⟨l, H2, I2, pl, el, e2⟩ => ?_)
  subst el e2
  refine thn (po_none.run pins s2 σ H2 (fun o H3 => o = none ∧ H3 = H2) I2 ⟨rfl, rfl⟩) fun vu s3 ⟨u, H3, I3, pu, eu, e3⟩ => ?_
  subst eu e3
  refine thn (hst.run pins s3 σ H3 (fun o H4 => o = some 2 ∧ H4 = H3) I3 ⟨2, rfl, rfl, rfl⟩) fun vs s4 ⟨o, H4, I4, ps, eo, e4⟩ => ?_
  subst eo e4
  have I5 : Inv X pins σ H4 { s4 with heap := s4.heap.push { cls := .type "slice", data := .fields #[vl, vu, vs] } } := I4.kept (t' := s4.toks) fun b ob q => Heap.get?_push_of_some _ q
  obtain ⟨its, r, ht, hz⟩ := I5.tuple hx
  obtain ⟨y0, y1, y2, ei, r0, r1, r2⟩ : ∃ y0 y1 y2, its = [y0, y1, y2] ∧ RelV x0 y0 ∧ RelV x1 y1 ∧ RelV x2 y2 := by
    cases r with
    | cons a0 r => cases r with
      | cons a1 r => cases r with
        | cons a2 r => cases r with
          | nil => exact ⟨_, _, _, rfl, a0, a1, a2⟩
  subst ei
  show wpAny (model X.prog X.w) X.A (subscriptTail e (.Slice none none (some (.Constant (.int 2) k p1)) p3) (.ref a) (.ref s4.heap.objs.size)) (EP X pins σ Q) X.xe { s4 with heap := s4.heap.push { cls := .type "slice", data := .fields #[vl, vu, vs] } }
  refine tail_any (ops := [.ref a, .ref s4.heap.objs.size]) ht.typeIs (PyProof.Rows.slot_tuple_getitem.lookup) ?_ (by with_unfolding_all rfl)
  refine getItem_tuple_two ht (Heap.IsSliceOf.new _ vl vu vs) pl pu ps ?_
  refine ⟨.ref _, _, I5.laid (t' := s4.toks) (o := .tup [x0, x2]) (fun b ob q => Heap.get?_push_of_some _ q) (Nat.le_refl _) ?_, rfl, q _ (I5.hok.fresh (Nat.le_refl _))⟩
  exact ⟨by show 2 ≤ sizeLine; decide, _, .cons r0 (.cons r2 .nil), IsTup.new _ _⟩
end
/-! ### == and != of an own class -/
structure EqOf (K : Frag) (C : Addr) (f : Addr) : Prop where
  eq : PySem.W.findIn K (.ref C) "__eq__" = some (some (.ref f))
  fn : PySem.W.isFn K (.ref f) = true
  ne : PySem.W.findIn K (.ref C) "__ne__" = some (some (.builtin "object.__ne__"))
  obj : PySem.W.subIn K (.ref C) (.type "object") = some true
section
variable {prog : Program} {w : World} {A : Around} {E : Value → Shared → Prop} {s : Shared} {K : Frag} {x C f : Addr} {ox : Obj} {od : Option Obj} {y : Value}
theorem eq_try {Q : Option Value → Shared → Prop} (X : K.In s.heap) (I : PySem.W.InstAt s.heap x ox C od) (c : EqOf K C f)
    (h : wpAny (model prog w) A (call (.ref f) [.ref x, y]) (fun v s' => ∃ b, v = .bool b ∧ Q (some (.bool b)) s') E s) : wpAny (model prog w) A (tryCompare (.ref x) "__eq__" y) Q E s := by
  unfold tryCompare
  refine wpAny_bind (PySem.W.ifBound_K X I c.eq c.fn (wpAny_mono h (fun v s' hv => ?_) fun _ _ e => e))
  obtain ⟨b, rfl, q⟩ := hv
  exact wpAny_pure q
theorem objNe_own {Q : Fin → Shared → Prop} (hu : A.units < cLine) (X : K.In s.heap) (I : PySem.W.InstAt s.heap x ox C od) (c : EqOf K C f)
    (h : wpAny (model prog w) A (call (.ref f) [.ref x, y]) (fun v s' => ∃ b, v = .bool b ∧ Q (.done (.ret (.bool (!b)))) s') E s) :
    wpAny (model prog w) A (Builtin.«object.__ne__» ⟨[.ref x, y], []⟩) Q E s := by
  unfold Builtin.«object.__ne__»
  repeat (first
    | with_reducible refine wpAny_cRoomFor hu ?_
    | (refine wpAny_bind (m := callSpecialIfBound? (.ref x) (Str.ofString "__eq__") [y])
        (PySem.W.ifBound_K X I c.eq c.fn (wpAny_mono h (fun r s' hr => by
          obtain ⟨b, rfl, hq⟩ := hr
          repeat (first | exact hq | exact wpAny_pure hq | exact wpAny_truthy_bool hq | (refine wpAny_bind (m := truthy (.bool _)) (wpAny_truthy_bool ?_)) | wp_step)) fun _ _ e => e)))
    | wp_step)
theorem ne_try {Q : Option Value → Shared → Prop} (hu : A.units + 1 < cLine) (X : K.In s.heap) (I : PySem.W.InstAt s.heap x ox C od) (c : EqOf K C f)
    (h : wpAny (model prog w) A.in1 (call (.ref f) [.ref x, y]) (fun v s' => ∃ b, v = .bool b ∧ Q (some (.bool (!b))) s') E s) : wpAny (model prog w) A (tryCompare (.ref x) "__ne__" y) Q E s := by
  unfold tryCompare callSpecialIfBound? bindSpecialIfBound?
  have hb : ∀ self, bindSpecial (.builtin "object.__ne__") self = pure (.builtin "object.__ne__", [self]) := PySem.F.slot_object_ne.bind
  refine wpAny_bind (wpAny_holding (wpAny_bind (wpAny_bind (wpAny_bind (I.type.here ((PySem.W.looks_findIn X c.ne).here ?_))))))
  refine wpAny_bind (wpAny_askSetting (wpAny_ite ?_))
  have lo : Looks (model prog w) s.heap (isInstance (.ref x) (.type "object")) true := I.type.andThen (looks_subIn X c.obj)
  have go : wpAny (model prog w) A (call (.builtin "object.__ne__") [.ref x, y]) (fun v s' => ∃ b, v = .bool (!b) ∧ Q (some (.bool (!b))) s') E s := by
    refine wpAny_call (codeAny_call_builtin PySem.F.slot_object_ne.plain PySem.F.cmpEntry_ne (PySem.W.check_slot PySem.F.cmpKind_ne PySem.F.cmpSplit_ne lo (PySem.F.cmpArgs_ne _ _) (objNe_own (A := A.in1) hu X I c (wpAny_mono h (fun v s' hv => ?_) fun _ _ e => e))))
    obtain ⟨b, rfl, q⟩ := hv
    exact ⟨b, rfl, b, rfl, q⟩
  have fin : wpAny (model prog w) A (call (.builtin "object.__ne__") ([.ref x] ++ [y]) >>= fun v => pure (some v)) (fun r s' => wpAny (model prog w) A (match r with | some .notImplemented | none => pure none | some v => pure (some v)) Q E s') E s := by
    refine wpAny_bind (wpAny_mono go (fun v s' hv => ?_) fun _ _ e => e)
    obtain ⟨b, rfl, q⟩ := hv
    exact wpAny_pure (wpAny_pure q)
  simp only [hb]
  split
  · exact wpAny_bind (wpAny_pure (wpAny_pure fin))
  · exact wpAny_tryCatch (wpAny_bind (wpAny_pure (wpAny_pure fin)))
end

section
variable {X : Cx} {n : Nat} {f : Addr} {fd : FuncData} {ps : List Str} {sp : Sp} {E : XK} {pins : List (Addr × Obj)} {σ : L2.St} {H : Hp} {s : Shared} {Q : VK} {us : List Value} {vs : List V}
/-- a def called from within a built-in one -/
theorem run_in1 (F : FnOk X.prog X.w X.K X.mg X.base (L2.CX X.prog X.w) n f fd ps sp) (hr : Room (n + 1) X.A) (hb : L2.Binds X.K fd ps []) (hx : Passes (L2.CX X.prog X.w) X E) (I : Inv X pins σ H s) (r : Vals vs us) (q : sp vs H Q E) :
    wpAny (model X.prog X.w) X.A.in1 (call (.ref f) us) (EP X pins σ Q) X.xe s := by
  have sb : Sub X n X.A.in1 := Sub.in1 ⟨hr, rfl⟩
  have e0 : Env0 X.prog X.w X.K X.mg X.base X.A.in1 X.stack s H := by
    have e := I.env0
    exact ⟨by rw [sb.fr]; exact e.frames, e.mod, e.bs, e.bsz, e.funs, e.frf, e.hok, e.bare⟩
  have hl := F.len _ _ _ _ q
  have hl2 : us.length = ps.length := by rw [← r.length]; exact hl
  refine wpAny_call (codeAny_mono (F.run X.A.in1 X.stack s H ⟨us, []⟩ us vs Q E sb.room e0 (by
    have := hb s us I.kIn (by simpa using hl2)
    simpa using this) r q) fun r s' hq => ?_)
  cases r with
  | error e => exact hx pins σ H s e s' I hq
  | ok fl =>
    cases fl with
    | ret w => exact I.after hq
    | next => exact False.elim hq
    | brk => exact False.elim hq
    | cont => exact False.elim hq
end
/-- the answer is True or False -/
def isB (Q : VK) : VK := fun v H' => (∃ b, v = .bl b) ∧ Q v H'
def notB (Q : VK) : VK := fun v H' => ∃ b, v = .bl b ∧ Q (.bl (!b)) H'
structure EqL (K : Frag) (f : Addr) : Prop where
  of : ∀ k, EqOf K (cA K k) f
  two : ∀ k j, k ≠ j → cA K k ≠ cA K j ∧ ∃ b, PySem.W.subIn K (.ref (cA K j)) (.ref (cA K k)) = some b
/-- a line and what stands right of it -/
def rEqL (K : Frag) (sp : Sp) (E : XK) (N : VK → VK) : R2 := fun x y H Q => ∃ a k n, x = .ref a ∧ LnAt K H a k n ∧
  ((∃ b j m, y = .ref b ∧ LnAt K H b j m ∧ sp [.ref a, .ref b] H (N Q) E ∧ sp [.ref b, .ref a] H (N Q) E) ∨
   (∃ T, TyX K H y (.type T) ∧ PySem.W.notFirst K (cA K k) (.type T) = true ∧ sp [.ref a, y] H (N Q) E))
section
variable {prog : Program} {w : World} {A : Around} {E : Value → Shared → Prop} {s : Shared} {K : Frag} {x y C D f : Addr} {ox oy : Obj} {od oe : Option Obj} {v tb : Value}
/-- x op v by x's own __eq__ or __ne__, none of v's ahead -/
theorem cmp_own {op : CmpOp} {nm : Str} {sym : String} (hi : cmpInfo op = (sym, nm, nm)) {Q : Value → Shared → Prop} (h1 : oneThing? op (.ref x) v = none) (hu : A.units < cLine) (I : PySem.W.InstAt s.heap x ox C od) (hb : Looks (model prog w) s.heap (typeOf v) tb)
    (X : K.In s.heap) (hn : tb = .ref C ∨ PySem.W.subIn K tb (.ref C) = some false)
    (h : wpAny (model prog w) A (tryCompare (.ref x) nm v) (fun r s' => ∃ b, r = some (.bool b) ∧ Q (.bool b) s') E s) : wpAny (model prog w) A (richCompare op (.ref x) v) Q E s := by
  unfold richCompare
  rw [h1, hi]
  refine wpAny_holding (wpAny_bind (wpAny_cRoomFor hu ?_))
  dsimp only
  refine wpAny_bind (I.type.here (wpAny_bind (hb.here ?_)))
  split
  · rename_i q
    have e : PySem.W.subIn K tb (.ref C) = some false := by
      rcases hn with e | e
      · rw [e] at q; simp at q
      · exact e
    refine wpAny_bind ((looks_subIn X e).here ?_)
    simp only [Bool.false_eq_true, if_false]
    refine wpAny_bind (wpAny_mono h (fun r s' z => ?_) fun _ _ e => e)
    obtain ⟨b, rfl, hq⟩ := z
    exact wpAny_pure hq
  · refine wpAny_bind (wpAny_pure ?_)
    simp only [Bool.false_eq_true, if_false]
    refine wpAny_bind (wpAny_mono h (fun r s' z => ?_) fun _ _ e => e)
    obtain ⟨b, rfl, hq⟩ := z
    exact wpAny_pure hq
/-- x op y, y's class below x's: y's own one is asked -/
theorem cmp_below {op : CmpOp} {nm : Str} {sym : String} (hi : cmpInfo op = (sym, nm, nm)) {Q : Value → Shared → Prop} (h1 : oneThing? op (.ref x) (.ref y) = none) (hu : A.units < cLine) (I : PySem.W.InstAt s.heap x ox C od) (J : PySem.W.InstAt s.heap y oy D oe)
    (X : K.In s.heap) (ne : C ≠ D) (sb : PySem.W.subIn K (.ref D) (.ref C) = some true)
    (h : wpAny (model prog w) A (tryCompare (.ref y) nm (.ref x)) (fun r s' => ∃ b, r = some (.bool b) ∧ Q (.bool b) s') E s) : wpAny (model prog w) A (richCompare op (.ref x) (.ref y)) Q E s := by
  unfold richCompare
  rw [h1, hi]
  refine wpAny_holding (wpAny_bind (wpAny_cRoomFor hu ?_))
  dsimp only
  refine wpAny_bind (I.type.here (wpAny_bind (J.type.here ?_)))
  have hne : (Value.ref C != Value.ref D) = true := by
    rw [bne_iff_ne]
    intro z
    cases z
    exact ne rfl
  rw [if_pos hne]
  refine wpAny_bind ((looks_subIn X sb).here ?_)
  simp only [if_true]
  refine wpAny_bind (wpAny_mono h (fun r s' z => ?_) fun _ _ e => e)
  obtain ⟨b, rfl, hq⟩ := z
  exact wpAny_bind (wpAny_rule (wpAny_pure hq))
end
/-- the heap behind the making of a line at x -/
abbrev mkH (K : Frag) (H : Hp) (x dx : Addr) (k : LK) (n : N3) : Hp := upd (upd (upd H dx (.own x)) x (.ins (cA K k) dx [])) x (.ins (cA K k) dx (lf n))
theorem mkH_same {K : Frag} {H : Hp} {x dx : Addr} {k : LK} {n : N3} (hx : H x = none) (hd : H dx = none) : Same H (mkH K H x dx k n) := mk_same hx hd
theorem mkH_at {K : Frag} {H : Hp} {x dx : Addr} {k : LK} {n : N3} : LnAt K (mkH K H x dx k n) x k n := ⟨dx, upd_same⟩

section
variable {X : Cx} {k0 : Nat} {f : Addr} {fd : FuncData} {ps : List Str} {sp : Sp} {E : XK}
theorem ep_isB {pins : List (Addr × Obj)} {σ : L2.St} {Q : VK} {v : Value} {s' : Shared} (h : EP X pins σ (isB Q) v s') : ∃ b, v = .bool b ∧ (∃ c, some (Value.bool b) = some (.bool c) ∧ EP X pins σ Q (.bool c) s') := by
  obtain ⟨y, H', I', r, ⟨b, rfl⟩, q⟩ := h
  obtain rfl : v = Value.bool b := r
  exact ⟨b, rfl, b, rfl, .bl b, H', I', rfl, q⟩
theorem ep_notB {pins : List (Addr × Obj)} {σ : L2.St} {Q : VK} {v : Value} {s' : Shared} (h : EP X pins σ (notB Q) v s') : ∃ b, v = .bool b ∧ (∃ c, some (Value.bool (!b)) = some (.bool c) ∧ EP X pins σ Q (.bool c) s') := by
  obtain ⟨y, H', I', r, b, rfl, q⟩ := h
  obtain rfl : v = Value.bool b := r
  exact ⟨b, rfl, !b, rfl, .bl (!b), H', I', rfl, q⟩
theorem op_cmpL {op : CmpOp} {nm : Str} {sym : String} {N : VK → VK} (hi : cmpInfo op = (sym, nm, nm)) (hc : ∀ a b, compareOp op a b = richCompare op a b) (O : EqL X.K f) (hu : X.A.units < cLine)
    (run : ∀ (pins : List (Addr × Obj)) (s : Shared) (σ : L2.St) (H : Hp) (a : Addr) (y : V) (u : Value) (C : Addr) (ox : Obj) (od : Option Obj) (Q : VK), Inv X pins σ H s → RelV y u → PySem.W.InstAt s.heap a ox C od → EqOf X.K C f → sp [.ref a, y] H (N Q) E →
      wpAny (model X.prog X.w) X.A (tryCompare (.ref a) nm u) (fun r s' => ∃ b, r = some (.bool b) ∧ EP X pins σ Q (.bool b) s') X.xe s) : OpR X (compareOp op) (rEqL X.K sp E N) := by
  intro pins s σ H x y v u Q I rx ry h
  obtain ⟨a, k, n, rfl, ⟨dx, ha⟩, h⟩ := h
  obtain rfl : v = Value.ref a := rx
  obtain ⟨mA, OA, _⟩ := ins_get I.hok ha
  obtain ⟨od, JA, _⟩ := OA.look
  rw [hc]
  have one : ∀ b, oneThing? op (.ref a) b = none := fun b => by simp only [oneThing_ref]
  rcases h with ⟨b, j, m, rfl, ⟨dy, hb'⟩, q1, q2⟩ | ⟨T, ty, nf, q⟩
  · obtain rfl : u = Value.ref b := ry
    obtain ⟨mB, OB, _⟩ := ins_get I.hok hb'
    obtain ⟨oe, JB, _⟩ := OB.look
    by_cases e : k = j
    · subst e
      exact cmp_own hi (one _) hu JA JB.type I.kIn (.inl rfl) (run pins s σ H a (.ref b) _ _ _ _ Q I rfl JA (O.of k) q1)
    · obtain ⟨ne, bb, sb⟩ := O.two k j e
      cases bb with
      | false => exact cmp_own hi (one _) hu JA JB.type I.kIn (.inr sb) (run pins s σ H a (.ref b) _ _ _ _ Q I rfl JA (O.of k) q1)
      | true => exact cmp_below hi (one _) hu JA JB I.kIn ne sb (run pins s σ H b (.ref a) _ _ _ _ Q I rfl JB (O.of j) q2)
  · obtain ⟨P, Zk, p, hx⟩ := L2.kit_of I ry ty
    have lk := Zk.ty (model X.prog X.w) s.heap I.kIn p
    refine cmp_own hi (one _) hu JA lk I.kIn ?_ (run pins s σ H a _ _ _ _ _ Q I ry JA (O.of k) q)
    rcases Bool.or_eq_true_iff.mp nf with e | e
    · exact .inl (beq_iff_eq.mp e)
    · exact .inr (beq_iff_eq.mp e)
theorem op_eqL (O : EqL X.K f) (F : FnOk X.prog X.w X.K X.mg X.base (L2.CX X.prog X.w) k0 f fd ps sp) (hr : Room (k0 + 1) X.A) (hb : L2.Binds X.K fd ps []) (hx : Passes (L2.CX X.prog X.w) X E) : OpR X (compareOp .Eq) (rEqL X.K sp E isB) := by
  refine op_cmpL (nm := "__eq__") (sym := "==") rfl (fun _ _ => rfl) O (Nat.lt_of_succ_lt (hu_of hr)) fun pins s σ H a y u C ox od Q I ry J c q => ?_
  refine eq_try I.kIn J c ?_
  have w := run_fn (us := [.ref a, u]) (vs := [.ref a, y]) F (hr.mono (Nat.le_succ _)) hb .nil hx I (.cons rfl (.cons ry .nil)) (by rw [List.append_nil]; exact q)
  exact wpAny_mono w (fun _ _ z => ep_isB z) fun _ _ z => z
theorem op_neL (O : EqL X.K f) (F : FnOk X.prog X.w X.K X.mg X.base (L2.CX X.prog X.w) k0 f fd ps sp) (hr : Room (k0 + 1) X.A) (hb : L2.Binds X.K fd ps []) (hx : Passes (L2.CX X.prog X.w) X E) : OpR X (compareOp .NotEq) (rEqL X.K sp E notB) := by
  refine op_cmpL (nm := "__ne__") (sym := "!=") rfl (fun _ _ => rfl) O (Nat.lt_of_succ_lt (hu_of hr)) fun pins s σ H a y u C ox od Q I ry J c q => ?_
  refine ne_try (hu_of hr) I.kIn J c ?_
  have w := run_in1 (us := [.ref a, u]) (vs := [.ref a, y]) F hr hb hx I (.cons rfl (.cons ry .nil)) q
  exact wpAny_mono w (fun _ _ z => ep_notB z) fun _ _ z => z
end
/-! ### the checks of the top -/
def cEqOf (x : Str) (f : Frag → Addr) : Ck := fun K => eqO (PySem.W.findIn K (.ref (ga K x)) "__eq__") (some (some (.ref (f K)))) && (PySem.W.isFn K (.ref (f K)) && (eqO (PySem.W.findIn K (.ref (ga K x)) "__ne__") (some (some (.builtin "object.__ne__"))) && decide (PySem.W.subIn K (.ref (ga K x)) (.type "object") = some true)))
theorem eqOf_of {K : Frag} {x : Str} {f : Frag → Addr} (c : cEqOf x f K = true) : EqOf K (ga K x) (f K) := by
  obtain ⟨c1, c⟩ := Bool.and_eq_true_iff.mp c
  obtain ⟨c2, c⟩ := Bool.and_eq_true_iff.mp c
  obtain ⟨c3, c4⟩ := Bool.and_eq_true_iff.mp c
  exact ⟨eqO_ok c1, c2, eqO_ok c3, of_decide_eq_true c4⟩
def cNf (x : Str) (T : String) : Ck := fun K => PySem.W.notFirst K (ga K x) (.type T)
end Fw

/-! Fw, part L: powers of great ints; repr of None or an int; t[::-1] of a tuple of three; the tape of draws. -/
namespace Fw
open PySem PySem.Spec PyProof.Rows L2
open He (ga ma eqO eqO_ok)
/-! ### a ** b of great ints -/
def CPowW (i j : Int) : Prop := 0 ≤ j ∧ j ≤ 1000 ∧ Sz 8000 i
theorem bits_le8 {b : Nat} {m : Int} (h : Sz b m) : Builtin.Int.intBits m ≤ b := by
  unfold Builtin.Int.intBits
  by_cases z : m = 0
  · subst z
    exact Nat.zero_le _
  · have q : m.natAbs ≠ 0 := by omega
    have l := (Nat.log2_lt q).mpr h
    split
    · exact Nat.zero_le _
    · omega
section
variable {X : Cx}
theorem op_powW : OpR X (binaryOp .Pow) (rI CPowW fun i j => .int (i ^ j.toNat)) := opI fun i j _ _ _ _ _ hc q => by
  obtain ⟨h0, h1, h2⟩ := hc
  refine pow_int h0 ?_ q
  have hb := bits_le8 h2
  have e : (Builtin.Int.intBits i : Int) * j ≤ 8000 * j := Int.mul_le_mul_of_nonneg_right (by omega) h0
  omega
theorem Sz.pow3 {a : Nat} {i : Int} (h : Sz a i) : Sz (a + a + a) (i ^ (3 : Int).toNat) := by
  have e : i ^ (3 : Int).toNat = i * i * i := by
    show i ^ 3 = _
    rw [Int.pow_succ, Int.pow_succ, Int.pow_succ, Int.pow_zero, Int.one_mul]
  rw [e]
  exact (h.mul h).mul h
/-- repr of None or an int -/
theorem call_repr_opt (hu : X.A.units + 64 < cLine) : CallR X (.builtin "repr") (fun xs H Q => ∃ i : Option Int, xs = [optV i] ∧ (∀ j, i = some j → j.natAbs.log2 < 1920) ∧ Q (.str (match i with | some j => Str.ofString (toString j) | none => "None")) H) := by
  intro pins s σ H xs us Q I r h
  obtain ⟨i, rfl, hl, q⟩ := h
  cases i with
  | some j =>
    exact SkE.call_repr_int pins s σ H _ us Q I r ⟨j, rfl, hl j rfl, q⟩
  | none =>
    obtain ⟨u, rfl, ru⟩ := vals1 r
    obtain rfl : u = Value.none := ru
    exact PySem.P.repr_of_none ⟨.str "None", H, I.tok _, ⟨_, rfl⟩, q⟩
end
section
variable {prog : Program} {w : World} {A : Around} {E : Value → Shared → Prop} {s : Shared}
theorem sliceApplied_back {sl : Addr} {vl vu vs : Value} {Q : Int × Int × Nat → Shared → Prop} (hs : s.heap.IsSliceOf sl vl vu vs) (pl : IsPart vl none) (pu : IsPart vu none) (ps : IsPart vs (some (-1)))
    (h : Q (2, -1, 3) s) : wpAny (model prog w) A (Builtin.Slice.sliceApplied (.ref sl) (pure (3 : Int))) Q E s := by
  obtain ⟨os, hos, hcs, hds⟩ := id hs
  unfold Builtin.Slice.sliceApplied Builtin.Slice.sliceFields
  refine wpAny_bind (wpAny_bind (wpAny_field hos hds (x := vl) rfl (wpAny_bind (wpAny_field hos hds (x := vu) rfl (wpAny_bind (wpAny_field hos hds (x := vs) rfl (wpAny_pure ?_)))))))
  refine wpAny_bind (HT.slicePart_ ps ?_)
  show wpAny _ _ (if ((-1 : Int) == 0) = true then _ else _) _ _ s
  rw [if_neg (by decide)]
  refine wpAny_bind (HT.slicePart_ pl (wpAny_bind (HT.slicePart_ pu (wpAny_bind (wpAny_pure ?_)))))
  exact wpAny_pure h
theorem getItem_tuple_back {t sl : Addr} {x0 x1 x2 : Value} {vl vu vs : Value} {Q : Value → Shared → Prop} (ht : IsTup s.heap t #[x0, x1, x2]) (hs : s.heap.IsSliceOf sl vl vu vs) (pl : IsPart vl none) (pu : IsPart vu none) (ps : IsPart vs (some (-1)))
    (h : Q (.ref s.heap.objs.size) { s with heap := s.heap.push { cls := .type "tuple", data := .seq #[x2, x1, x0] } }) : wpAny (model prog w) A (getItem (.ref t) (.ref sl)) Q E s := by
  have htake : sizeOk (.seq #[x2, x1, x0]) := by
    show (3 : Nat) ≤ sizeLine
    decide
  obtain ⟨os, hos, hcs, hds⟩ := id hs
  have hTs : s.TypeIs (.ref sl) "slice" := ⟨os, hos, hcs⟩
  unfold getItem
  try with_reducible refine wpAny_holding ?_
  first | refine wpAny_bind (wpAny_pure ?_) | skip
  refine wpAny_bind (wpAny_sequenceKey ht.typeIs (by decide) ?_)
  refine wpAny_bind (wpAny_callSpecial?_slot (name := Str.ofString "__getitem__") ht.typeIs PyProof.Rows.slot_tuple_getitem
    (wpAny_call_entry PyProof.Rows.slot_tuple_getitem ht.typeIs entry_tuple_getitem ?_ (args_tuple_getitem _ _)))
  show wpAny _ _ (Builtin.Tuple.tupleItemsOf (.ref t) >>= _) _ _ s
  refine wpAny_bind (tupleItemsOf_ ht ?_)
  refine wpAny_bind (wpAny_typeOf hTs ?_)
  rw [if_pos (by decide)]
  refine wpAny_bind (sliceApplied_back hs pl pu ps ?_)
  show wpAny _ _ (if ((2 : Int) == 0 && (-1 : Int) == 1 && (3 == 3)) = true then _ else _) _ _ s
  rw [if_neg (by decide)]
  first
    | exact wpAny_bind (m := Builtin.Tuple.tupleExact _) (wpAny_newObj_type (wpAny_pure ⟨_, rfl, wpAny_pure h⟩) htake)
    | exact wpAny_bind (m := Builtin.Tuple.tupleExact _) (wpAny_newObj_type (wpAny_bind (wpAny_pure (wpAny_pure ⟨_, rfl, wpAny_pure h⟩))) htake)
    | exact wpAny_bind (wpAny_bind (m := Builtin.Tuple.tupleExact _) (wpAny_newObj_type (wpAny_pure (wpAny_pure ⟨_, rfl, wpAny_pure h⟩)) htake))
    | exact wpAny_bind (wpAny_bind (m := Builtin.Tuple.tupleExact _) (wpAny_newObj_type (wpAny_pure ⟨_, rfl, wpAny_pure h⟩) htake))
end
/-! ### t[::-1], t of three items -/
def tTupR (K : Frag) (te : TE) : TE := fun σ H Q => te σ H fun x H1 => ∃ a x0 x1 x2, x = .ref a ∧ SqT K H1 a [x0, x1, x2] ∧ ∀ p, H1 p = none → Q (.ref p) (upd H1 p (.tup [x2, x1, x0]))
section
variable {X : Cx}
theorem pe_tupR {e : Expr} {te : TE} {k : Nat} {p1 p2 p3 pos : Pos} (he : PE X e te) : PE X (.Subscript e (.Slice none none (some (.UnaryOp .USub (.Constant (.int 1) k p1) p2)) p3) pos) (tTupR X.K te) := by
  refine ⟨fun pins s σ H Q I h => ?_⟩
  refine Subscript_ (thn (he.run pins s σ H _ I h) fun v s1 ⟨x, H1, I1, r1, q1⟩ => ?_)
  obtain ⟨a, x0, x1, x2, ex, hx, q⟩ := q1
  subst ex
  cases r1
  have hst : PO X (some (.UnaryOp .USub (.Constant (.int 1) k p1) p2)) (tPart (tUn (rU fun i => .int (-i)) (tC (.int 1)))) := po_some (pe_un un_neg pe_int)
  refine wpAny_Slice (thn (po_none.run pins s1 σ H1 (fun o H2 => o = none ∧ H2 = H1) I1 ⟨rfl, rfl⟩) fun vl s2 ⟨l, H2, I2, pl, el, e2⟩ => ?_)
  subst el e2
  refine thn (po_none.run pins s2 σ H2 (fun o H3 => o = none ∧ H3 = H2) I2 ⟨rfl, rfl⟩) fun vu s3 ⟨u, H3, I3, pu, eu, e3⟩ => ?_
  subst eu e3
  refine thn (hst.run pins s3 σ H3 (fun o H4 => o = some (-1) ∧ H4 = H3) I3 ⟨1, rfl, -1, rfl, rfl, rfl⟩) fun vs s4 ⟨o, H4, I4, ps, eo, e4⟩ => ?_
  subst eo e4
  have I5 : Inv X pins σ H4 { s4 with heap := s4.heap.push { cls := .type "slice", data := .fields #[vl, vu, vs] } } := I4.kept (t' := s4.toks) fun b ob q => Heap.get?_push_of_some _ q
  obtain ⟨its, r, ht, hz⟩ := I5.tuple hx
  obtain ⟨y0, y1, y2, ei, r0, r1, r2⟩ : ∃ y0 y1 y2, its = [y0, y1, y2] ∧ RelV x0 y0 ∧ RelV x1 y1 ∧ RelV x2 y2 := by
    cases r with
    | cons a0 r => cases r with
      | cons a1 r => cases r with
        | cons a2 r => cases r with
          | nil => exact ⟨_, _, _, rfl, a0, a1, a2⟩
  subst ei
  show wpAny (model X.prog X.w) X.A (subscriptTail e (.Slice none none (some (.UnaryOp .USub (.Constant (.int 1) k p1) p2)) p3) (.ref a) (.ref s4.heap.objs.size)) (EP X pins σ Q) X.xe { s4 with heap := s4.heap.push { cls := .type "slice", data := .fields #[vl, vu, vs] } }
  refine tail_any (ops := [.ref a, .ref s4.heap.objs.size]) ht.typeIs (PyProof.Rows.slot_tuple_getitem.lookup) ?_ (by with_unfolding_all rfl)
  refine getItem_tuple_back ht (Heap.IsSliceOf.new _ vl vu vs) pl pu ps ?_
  refine ⟨.ref _, _, I5.laid (t' := s4.toks) (o := .tup [x2, x1, x0]) (fun b ob q => Heap.get?_push_of_some _ q) (Nat.le_refl _) ?_, rfl, q _ (I5.hok.fresh (Nat.le_refl _))⟩
  exact ⟨by show 3 ≤ sizeLine; decide, _, .cons r2 (.cons r1 (.cons r0 .nil)), IsTup.new _ _⟩
end
/-! ### the tape: a list [digits, seed, count] -/
/-- N counts may still be made -/
def Tp (a : Addr) (N : Nat) (H : Hp) : Prop := ∃ (d m n : Int), H a = some (.lst [.int d, .int m, .int n]) ∧ 0 ≤ d ∧ 0 ≤ m ∧ m < 2 ^ 140 ∧ 0 ≤ n ∧ n + (N : Int) ≤ 2 ^ 40
theorem Tp.less {a : Addr} {N N' : Nat} {H : Hp} (h : Tp a N H) (l : N' ≤ N) : Tp a N' H := by
  obtain ⟨d, m, n, h1, h2, h3, h4, h5, h6⟩ := h
  exact ⟨d, m, n, h1, h2, h3, h4, h5, by omega⟩
theorem Tp.same {a : Addr} {N : Nat} {H H' : Hp} (h : Tp a N H) (s : Same H H') : Tp a N H' := by
  obtain ⟨d, m, n, h1, h2⟩ := h
  exact ⟨d, m, n, s _ _ h1, h2⟩
theorem Tp.out {a p : Addr} {N : Nat} {H : Hp} {o : HO} (h : Tp a N H) (e : H p = some o) (d : ∀ xs, o ≠ .lst xs) : ¬ fdM a p := by
  obtain ⟨x, m, n, h1, _⟩ := h
  intro z
  rw [show p = a from z, h1] at e
  cases e
  exact d _ rfl
theorem Tp.fresh {a p : Addr} {N : Nat} {H : Hp} (h : Tp a N H) (e : H p = none) : ¬ fdM a p := by
  obtain ⟨x, m, n, h1, _⟩ := h
  intro z
  rw [show p = a from z, h1] at e
  cases e
theorem Tp.line {K : Frag} {a p : Addr} {N : Nat} {H H' : Hp} {k : LK} {n : N3} (h : Tp a N H) (x : Ext (fdM a) H H') (e : LnAt K H p k n) : LnAt K H' p k n := let ⟨dx, e⟩ := e; ⟨dx, x _ _ (h.out e fun _ z => nomatch z) e⟩
theorem Tp.tup {a p : Addr} {N : Nat} {H H' : Hp} {xs : List V} (h : Tp a N H) (x : Ext (fdM a) H H') (e : H p = some (.tup xs)) : H' p = some (.tup xs) := x _ _ (h.out e fun _ z => nomatch z) e
/-- next(tape, many): some number below many -/
def spNext (K : Frag) : Sp := fun vs H Q _ => ∃ (a : Addr) (N : Nat) (m : Int), vs = [.ref a, .int m] ∧ Tp a (N + 1) H ∧ 1 ≤ m ∧ Sz 4000 m ∧
  ∀ (v : Int) (H' : Hp), 0 ≤ v → v < m → Ext (fdM a) H H' → Tp a N H' → Q (.int v) H'
/-- headways of which each one divides the next one, up to a number -/
structure ChL (lim : Int) (cs : List Int) : Prop where
  ne : cs ≠ []
  len : cs.length ≤ 10
  pos : ∀ c ∈ cs, 1 ≤ c ∧ c ≤ lim
  div : cs.Pairwise (fun x y => x ∣ y)
theorem ChL.fit {g : Int} {cs : List Int} (h : ChL g cs) {x y : Int} (hx : x ∈ cs) (hy : y ∈ cs) : x ∣ y ∨ y ∣ x := by
  obtain ⟨i, hi, rfl⟩ := List.mem_iff_getElem.mp hx
  obtain ⟨j, hj, rfl⟩ := List.mem_iff_getElem.mp hy
  have q := List.pairwise_iff_getElem.mp h.div
  by_cases c : i < j
  · exact .inl (q i j hi hj c)
  by_cases d : j < i
  · exact .inr (q j i hj hi d)
  · have e : i = j := by omega
    subst e
    exact .inl (Int.dvd_refl _)
theorem ChL.app {g : Int} {ds : List Int} {l m : Int} (h : ChL g (ds ++ [l])) (hd : ∀ x ∈ ds, x ∣ l) (hl : (ds ++ [l]).length ≤ 9) (h1 : 1 ≤ l * m) (h2 : l * m ≤ g) : ChL g ((ds ++ [l]) ++ [l * m]) ∧ ∀ x ∈ ds ++ [l], x ∣ l * m := by
  have hx : ∀ x ∈ ds ++ [l], x ∣ l * m := by
    intro x hx
    rcases List.mem_append.mp hx with q | q
    · exact Int.dvd_trans (hd x q) (Int.dvd_mul_right l m)
    · rw [List.mem_singleton.mp q]
      exact Int.dvd_mul_right l m
  refine ⟨⟨by simp, by rw [List.length_append]; simp; simp at hl; omega, ?_, ?_⟩, hx⟩
  · intro c hc
    rcases List.mem_append.mp hc with q | q
    · exact h.pos c q
    · rw [List.mem_singleton.mp q]
      exact ⟨h1, h2⟩
  · rw [List.pairwise_append]
    refine ⟨h.div, List.pairwise_singleton _ _, ?_⟩
    intro x hx' y hy
    rw [List.mem_singleton.mp hy]
    exact hx x hx'
/-- a list at p of tuples of the numbers ns -/
def RwAt (H : Hp) (p : Addr) (rs : List Addr) (ns : List N3) : Prop := H p = some (.lst (rs.map V.ref)) ∧ rs.length = ns.length ∧ ∀ (i : Nat) r n, rs[i]? = some r → ns[i]? = some n → T3 H r n
theorem RwAt.same {H H' : Hp} {p : Addr} {rs : List Addr} {ns : List N3} (h : RwAt H p rs ns) (s : Same H H') : RwAt H' p rs ns := ⟨s _ _ h.1, h.2.1, fun i r n a b => (h.2.2 i r n a b).same s⟩
end Fw

/-! Fw, part M: defs with a star parameter, making by a star call, len of an own class, classmethods. -/
namespace Fw
open PySem PySem.Spec PyProof.Rows L2
open He (ga ma eqO eqO_ok)
/-! ### def f(a, *v) -/
def spStar (ps : List Str) (sp : Sp) : Sp := fun vs H Q E => ∃ ws rest, vs = ws ++ rest ∧ ws.length = ps.length ∧ rest.length ≤ sizeLine ∧ ∀ p, H p = none → sp (ws ++ [V.ref p]) (upd H p (.tup rest)) Q E
theorem Fun.okStar {P : Program} {w : World} {K : Frag} {mg : Str → Option Value} {base : Heap} {x qual pv : Str} {st : Stmt} {f : Addr} {fd : FuncData} {N ps : List Str} {k : Nat} {sp : Sp} (F : Fun K x qual st f fd) (S : FnScope N (ps ++ [pv]) (defScope st))
    (hb : ∀ (kV doc pm : Value) (an : Option Addr) (cdv ct : Value) (us rest : List Value), us.length = ps.length → bindArgs (PySem.W.fnOf x qual (defArgs st) (defBody st) (defScope st) .none kV doc pm an cdv ct) ⟨us ++ rest, []⟩ = (newTuple rest >>= fun t => pure (ps.zip us ++ [(pv, t)])))
    (hbody : ∀ (cdv : Value) (A : Around) (outer : List Env) (s : Shared) (H : Hp) (vs : List V) (Q : VK) (E : XK), Room k (A.deeper (envOfC qual (defScope st) s.heap.objs.size f cdv)) → sp vs H Q E →
      ∃ t, PSs (cxOf (L2.CX P w) P w K mg base N qual (defScope st) f cdv A outer s H E) (defBody st) t ∧ t { nx := fun _ H' => Q .non H', rt := Q } (L2.start N vs) H) :
    FnR P w K mg base (L2.CX P w) (k + 1) f (spStar ps sp) := by
  obtain ⟨oc, od, kV, doc, pm, an, cdv, ct, osl, rfl, lk, hcd⟩ := F.ex
  exact StX.fn_star (pv := pv) lk hcd S StX.cxUp (hb kV doc pm an cdv ct) (hbody cdv)
section
variable {X : Cx} {CX : CXT} {k : Nat} {f C : Addr} {sp : Sp} {E : XK} {e fe : Expr} {te tf : TE} {pos p sp_ : Pos}
/-- C(*e), C's value by an expression -/
def tMakeS (K : Frag) (C : Addr) (sp : Sp) (E : XK) (tf te : TE) : TE := fun σ H Q => tf σ H fun y H0 => y = V.ref C ∧ te σ H0 fun z H1 => ∃ a xs, z = V.ref a ∧ (SqT K H1 a xs ∨ SqL K H1 a xs) ∧
  ∀ x dx, H1 x = none → H1 dx = none → dx ≠ x → sp (V.ref x :: xs) (upd (upd H1 dx (.own x)) x (.ins C dx [])) (fun v H2 => v = .non ∧ Q (.ref x) H2) E
theorem pe_makeS (hf : PE X fe tf) (M : Mk X.K C f) (F : FnR X.prog X.w X.K X.mg X.base CX k f sp) (hr : Room (k + 1) X.A) (hx : Passes CX X E) (he : PE X e te)
    (hst : starEach [.Starred e sp_] X.env = [(true, eval e X.env)] := by rfl)
    (ht : eval (.Call fe [.Starred e sp_] [] pos) X.env = (do callWith pos (← eval fe X.env) [] (backTo pos (starEach [.Starred e sp_] X.env)) (backToKw pos (keywordEach [] X.env))) := by rfl) :
    PE X (.Call fe [.Starred e sp_] [] pos) (tMakeS X.K C sp E tf te) := by
  refine ⟨fun pins s σ H Q I h => ?_⟩
  refine Call_ (thn (hf.run pins s σ H _ I h) fun u s1 ⟨y, H1, I1, ry, ey, q⟩ => ?_) ht
  subst ey
  obtain rfl : u = Value.ref C := ry
  refine PySem.W.callWith_S (h₀ := X.base) I.ok.mod.kin M.kp (thn (he.run pins s1 σ H1 _ I1 q) fun v s2 ⟨z, H2, I2, rz, a, xs, ez, hxs, q2⟩ => ?_) hst
  subst ez
  obtain rfl : v = Value.ref a := rz
  exact StX.star_any I2 hxs fun us s3 I3 rv => ⟨I3.kIn, StX.run_makeR M F hr hx I3 rv q2⟩
end
/-! ### len of an own class -/
structure LenOf (K : Frag) (C f : Addr) : Prop where
  at_ : PySem.W.findIn K (.ref C) "__len__" = some (some (.ref f))
  fn : PySem.W.isFn K (.ref f) = true
def cLenOf (x : Str) : Ck := fun K => eqO (PySem.W.findIn K (.ref (ga K x)) "__len__") (some (some (.ref (ma K (ga K x) "__len__")))) && PySem.W.isFn K (.ref (ma K (ga K x) "__len__"))
theorem lenOf_of {K : Frag} {x : Str} (c : cLenOf x K = true) : LenOf K (ga K x) (ma K (ga K x) "__len__") := by
  obtain ⟨c1, c2⟩ := Bool.and_eq_true_iff.mp c
  exact ⟨eqO_ok c1, c2⟩
section
variable {X : Cx} {k0 : Nat} {f C : Addr} {fd : FuncData} {ps : List Str} {sp : Sp} {E : XK}
theorem call_lenO (c : LenOf X.K C f) (F : FnOk X.prog X.w X.K X.mg X.base (L2.CX X.prog X.w) k0 f fd ps sp) (hr : Room (k0 + 1) X.A) (hb : L2.Binds X.K fd ps []) (hx : Passes (L2.CX X.prog X.w) X E) :
    CallR X (.builtin "len") (fun xs H Q => ∃ a dx fs, xs = [.ref a] ∧ H a = some (.ins C dx fs) ∧ sp [.ref a] H (fun v H' => (∃ i : Int, v = .int i ∧ 0 ≤ i ∧ i < 2 ^ 63) ∧ Q v H') E) := by
  intro pins s σ H xs us Q I r h
  obtain ⟨a, dx, fs, rfl, ha, q⟩ := h
  obtain ⟨u, rfl, ru⟩ := vals1 r
  obtain rfl : u = Value.ref a := ru
  obtain ⟨mA, OA, _⟩ := ins_get I.hok ha
  obtain ⟨od, JA, _⟩ := OA.look
  obtain ⟨mm, fr⟩ := I.fr
  refine PySem.W.len_K fr I.ok.mod.kin JA c.at_ c.fn ?_
  have w := run_in1 (us := [.ref a]) (vs := [.ref a]) F hr hb hx I (.cons rfl .nil) q
  refine wpAny_mono w (fun v s' hv => ?_) fun _ _ z => z
  obtain ⟨y, H', I', rv, ⟨i, rfl, h0, h1⟩, q2⟩ := hv
  obtain ⟨t, rfl⟩ := rv
  exact ⟨⟨h0, h1⟩, .int i, H', I'.tok _, ⟨_, rfl⟩, q2⟩
end
/-! ### classmethods -/
/-- the def of the classmethod f of the class at C -/
def cmA (K : Frag) (C : Addr) (f : Str) : Addr := match PySem.W.recIn K (ma K C f) "classmethod" with
  | some (.ref g :: _) => g
  | _ => 0
def cCm (x f : Str) : Ck := fun K => PySem.W.readsIn K (ga K x) (.type "type") && (eqO (PySem.W.specialIn K (.ref (ga K x)) "__getattribute__") (some (some (.builtin "type.__getattribute__"))) &&
  ((match PySem.W.recIn K (ma K (ga K x) f) "classmethod" with
  | some (.ref g :: _) => PySem.W.fnIn K g
  | _ => false) &&
  (match PySem.W.findCls K (.ref (ga K x)) (.type "type") f with
  | some (.get g a o t) => g == .builtin "classmethod.__get__" && (a == .ref (ma K (ga K x) f) && (o == .none && t == .ref (ga K x)))
  | _ => false)))
theorem cm_of {K : Frag} {x f : Str} (c : cCm x f K = true) : ClX.CRead K (ga K x) (.type "type") ∧ ClX.CMet K (ga K x) (.type "type") f (ma K (ga K x) f) (cmA K (ga K x) f) := by
  obtain ⟨c1, c⟩ := Bool.and_eq_true_iff.mp c
  obtain ⟨c2, c⟩ := Bool.and_eq_true_iff.mp c
  obtain ⟨c3, c4⟩ := Bool.and_eq_true_iff.mp c
  refine ⟨⟨c1, eqO_ok c2⟩, ?_⟩
  cases e : PySem.W.recIn K (ma K (ga K x) f) "classmethod" with
  | none => rw [e] at c3; cases c3
  | some l =>
    rw [e] at c3
    match l, c3, e with
    | (.ref g :: r), c3, e =>
      have eg : cmA K (ga K x) f = g := by unfold cmA; rw [e]
      rw [eg]
      cases e2 : PySem.W.findCls K (.ref (ga K x)) (.type "type") f with
      | none => rw [e2] at c4; cases c4
      | some q =>
        rw [e2] at c4
        match q, c4, e2 with
        | .get g' a o t, c4, e2 =>
          obtain ⟨d1, d⟩ := Bool.and_eq_true_iff.mp c4
          obtain ⟨d2, d⟩ := Bool.and_eq_true_iff.mp d
          obtain ⟨d3, d4⟩ := Bool.and_eq_true_iff.mp d
          rw [beq_iff_eq.mp d1, beq_iff_eq.mp d2, beq_iff_eq.mp d3, beq_iff_eq.mp d4] at e2
          exact ⟨e2, ⟨r, e⟩, c3⟩
/-! ### routes -/
/-- the lines at rs -/
def LgAt (K : Frag) (H : Hp) (rs : List Addr) (kns : List (LK × N3)) : Prop := rs.length = kns.length ∧ ∀ (i : Nat) r kn, rs[i]? = some r → kns[i]? = some kn → LnAt K H r kn.1 kn.2
theorem LgAt.same {K : Frag} {H H' : Hp} {rs : List Addr} {kns : List (LK × N3)} (h : LgAt K H rs kns) (s : Same H H') : LgAt K H' rs kns := ⟨h.1, fun i r kn a b => (h.2 i r kn a b).same s⟩
theorem LgAt.cut {K : Frag} {H : Hp} {rs : List Addr} {kns : List (LK × N3)} (h : LgAt K H rs kns) (a b : Nat) : LgAt K H ((rs.drop a).take b) ((kns.drop a).take b) := by
  refine ⟨by rw [List.length_take, List.length_take, List.length_drop, List.length_drop, h.1], fun i r kn hr hk => ?_⟩
  have i1 : i < b := by
    have := (List.getElem?_eq_some_iff.mp hr).1
    rw [List.length_take] at this
    omega
  rw [List.getElem?_take_of_lt i1, List.getElem?_drop] at hr hk
  exact h.2 _ _ _ hr hk
/-- any two headways fit -/
def FitL (ns : List N3) : Prop := ∀ x ∈ ns, ∀ y ∈ ns, x.e ∣ y.e ∨ y.e ∣ x.e
structure OkL (kns : List (LK × N3)) : Prop where
  ok : ∀ kn ∈ kns, kn.2.ok
  fit : FitL (kns.map Prod.snd)
  lo : 1 ≤ kns.length
  hi : kns.length ≤ 60
theorem OkL.cut {kns : List (LK × N3)} (h : OkL kns) (a b : Nat) (h1 : 1 ≤ b) (h2 : a < kns.length) : OkL ((kns.drop a).take b) := by
  have sub : ∀ x ∈ (kns.drop a).take b, x ∈ kns := fun x hx => List.mem_of_mem_drop (List.mem_of_mem_take hx)
  refine ⟨fun kn hk => h.ok kn (sub _ hk), fun x hx y hy => ?_, ?_, ?_⟩
  · obtain ⟨u, hu, rfl⟩ := List.mem_map.mp hx
    obtain ⟨v, hv, rfl⟩ := List.mem_map.mp hy
    exact h.fit _ (List.mem_map.mpr ⟨u, sub _ hu, rfl⟩) _ (List.mem_map.mpr ⟨v, sub _ hv, rfl⟩)
  · rw [List.length_take, List.length_drop]
    omega
  · rw [List.length_take, List.length_drop]
    have := h.hi
    omega
def RtAt (K : Frag) (H : Hp) (p : Addr) (kns : List (LK × N3)) : Prop := ∃ dx l rs, H p = some (.ins (ga K "Route") dx (putF "held_legs" (.ref l) [])) ∧ H l = some (.lst (rs.map V.ref)) ∧ LgAt K H rs kns
theorem RtAt.same {K : Frag} {H H' : Hp} {p : Addr} {kns : List (LK × N3)} (h : RtAt K H p kns) (s : Same H H') : RtAt K H' p kns := let ⟨dx, l, rs, a, b, c⟩ := h; ⟨dx, l, rs, s _ _ a, s _ _ b, c.same s⟩
theorem get_refs {rs : List Addr} {i : Nat} {x : V} (h : (rs.map V.ref)[i]? = some x) : ∃ r, rs[i]? = some r ∧ x = .ref r := by
  rw [List.getElem?_map] at h
  cases e : rs[i]? with
  | none => rw [e] at h; cases h
  | some z => rw [e] at h; exact ⟨z, rfl, (Option.some.inj h).symm⟩
theorem cutV_refs (rs : List Addr) (lo hi : Option Int) : cutV (rs.map V.ref) lo hi = ((rs.drop (HT.sIx rs.length 0 lo)).take (HT.sIx rs.length rs.length hi - HT.sIx rs.length 0 lo)).map V.ref := by
  unfold cutV
  rw [List.length_map, List.map_take, List.map_drop]
end Fw

/-! Fw, part N: set(list of ints). -/
namespace Fw
open PySem PySem.Spec PyProof.Rows L2
section
variable {P : Program} {w : World} {A : Around} {E : Value → Shared → Prop} {s : Shared}
/-- a new set without members -/
abbrev empS (w : World) : Obj := { cls := .type "set", dict := none, data := .set #[] 0 (.fresh 0 0 (!w.params.followText "set-order")) }
/-- the set's first filling, from a list -/
theorem set_init_list {l : Addr} {items : Array Value} (ns : List Int) (hh : A.handled = none) (hl : s.heap.IsList l items) (hit : IntsAre items.toList ns) (hb : ns.length + 1 < scanBound) {R : Result → Shared → Prop}
    (h : ∀ h' tk c, SetR w h' s.heap.objs.size (fun j => decide (j ∈ ns)) c → c ≤ ns.length → (∀ b o, s.heap.get? b = some o → h'.get? b = some o) → R (.ok (.ret .none)) { s with heap := h', toks := tk }) :
    ∀ it : Addr, it = (s.heap.push (empS w)).objs.size → codeAny (model P w) A (.builtin "set.update.loop" ⟨[.ref s.heap.objs.size, .ref it], []⟩) R
      { s with heap := (s.heap.push (empS w)).push { cls := .type "list_iterator", data := .fields #[.ref l, .int 0 0] } } := by
  rintro it rfl
  have hisz : items.size = ns.length := by
    have q := IntsAre.length hit
    rwa [Array.length_toList] at q
  obtain ⟨ol, hol, hcl, nl, hdl⟩ := hl
  have hlS : l < s.heap.objs.size := Heap.lt_size hol
  have z1 : (s.heap.push (empS w)).objs.size = s.heap.objs.size + 1 := Heap.size_push ..
  have hneI : l ≠ (s.heap.push (empS w)).objs.size := Nat.ne_of_lt (by rw [z1]; exact Nat.lt_succ_of_lt hlS)
  have hSf : s.heap.objs.size ∉ [(s.heap.push (empS w)).objs.size, l] := by
    simp only [List.mem_cons, List.not_mem_nil, or_false, not_or]
    exact ⟨Nat.ne_of_lt (by rw [z1]; exact Nat.lt_succ_self _), Nat.ne_of_gt hlS⟩
  have hl1 : (s.heap.push (empS w)).IsList l items := ⟨ol, Heap.get?_push_of_some _ hol, hcl, nl, hdl⟩
  have hS : (s.heap.push (empS w)).get? s.heap.objs.size = some (empS w) := Heap.get?_push_size _ rfl
  have hh1 : A.in1.handled = none := by simp [hh]
  refine set_update_ints ((Walks.list hh1 _ l hneI items).toS) s.heap.objs.size hSf ns hisz hb (fun i v hv => ?_) (items.size - 0) 0 _ (by omega) (Nat.zero_le _) ⟨⟨_, Heap.get?_push_size _ rfl, rfl, rfl⟩, hl1.push _⟩
    ⟨0, Nat.le_refl 0, setR_new_at (Heap.get?_push_of_some _ hS)⟩ fun s' c' hm hc' hS' => ?_
  · have hi : i < ns.length := by rw [← hisz]; exact (Array.getElem?_eq_some_iff.mp hv).1
    obtain ⟨t, e⟩ := PyProof.Rows.IntsAre.int_at hit i v (by rw [Array.getElem?_toList]; exact hv)
    refine ⟨ns[i], t, List.getElem?_eq_getElem hi, ?_⟩
    rw [e, List.getD_eq_getElem?_getD, List.getElem?_eq_getElem hi] <;> rfl
  · obtain ⟨h', g2, d', tk', os'⟩ := s'
    obtain rfl : g2 = s.gens := hm.gens
    obtain rfl : d' = s.drawn := hm.drawn
    obtain rfl : os' = s.os := hm.os
    refine h h' tk' c' hS' (by omega) fun b o e => ?_
    have hb0 : b < s.heap.objs.size := Heap.lt_size e
    exact hm.heap b o (by simp only [List.mem_cons, List.not_mem_nil, or_false, not_or]; exact ⟨Nat.ne_of_lt hb0, Nat.ne_of_lt (by rw [z1]; exact Nat.lt_succ_of_lt hb0)⟩) (Heap.get?_push_of_some _ (Heap.get?_push_of_some _ e))
set_option maxHeartbeats 3200000 in
theorem call_set_listI {l : Addr} {items : Array Value} (ns : List Int) {Q : Value → Shared → Prop} (hh : A.handled = none) (hl : s.heap.IsList l items) (hit : IntsAre items.toList ns) (hb : ns.length + 1 < scanBound)
    (h : ∀ (h' : Heap) (tk c : Nat), SetR w h' s.heap.objs.size (fun j => decide (j ∈ ns)) c → c ≤ ns.length → (∀ b o, s.heap.get? b = some o → h'.get? b = some o) → Q (.ref s.heap.objs.size) { s with heap := h', toks := tk }) :
    wpAny (model P w) A (call (.type "set") [.ref l]) Q E s := by
  obtain ⟨c, tl, hmro⟩ := F.called_set.mro
  have hmade := F.called_set.made
  have hsub := F.called_set.sub
  refine wpAny_call (codeAny_of_tree ?_)
  show wpAny _ _ (callAny (.type "set") _) _ _ _
  refine wpAny_pure ⟨Code.quiet_builtin _ (by decide +kernel), codeAny_builtin F.entry_type_call ?_⟩
  rw [Around.under_plain (weight_type_call_type "set" [.ref l] []) rfl]
  have h1 := F.called_set.notType
  have h2 := F.called_set.canCreate
  have hct := F.typeCall_set_1 (.ref l)
  repeat (any_goals (first | assumption | wp_step))
  refine codeAny_mono (code_set_led1 (.ref l) (E := E) (Q₁ := fun obj s₁ => obj = .ref s.heap.objs.size ∧ s₁ = { s with heap := s.heap.push (empS w) }) ⟨rfl, rfl⟩) fun r s₁ hr => ?_
  match r, hr with
  | .error _, hr => exact hr
  | .ok (.ret obj), hr =>
    obtain ⟨rfl, rfl⟩ := hr
    have hS : (s.heap.push (empS w)).get? s.heap.objs.size = some (empS w) := Heap.get?_push_size _ rfl
    have hT : Shared.TypeIs { s with heap := s.heap.push (empS w) } (.ref s.heap.objs.size) "set" := ⟨_, hS, rfl⟩
    have hli := F.called_set.init.lookup
    have hbi := F.called_set.init.bind (.ref s.heap.objs.size)
    repeat (any_goals (first | assumption | wp_step))
    refine codeAny_mono (codeAny_call_builtin (R := wants (fun r s₂ => r = .none ∧ ∃ h' tk c, s₂ = { s with heap := h', toks := tk } ∧ SetR w h' s.heap.objs.size (fun j => decide (j ∈ ns)) c ∧ c ≤ ns.length ∧ (∀ b o, s.heap.get? b = some o → h'.get? b = some o)) E)
      F.called_set.init.plain F.entry_set_init (check_set_init_1 hT ?_)) fun r₂ s₂ hr₂ => ?_
    · have hl0 := hl
      obtain ⟨ol, hol, hcl, nl, hdl⟩ := hl0
      obtain ⟨ocls, odict, odata, oslots⟩ := ol
      simp only at hcl hdl
      subst hcl hdl
      have hol' : (s.heap.push (empS w)).get? l = some { cls := .type "list", dict := odict, data := .seq items nl, slots := oslots } := Heap.get?_push_of_some _ hol
      have hsls := F.sub_list_set
      have hslf := F.sub_list_frozenset
      have hne : (Value.type "list" == Value.type "dict") = false := by decide
      have hl1 : (s.heap.push (empS w)).IsList l items := ⟨_, hol', rfl, nl, rfl⟩
      have hh3 : A.in1.in1.in1.handled = none := by simp [hh]
      unfold Builtin.«set.__init__» noKeywords Builtin.Frozenset.updateFrom
      generalize hPI : pyIter = PI
      wp_walk
      subst hPI
      refine wpAny_pyIter_list hl1 ?_
      refine wpAny_bind (wpAny_runValue ?_)
      have key := fun (R : Result → Shared → Prop) hR => set_init_list (P := P) (w := w) (A := A.in1.in1) (R := R) ns (by simp [hh]) hl hit hb hR _ rfl
      refine key _ fun h' tk c r1 r2 r3 => ?_
      show wpAny _ _ _ _ _ _
      refine wpAny_pure ?_
      show wpAny _ _ (ret Value.none) _ _ _
      exact wpAny_pure ⟨rfl, h', tk, c, rfl, r1, r2, r3⟩
    · match r₂, hr₂ with
      | .error _, hr₂ => exact hr₂
      | .ok (.ret r), hr₂ =>
        obtain ⟨rfl, h', tk, c, rfl, q1, q2, q3⟩ := hr₂
        repeat (any_goals (first | assumption | wp_step))
        exact h _ _ _ q1 q2 q3
end
section
variable {X : Cx}
/-- what the number of a set's members is -/
theorem setR_members {w : World} {h : Heap} {a : Addr} {S : Int → Bool} {n : Nat} (R : SetR w h a S n) : ∃ es : List Int, es.Nodup ∧ es.length = n ∧ ∀ k, k ∈ es ↔ S k = true := by
  obtain ⟨o, es, ep, t, ho, hex, hd, g, nd, hm, hb, hf, hn, hr, hl⟩ := R
  exact ⟨es.toList.map keyOf, nd, by rw [List.length_map, Array.length_toList]; exact hn, fun k => (hm k).symm⟩
def rSetL (K : PySem.W.Frag) (w : World) : List V → Hp → VK → Prop := fun xs H Q => ∃ (p : Addr) (ns : List Int), xs = [.ref p] ∧ SqL K H p (ns.map V.int) ∧ ns.length ≤ 1000 ∧ ∀ a c, H a = none → c ≤ ns.length → (∃ es : List Int, es.Nodup ∧ es.length = c ∧ ∀ k, k ∈ es ↔ k ∈ ns) → Q (.ref a) (upd H a (SetO w a (fun j => decide (j ∈ ns)) c))
theorem cr_setL (hc : X.calm = true) : CallR X (.type "set") (rSetL X.K X.w) := by
  intro pins s σ H xs us Q I r h
  obtain ⟨p, ns, rfl, hl, hlen, q⟩ := h
  rw [Vals.ref1 r]
  obtain ⟨its, rv, pl, hz⟩ := I.list hl
  have hi : IntsAre its.toArray.toList ns := ints_of_vals rv
  have hn : H s.heap.objs.size = none := I.hok.fresh (Nat.le_refl _)
  refine call_set_listI ns (I.ok.hd hc) pl.isList hi (by unfold scanBound; omega) fun h' tk c R1 hc1 k => ?_
  obtain ⟨es, e1, e2, e3⟩ := setR_members R1
  exact ⟨.ref s.heap.objs.size, upd H s.heap.objs.size (SetO X.w s.heap.objs.size (fun j => decide (j ∈ ns)) c), I.laid (t' := tk) k (Nat.le_refl _) (setO_new R1), rfl, q _ c hn hc1 ⟨es, e1, e2, fun k => (e3 k).trans decide_eq_true_iff⟩⟩
end
/-- how many different ints lie in a stretch -/
theorem nodup_range : ∀ (m : Nat) (lo : Int) (es : List Int), es.Nodup → (∀ z ∈ es, lo ≤ z ∧ z < lo + m) → es.length ≤ m
  | 0, lo, es, _, h => by
    cases es with
    | nil => exact Nat.le_refl _
    | cons x r =>
      have := h x List.mem_cons_self
      omega
  | m + 1, lo, es, nd, h => by
    by_cases c : lo + m ∈ es
    · have q := nodup_range m lo (es.erase (lo + m)) (nd.erase _) fun z hz => by
        obtain ⟨a, b⟩ := (nd.mem_erase_iff).mp hz
        have := h z b
        omega
      rw [List.length_erase_of_mem c] at q
      omega
    · have q := nodup_range m lo es nd fun z hz => by
        have := h z hz
        have ne : z ≠ lo + m := fun e => c (e ▸ hz)
        omega
      omega
end Fw

/-! Fw, part R: data in the heap by their types; what stands still. -/
namespace Fw
open PySem PySem.Spec PyProof.Rows L2
open He (ga ma)
/-! ### what stands still: the heap without what M holds -/
section
open Classical in
noncomputable def Fr (M : Addr → Prop) (H : Hp) : Hp := fun p => if M p then none else H p
variable {M : Addr → Prop} {H H' : Hp} {p D : Addr} {o : HO}
theorem Fr.get (n : ¬ M p) (e : H p = some o) : Fr M H p = some o := by
  unfold Fr
  rw [if_neg n]
  exact e
theorem Fr.no (e : Fr M H p = some o) : ¬ M p := fun m => by
  unfold Fr at e
  rw [if_pos m] at e
  cases e
theorem Fr.sub : Same (Fr M H) H := fun b o e => by
  have n := Fr.no e
  unfold Fr at e
  rw [if_neg n] at e
  exact e
theorem Fr.ext (x : Ext M H H') : Same (Fr M H) (Fr M H') := fun b o e => Fr.get (Fr.no e) (x b o (Fr.no e) (Fr.sub b o e))
theorem Fr.same (s : Same H H') : Same (Fr M H) (Fr M H') := Fr.ext (Ext.same s)
/-- what may change: a list, an object of two fields -/
def MutO : HO → Prop
  | .lst _ => True
  | .ins _ _ fs => fs.length ≠ 3 ∨ (fs.lookup ("near" : Str)).isSome = true ∨ (fs.lookup ("pairs" : Str)).isSome = true
  | .tbl _ => True
  | .dK _ => True
  | .frz _ _ => True
  | _ => False
/-- what M holds are such -/
def Alloc (M : Addr → Prop) (H : Hp) : Prop := ∀ p, M p → ∃ o, H p = some o ∧ MutO o
theorem Alloc.same (a : Alloc M H) (s : Same H H') : Alloc M H' := fun p m => let ⟨o, e, q⟩ := a p m; ⟨o, s _ _ e, q⟩
theorem Alloc.new (a : Alloc M H) (hp : H p = none) : ¬ M p := fun m => by
  obtain ⟨o, e, _⟩ := a p m
  rw [hp] at e
  cases e
theorem Alloc.off (a : Alloc M H) (hp : H p = some o) (d : ¬ MutO o) : ¬ M p := fun m => by
  obtain ⟨u, e, q⟩ := a p m
  rw [hp] at e
  cases e
  exact d q
def Ad (D : Addr) (M : Addr → Prop) : Addr → Prop := fun b => b = D ∨ M b
theorem Alloc.put {xs : List V} (a : Alloc M H) : Alloc (Ad D M) (upd H D (.lst xs)) := fun p m => by
  by_cases e : p = D
  · rw [e, upd_same]
    exact ⟨_, rfl, trivial⟩
  · rw [upd_ne e]
    exact a p (m.resolve_left e)
theorem Alloc.wr {xs : List V} (a : Alloc M H) : Alloc M (upd H D (.lst xs)) := fun p m => by
  by_cases e : p = D
  · rw [e, upd_same]
    exact ⟨_, rfl, trivial⟩
  · rw [upd_ne e]
    exact a p m
theorem Fr.put (hD : H D = none) : Same (Fr M H) (Fr (Ad D M) (upd H D o)) := fun b u e => by
  have n := Fr.no e
  have e2 := Fr.sub _ _ e
  have ne : b ≠ D := ne_of_none e2 hD
  exact Fr.get (fun z => z.elim ne n) (by rw [upd_ne ne]; exact e2)
theorem Fr.free : Same (Fr (Ad D M) H) (Fr M H) := fun b u e => Fr.get (fun m => Fr.no e (.inr m)) (Fr.sub _ _ e)
theorem Fr.wr (h : M D) : Same (Fr M H) (Fr M (upd H D o)) := fun b u e => Fr.get (Fr.no e) (by
  have ne : b ≠ D := fun z => Fr.no e (by rw [z]; exact h)
  rw [upd_ne ne]
  exact Fr.sub _ _ e)
theorem Fr.new (a : Alloc M H) (hp : H p = none) : Fr M (upd H p o) p = some o := Fr.get (a.new hp) upd_same
theorem Fr.mono {M' : Addr → Prop} (h : ∀ b, M' b → M b) : Same (Fr M H) (Fr M' H) := fun b u e => Fr.get (fun m => Fr.no e (h b m)) (Fr.sub _ _ e)
theorem Tp.alloc {a : Addr} {N : Nat} {H : Hp} (h : Tp a N H) : Alloc (fdM a) H := fun p m => by
  obtain ⟨d, m2, n, e, _⟩ := h
  rw [show p = a from m, e]
  exact ⟨_, rfl, trivial⟩
theorem Ext.sub {M M' : Addr → Prop} {H H' : Hp} (h : ∀ b, M b → M' b) (x : Ext M H H') : Ext M' H H' := fun b o n e => x b o (fun m => n (h b m)) e
theorem Alloc.draw {a : Addr} {N : Nat} (al : Alloc M H) (x : Ext (fdM a) H H') (t : Tp a N H') : Alloc M H' := fun p m => by
  by_cases z : fdM a p
  · exact t.alloc p z
  · obtain ⟨xs, e, hz9⟩ := al p m
    exact ⟨xs, x p _ z e, hz9⟩
theorem lf_near {C dx : Addr} {n : N3} : ¬ MutO (.ins C dx (lf n)) := fun z => by
  rcases z with z | z | z
  · exact z rfl
  · unfold lf at z
    rw [lookup_putF, if_neg (by decide +kernel), lookup_putF, if_neg (by decide +kernel), lookup_putF, if_neg (by decide +kernel)] at z
    exact absurd z (by decide)
  · unfold lf at z
    rw [lookup_putF, if_neg (by decide +kernel), lookup_putF, if_neg (by decide +kernel), lookup_putF, if_neg (by decide +kernel)] at z
    exact absurd z (by decide)
theorem LnAt.fr {K : Frag} {H : Hp} {a : Addr} {k : LK} {n : N3} (h : LnAt K H a k n) (al : Alloc M H) : LnAt K (Fr M H) a k n := let ⟨dx, e⟩ := h; ⟨dx, Fr.get (al.off e lf_near) e⟩
theorem T3.fr {H : Hp} {a : Addr} {n : N3} (h : T3 H a n) (al : Alloc M H) : T3 (Fr M H) a n := Fr.get (al.off h fun z => z) h
theorem LgAt.fr {K : Frag} {H : Hp} {rs : List Addr} {kns : List (LK × N3)} (h : LgAt K H rs kns) (al : Alloc M H) : LgAt K (Fr M H) rs kns := ⟨h.1, fun i r kn a b => (h.2 i r kn a b).fr al⟩
theorem RwAt.fr {H : Hp} {p : Addr} {rs : List Addr} {ns : List N3} (h : RwAt H p rs ns) (al : Alloc M H) (np : ¬ M p) : RwAt (Fr M H) p rs ns := ⟨Fr.get np h.1, h.2.1, fun i r n a b => (h.2.2 i r n a b).fr al⟩
theorem Same.fin {H H' : Hp} (s : Same H H') {p : Addr} (h : H' p = none) : H p = none := by
  cases e : H p with
  | none => rfl
  | some o =>
    rw [s _ _ e] at h
    cases h
end
theorem law_back {H H1 H2 H4 : Hp} {a : Addr} (s1 : Same H H1) (s2 : Same H1 H2) (na : H1 a = none) (x : Ext (fdM a) H2 H4) : Same H H4 := fun b o e => by
  have nb : ¬ fdM a b := fun z => by
    rw [show b = a from z] at e
    rw [s1 _ _ e] at na
    cases na
  exact x b o nb (s2 _ _ (s1 _ _ e))
/-! ### a promise that is not laid open -/
@[irreducible] def sq (sp : Sp) : Sp := sp
theorem sq_eq (sp : Sp) : sq sp = sp := by
  unfold sq
  rfl
theorem sqI {sp : Sp} {vs : List V} {H : Hp} {Q : VK} {E : XK} (h : sp vs H Q E) : sq sp vs H Q E := by
  rw [sq_eq]
  exact h
section
variable {P : Program} {w : World} {K : Frag} {mg : Str → Option Value} {base : Heap} {CX : CXT} {k : Nat} {f : Addr} {fd : FuncData} {ps : List Str} {sp : Sp}
theorem okq (h : FnOk P w K mg base CX k f fd ps sp) : FnOk P w K mg base CX k f fd ps (sq sp) := by
  rw [sq_eq]
  exact h
theorem okqG (h : FnG P w K mg base CX k f fd ps sp) : FnG P w K mg base CX k f fd ps (sq sp) := by
  rw [sq_eq]
  exact h
theorem okqR (h : FnR P w K mg base CX k f sp) : FnR P w K mg base CX k f (sq sp) := by
  rw [sq_eq]
  exact h
end
/-! ### data by their types -/
class Rep (α : Type) where
  rp : Frag → Hp → V → α → Prop
  up : ∀ {K : Frag} {F F' : Hp} {v : V} {x : α}, Same F F' → rp K F v x → rp K F' v x
open Rep (rp)
instance : Rep Int := ⟨fun _ _ v i => v = .int i, fun _ h => h⟩
instance : Rep Bool := ⟨fun _ _ v i => v = .bl i, fun _ h => h⟩
instance : Rep Str := ⟨fun _ _ v i => v = .str i, fun _ h => h⟩
instance : Rep Unit := ⟨fun _ _ v _ => v = .non, fun _ h => h⟩
instance {α : Type} [Rep α] : Rep (Option α) := ⟨fun K F v x => match x with
  | none => v = .non
  | some y => rp K F v y, fun {_ _ _ _ x} s h => match x, h with
  | none, h => h
  | some _, h => Rep.up s h⟩
instance {α : Type} [Rep α] : Rep (List α) := ⟨fun K F v xs => ∃ (p : Addr) (vs : List V), v = .ref p ∧ F p = some (.lst vs) ∧ Paired (fun v x => rp K F v x) vs xs,
  fun s h => let ⟨p, vs, e, h1, h2⟩ := h; ⟨p, vs, e, s _ _ h1, L2.Paired.mapP h2 fun _ _ q => Rep.up s q⟩⟩
instance {α β : Type} [Rep α] [Rep β] : Rep (α × β) := ⟨fun K F v x => ∃ (p : Addr) (v1 v2 : V), v = .ref p ∧ F p = some (.tup [v1, v2]) ∧ rp K F v1 x.1 ∧ rp K F v2 x.2,
  fun s h => let ⟨p, v1, v2, e, h1, h2, h3⟩ := h; ⟨p, v1, v2, e, s _ _ h1, Rep.up s h2, Rep.up s h3⟩⟩
/-- a tuple of three -/
structure P3 (α β γ : Type) where
  a : α
  b : β
  c : γ
  deriving DecidableEq
instance {α β γ : Type} [Rep α] [Rep β] [Rep γ] : Rep (P3 α β γ) := ⟨fun K F v x => ∃ (p : Addr) (v1 v2 v3 : V), v = .ref p ∧ F p = some (.tup [v1, v2, v3]) ∧ rp K F v1 x.a ∧ rp K F v2 x.b ∧ rp K F v3 x.c,
  fun s h => let ⟨p, v1, v2, v3, e, h1, h2, h3, h4⟩ := h; ⟨p, v1, v2, v3, e, s _ _ h1, Rep.up s h2, Rep.up s h3, Rep.up s h4⟩⟩
/-- a tuple of a line's numbers -/
instance : Rep N3 := ⟨fun _ F v n => ∃ p : Addr, v = .ref p ∧ T3 F p n, fun s h => let ⟨p, e, h⟩ := h; ⟨p, e, h.same s⟩⟩
/-- a line of the package -/
structure Lin where
  k : LK
  n : N3
instance : Rep Lin := ⟨fun K F v l => ∃ a : Addr, v = .ref a ∧ LnAt K F a l.k l.n, fun s h => let ⟨p, e, h⟩ := h; ⟨p, e, h.same s⟩⟩
/-- a route of the package -/
structure Rou where
  l : List (LK × N3)
instance : Rep Rou := ⟨fun K F v r => ∃ a : Addr, v = .ref a ∧ RtAt K F a r.l, fun s h => let ⟨p, e, h⟩ := h; ⟨p, e, h.same s⟩⟩
/-- a tuple of any length -/
structure Tup (α : Type) where
  l : List α
  deriving DecidableEq
instance {α : Type} [Rep α] : Rep (Tup α) := ⟨fun K F v xs => ∃ (p : Addr) (vs : List V), v = .ref p ∧ F p = some (.tup vs) ∧ Paired (fun v x => rp K F v x) vs xs.l,
  fun s h => let ⟨p, vs, e, h1, h2⟩ := h; ⟨p, vs, e, s _ _ h1, L2.Paired.mapP h2 fun _ _ q => Rep.up s q⟩⟩
section
variable {α β : Type} {R : V → α → Prop}
theorem pd_get {α β : Type} {F : α → β → Prop} : ∀ {l₁ : List α} {l₂ : List β}, Paired F l₁ l₂ → ∀ {i : Nat} {x : β}, l₂[i]? = some x → ∃ u, l₁[i]? = some u ∧ F u x
  | _, _, .nil, _, _, h => by simp at h
  | _, _, .cons h t, 0, _, e => ⟨_, rfl, by cases e; exact h⟩
  | _, _, .cons _ t, i + 1, _, e => pd_get t (i := i) (by simpa using e)
theorem pd_getL {α β : Type} {F : α → β → Prop} : ∀ {l₁ : List α} {l₂ : List β}, Paired F l₁ l₂ → ∀ {i : Nat} {u : α}, l₁[i]? = some u → ∃ x, l₂[i]? = some x ∧ F u x
  | _, _, .nil, _, _, h => by simp at h
  | _, _, .cons h t, 0, _, e => ⟨_, rfl, by cases e; exact h⟩
  | _, _, .cons _ t, i + 1, _, e => pd_getL t (i := i) (by simpa using e)
theorem pd_app {α β : Type} {F : α → β → Prop} : ∀ {l₁ m₁ : List α} {l₂ m₂ : List β}, Paired F l₁ l₂ → Paired F m₁ m₂ → Paired F (l₁ ++ m₁) (l₂ ++ m₂)
  | _, _, _, _, .nil, g => g
  | _, _, _, _, .cons h t, g => .cons h (pd_app t g)
theorem pd_rev {α β : Type} {F : α → β → Prop} : ∀ {l₁ : List α} {l₂ : List β}, Paired F l₁ l₂ → Paired F l₁.reverse l₂.reverse
  | _, _, .nil => .nil
  | _, _, .cons h t => by
    rw [List.reverse_cons, List.reverse_cons]
    exact (pd_rev t).snoc h
theorem pd_drop {α β : Type} {F : α → β → Prop} : ∀ {l₁ : List α} {l₂ : List β}, Paired F l₁ l₂ → ∀ n : Nat, Paired F (l₁.drop n) (l₂.drop n)
  | _, _, .nil, n => by
    rw [List.drop_nil, List.drop_nil]
    exact .nil
  | _, _, .cons h t, 0 => .cons h t
  | _, _, .cons _ t, n + 1 => pd_drop t n
theorem pd_take {α β : Type} {F : α → β → Prop} : ∀ {l₁ : List α} {l₂ : List β}, Paired F l₁ l₂ → ∀ n : Nat, Paired F (l₁.take n) (l₂.take n)
  | _, _, .nil, n => by
    rw [List.take_nil, List.take_nil]
    exact .nil
  | _, _, .cons h t, 0 => .nil
  | _, _, .cons h t, n + 1 => .cons h (pd_take t n)
theorem pd_ints {K : Frag} {F : Hp} : ∀ {vs : List V} {xs : List Int}, Paired (fun v x => rp K F v x) vs xs → vs = xs.map V.int
  | _, _, .nil => rfl
  | _, _, .cons h t => by
    rw [List.map_cons, ← pd_ints t, show _ = V.int _ from h]
theorem pd_ofInts {K : Frag} {F : Hp} : ∀ xs : List Int, Paired (fun v x => rp K F v x) (xs.map V.int) xs
  | [] => .nil
  | _ :: r => .cons rfl (pd_ofInts r)
theorem pd_strs {K : Frag} {F : Hp} : ∀ {vs : List V} {xs : List Str}, Paired (fun v x => rp K F v x) vs xs → vs = xs.map V.str
  | _, _, .nil => rfl
  | _, _, .cons h t => by
    rw [List.map_cons, ← pd_strs t, show _ = V.str _ from h]
theorem pd_ofStrs {K : Frag} {F : Hp} : ∀ xs : List Str, Paired (fun v x => rp K F v x) (xs.map V.str) xs
  | [] => .nil
  | _ :: r => .cons rfl (pd_ofStrs r)
theorem pd_bls {K : Frag} {F : Hp} : ∀ {vs : List V} {xs : List Bool}, Paired (fun v x => rp K F v x) vs xs → vs = xs.map V.bl
  | _, _, .nil => rfl
  | _, _, .cons h t => by
    rw [List.map_cons, ← pd_bls t, show _ = V.bl _ from h]
end
theorem rp_ints {K : Frag} {F : Hp} {v : V} {xs : List Int} (h : rp K F v xs) : ∃ p, v = .ref p ∧ F p = some (.lst (xs.map V.int)) := by
  obtain ⟨p, vs, e, h1, h2⟩ := h
  exact ⟨p, e, by rw [h1, pd_ints h2]⟩
theorem rp_ofInts {K : Frag} {F : Hp} {p : Addr} {xs : List Int} (h : F p = some (.lst (xs.map V.int))) : rp K F (.ref p) xs := ⟨p, _, rfl, h, pd_ofInts xs⟩
theorem rp_strs {K : Frag} {F : Hp} {v : V} {xs : List Str} (h : rp K F v xs) : ∃ p, v = .ref p ∧ F p = some (.lst (xs.map V.str)) := by
  obtain ⟨p, vs, e, h1, h2⟩ := h
  exact ⟨p, e, by rw [h1, pd_strs h2]⟩
theorem rp_bls {K : Frag} {F : Hp} {v : V} {xs : List Bool} (h : rp K F v xs) : ∃ p, v = .ref p ∧ F p = some (.lst (xs.map V.bl)) := by
  obtain ⟨p, vs, e, h1, h2⟩ := h
  exact ⟨p, e, by rw [h1, pd_bls h2]⟩
/-- the rows of a route, both ways -/
theorem rp_rows {K : Frag} {H : Hp} {v : V} {ns : List N3} (h : rp K H v ns) : ∃ p rs, v = .ref p ∧ RwAt H p rs ns := by
  obtain ⟨p, vs, e, h1, h2⟩ := h
  have q : ∃ rs : List Addr, vs = rs.map V.ref ∧ rs.length = ns.length ∧ ∀ (i : Nat) r n, rs[i]? = some r → ns[i]? = some n → T3 H r n := by
    clear h1
    induction h2 with
    | nil => exact ⟨[], rfl, rfl, fun i r n hr _ => by simp at hr⟩
    | cons h t ih =>
      obtain ⟨rs, e1, e2, e3⟩ := ih
      obtain ⟨r, er, hr⟩ := h
      refine ⟨r :: rs, by rw [List.map_cons, e1, er], by rw [List.length_cons, List.length_cons, e2], fun i r' n' a b => ?_⟩
      cases i with
      | zero => cases a; cases b; exact hr
      | succ i => exact e3 i r' n' (by simpa using a) (by simpa using b)
  obtain ⟨rs, e1, e2, e3⟩ := q
  exact ⟨p, rs, e, by rw [h1, e1], e2, e3⟩
theorem rows_rp {K : Frag} {H : Hp} {p : Addr} {rs : List Addr} {ns : List N3} (h : RwAt H p rs ns) : rp K H (.ref p) ns := by
  obtain ⟨h1, h2, h3⟩ := h
  refine ⟨p, _, rfl, h1, ?_⟩
  clear h1
  induction rs generalizing ns with
  | nil => cases ns with
    | nil => exact .nil
    | cons _ _ => cases h2
  | cons r rs ih => cases ns with
    | nil => cases h2
    | cons n ns => exact .cons ⟨r, rfl, h3 0 r n rfl rfl⟩ (ih (by simpa using h2) fun i r' n' a b => h3 (i + 1) r' n' (by simpa using a) (by simpa using b))
/-- the lines of a route, both ways -/
theorem rp_lines {K : Frag} {H : Hp} {v : V} {ls : List Lin} (h : rp K H v ls) : ∃ p rs, v = .ref p ∧ H p = some (.lst (rs.map V.ref)) ∧ LgAt K H rs (ls.map fun l => (l.k, l.n)) := by
  obtain ⟨p, vs, e, h1, h2⟩ := h
  have q : ∃ rs : List Addr, vs = rs.map V.ref ∧ LgAt K H rs (ls.map fun l => (l.k, l.n)) := by
    clear h1
    induction h2 with
    | nil => exact ⟨[], rfl, rfl, fun i r n hr _ => by simp at hr⟩
    | cons h t ih =>
      obtain ⟨rs, e1, e2, e3⟩ := ih
      obtain ⟨r, er, hr⟩ := h
      refine ⟨r :: rs, by rw [List.map_cons, e1, er], by rw [List.map_cons, List.length_cons, List.length_cons, e2], fun i r' n' a b => ?_⟩
      cases i with
      | zero => cases a; cases b; exact hr
      | succ i => exact e3 i r' n' (by simpa using a) (by simpa using b)
  obtain ⟨rs, e1, e2⟩ := q
  exact ⟨p, rs, e, by rw [h1, e1], e2⟩
theorem lines_rp {K : Frag} {H : Hp} {p : Addr} {rs : List Addr} {kns : List (LK × N3)} (h1 : H p = some (.lst (rs.map V.ref))) (h : LgAt K H rs kns) : rp K H (.ref p) (kns.map fun kn => (⟨kn.1, kn.2⟩ : Lin)) := by
  obtain ⟨h2, h3⟩ := h
  refine ⟨p, _, rfl, h1, ?_⟩
  clear h1
  induction rs generalizing kns with
  | nil => cases kns with
    | nil => exact .nil
    | cons _ _ => cases h2
  | cons r rs ih => cases kns with
    | nil => cases h2
    | cons n ns => exact .cons ⟨r, rfl, h3 0 r n rfl rfl⟩ (ih (by simpa using h2) fun i r' n' a b => h3 (i + 1) r' n' (by simpa using a) (by simpa using b))
end Fw

/-! Fw, part S: readings over data by their types. -/
namespace Fw
open PySem PySem.Spec PyProof.Rows L2
open He (ga ma)
open Rep (rp)
/-! ### relations that are not laid open -/
abbrev RC : Type := List V → Hp → VK → Prop
abbrev RV : Type := V → Hp → VK → Prop
abbrev RS : Type := V → Option Int → Option Int → Hp → VK → Prop
abbrev RG : Type := Int → Int → Hp → VK → Prop
@[irreducible] def sqc (r : RC) : RC := r
@[irreducible] def sqv (r : RV) : RV := r
@[irreducible] def sqs (r : RS) : RS := r
@[irreducible] def sqg (r : RG) : RG := r
@[irreducible] def sq2 (r : R2) : R2 := r
theorem sqc_eq (r : RC) : sqc r = r := by
  unfold sqc
  rfl
theorem sqv_eq (r : RV) : sqv r = r := by
  unfold sqv
  rfl
theorem sqs_eq (r : RS) : sqs r = r := by
  unfold sqs
  rfl
theorem sqg_eq (r : RG) : sqg r = r := by
  unfold sqg
  rfl
theorem sq2_eq (r : R2) : sq2 r = r := by
  unfold sq2
  rfl
section
variable {X : Cx}
theorem crq {f : Value} {r : RC} (h : CallR X f r) : CallR X f (sqc r) := by
  rw [sqc_eq]
  exact h
theorem opq {f : Value → Value → Sem Value} {r : R2} (h : OpR X f r) : OpR X f (sq2 r) := by
  rw [sq2_eq]
  exact h
theorem ixq {r : R2} (h : IxR X r) : IxR X (sq2 r) := by
  rw [sq2_eq]
  exact h
theorem slq {r : RS} (h : SlR X r) : SlR X (sqs r) := by
  rw [sqs_eq]
  exact h
def rLstD : RC := fun xs H Q => xs.length ≤ sizeLine ∧ ∀ p, H p = none → Q (.ref p) (upd H p (.lst xs))
def rTupD : RC := fun xs H Q => xs.length ≤ sizeLine ∧ ∀ p, H p = none → Q (.ref p) (upd H p (.tup xs))
def rGet (K : Frag) (gg : N3 → Int) : RV := fun x H Q => ∃ a k n, x = .ref a ∧ LnAt K H a k n ∧ Q (.int (gg n)) H
def rRg : RG := fun a b H Q => RgOk a b ∧ ∀ q, H q = none → Q (.ref q) (upd H q (.lst (rgV a b)))
theorem pe_lstQ {e : Expr} {t : TA} (h : PE X e (tLst t)) : PE X e (tCB (sqc rLstD) t) := by
  rw [sqc_eq]
  exact h
theorem pe_tupQ {e : Expr} {t : TA} (h : PE X e (tTup t)) : PE X e (tCB (sqc rTupD) t) := by
  rw [sqc_eq]
  exact h
theorem pe_getQ {e : Expr} {ta : TE} {gg : N3 → Int} {K : Frag} (h : PE X e (tLG K ta gg)) : PE X e (tUn (sqv (rGet K gg)) ta) := by
  rw [sqv_eq]
  exact h
def tRgQ (te : L2.St → Hp → (Int → Int → Hp → Prop) → Prop) : TE := fun σ H Q => te σ H fun a b H1 => sqg rRg a b H1 Q
theorem pe_rgQ {e : Expr} {te : L2.St → Hp → (Int → Int → Hp → Prop) → Prop} (h : PE X e (tLstRg te)) : PE X e (tRgQ te) := by
  unfold tRgQ
  rw [sqg_eq]
  exact h
end
/-! ### subscripts, lengths, targets -/
section
variable {K : Frag} {F H H1 : Hp} {M : Addr → Prop} {v w : V} {Q : VK} {α β γ : Type} [Rep α] [Rep β] [Rep γ]
theorem rd_ixL {xs : List α} {i : Int} {x : α} (h : rp K F v xs) (hF : Same F H) (hx : atI xs i = some x) (k : ∀ u, rp K F u x → Q u H) : sq2 (rIxL K) v (.int i) H Q := by
  rw [sq2_eq]
  obtain ⟨p, vs, rfl, h1, h2⟩ := h
  obtain ⟨j, hj⟩ : ∃ j, ixN xs.length i = some j := by
    unfold atI at hx
    cases e : ixN xs.length i with
    | none => rw [e] at hx; cases hx
    | some j => exact ⟨j, rfl⟩
  have hx2 : xs[j]? = some x := by
    unfold atI at hx
    rw [hj] at hx
    exact hx
  obtain ⟨u, hu, ru⟩ := pd_get h2 hx2
  refine ⟨p, vs, i, u, rfl, rfl, SqL.of (hF _ _ h1), ?_, k u ru⟩
  unfold atI
  rw [h2.length, hj]
  exact hu
theorem rd_ixI {xs : List Int} {i x : Int} (h : rp K F v xs) (hF : Same F H) (hx : atI xs i = some x) (k : Q (.int x) H) : sq2 (rIxL K) v (.int i) H Q := rd_ixL h hF hx fun u e => by
  obtain rfl : u = V.int x := e
  exact k
theorem rd_n0 {n : N3} (h : rp K F v n) (hF : Same F H) (k : Q (.int n.e) H) : sq2 (rIxT K) v (.int 0) H Q := by
  rw [sq2_eq]
  obtain ⟨p, rfl, h1⟩ := h
  exact ⟨p, _, 0, _, rfl, rfl, SqT.of (hF _ _ h1), at0, k⟩
theorem rd_n1 {n : N3} (h : rp K F v n) (hF : Same F H) (k : Q (.int n.a) H) : sq2 (rIxT K) v (.int 1) H Q := by
  rw [sq2_eq]
  obtain ⟨p, rfl, h1⟩ := h
  exact ⟨p, _, 1, _, rfl, rfl, SqT.of (hF _ _ h1), atI_nat (j := 1) rfl, k⟩
theorem rd_n2 {n : N3} (h : rp K F v n) (hF : Same F H) (k : Q (.int n.r) H) : sq2 (rIxT K) v (.int 2) H Q := by
  rw [sq2_eq]
  obtain ⟨p, rfl, h1⟩ := h
  exact ⟨p, _, 2, _, rfl, rfl, SqT.of (hF _ _ h1), atI_nat (j := 2) rfl, k⟩
theorem rd_p0 {x : α × β} (h : rp K F v x) (hF : Same F H) (k : ∀ u, rp K F u x.1 → Q u H) : sq2 (rIxT K) v (.int 0) H Q := by
  rw [sq2_eq]
  obtain ⟨p, u1, u2, rfl, h1, r1, r2⟩ := h
  exact ⟨p, _, 0, _, rfl, rfl, SqT.of (hF _ _ h1), at0, k _ r1⟩
theorem rd_p1 {x : α × β} (h : rp K F v x) (hF : Same F H) (k : ∀ u, rp K F u x.2 → Q u H) : sq2 (rIxT K) v (.int 1) H Q := by
  rw [sq2_eq]
  obtain ⟨p, u1, u2, rfl, h1, r1, r2⟩ := h
  exact ⟨p, _, 1, _, rfl, rfl, SqT.of (hF _ _ h1), atI_nat (j := 1) rfl, k _ r2⟩
theorem rd_t0 {x : P3 α β γ} (h : rp K F v x) (hF : Same F H) (k : ∀ u, rp K F u x.a → Q u H) : sq2 (rIxT K) v (.int 0) H Q := by
  rw [sq2_eq]
  obtain ⟨p, u1, u2, u3, rfl, h1, r1, r2, r3⟩ := h
  exact ⟨p, _, 0, _, rfl, rfl, SqT.of (hF _ _ h1), at0, k _ r1⟩
theorem rd_t1 {x : P3 α β γ} (h : rp K F v x) (hF : Same F H) (k : ∀ u, rp K F u x.b → Q u H) : sq2 (rIxT K) v (.int 1) H Q := by
  rw [sq2_eq]
  obtain ⟨p, u1, u2, u3, rfl, h1, r1, r2, r3⟩ := h
  exact ⟨p, _, 1, _, rfl, rfl, SqT.of (hF _ _ h1), atI_nat (j := 1) rfl, k _ r2⟩
theorem rd_t2 {x : P3 α β γ} (h : rp K F v x) (hF : Same F H) (k : ∀ u, rp K F u x.c → Q u H) : sq2 (rIxT K) v (.int 2) H Q := by
  rw [sq2_eq]
  obtain ⟨p, u1, u2, u3, rfl, h1, r1, r2, r3⟩ := h
  exact ⟨p, _, 2, _, rfl, rfl, SqT.of (hF _ _ h1), atI_nat (j := 2) rfl, k _ r3⟩
theorem rd_len {xs : List α} (h : rp K F v xs) (hF : Same F H) (k : Q (.int (xs.length : Nat)) H) : sqc (fun xs H Q => ∃ p ys, xs = [V.ref p] ∧ (SqL K H p ys ∨ SqT K H p ys) ∧ Q (.int (ys.length : Nat)) H) [v] H Q := by
  rw [sqc_eq]
  obtain ⟨p, vs, rfl, h1, h2⟩ := h
  exact ⟨p, vs, rfl, .inl (SqL.of (hF _ _ h1)), by rw [h2.length]; exact k⟩
/-- a, b, c = a tuple of a line's numbers -/
theorem rd_un3 {n : N3} {i j l : Nat} {σ : L2.St} {R : L2.St → Hp → Prop} (h : rp K F v n) (hF : Same F H) (k : R (((σ.set i (some (.int n.e))).set j (some (.int n.a))).set l (some (.int n.r))) H) :
    gTup K 3 (gCons (gName i) (gCons (gName j) (gCons (gName l) gNil))) v σ H R := by
  obtain ⟨p, rfl, h1⟩ := h
  exact ⟨p, _, rfl, SqT.of (hF _ _ h1), rfl, _, _, rfl, _, _, rfl, _, _, rfl, rfl, k⟩
theorem rd_unP {x : α × β} {i j : Nat} {σ : L2.St} {R : L2.St → Hp → Prop} (h : rp K F v x) (hF : Same F H) (k : ∀ u1 u2, rp K F u1 x.1 → rp K F u2 x.2 → R ((σ.set i (some u1)).set j (some u2)) H) :
    gTup K 2 (gCons (gName i) (gCons (gName j) gNil)) v σ H R := by
  obtain ⟨p, u1, u2, rfl, h1, r1, r2⟩ := h
  exact ⟨p, _, rfl, SqT.of (hF _ _ h1), rfl, _, _, rfl, _, _, rfl, rfl, k _ _ r1 r2⟩
theorem rd_unT {x : P3 α β γ} {i j l : Nat} {σ : L2.St} {R : L2.St → Hp → Prop} (h : rp K F v x) (hF : Same F H) (k : ∀ u1 u2 u3, rp K F u1 x.a → rp K F u2 x.b → rp K F u3 x.c → R (((σ.set i (some u1)).set j (some u2)).set l (some u3)) H) :
    gTup K 3 (gCons (gName i) (gCons (gName j) (gCons (gName l) gNil))) v σ H R := by
  obtain ⟨p, u1, u2, u3, rfl, h1, r1, r2, r3⟩ := h
  exact ⟨p, _, rfl, SqT.of (hF _ _ h1), rfl, _, _, rfl, _, _, rfl, _, _, rfl, rfl, k _ _ _ r1 r2 r3⟩
/-! ### builtins over lists of ints -/
theorem rd_max {xs : List Int} (h : rp K F v xs) (hF : Same F H) (hn : xs ≠ []) (k : ∀ m, m ∈ xs → (∀ y, y ∈ xs → y ≤ m) → Q (.int m) H) : sqc (rMax K) [v] H Q := by
  rw [sqc_eq]
  obtain ⟨p, rfl, h1⟩ := rp_ints h
  exact ⟨p, xs, rfl, SqL.of (hF _ _ h1), List.length_pos_iff.mpr hn, k⟩
theorem rd_min {xs : List Int} (h : rp K F v xs) (hF : Same F H) (hn : xs ≠ []) (k : ∀ m, m ∈ xs → (∀ y, y ∈ xs → m ≤ y) → Q (.int m) H) : sqc (rMin K) [v] H Q := by
  rw [sqc_eq]
  obtain ⟨p, rfl, h1⟩ := rp_ints h
  exact ⟨p, xs, rfl, SqL.of (hF _ _ h1), List.length_pos_iff.mpr hn, k⟩
theorem rd_sum {xs : List Int} (h : rp K F v xs) (hF : Same F H) (k : Q (.int xs.sum) H) : sqc (rSum K) [v] H Q := by
  rw [sqc_eq]
  obtain ⟨p, rfl, h1⟩ := rp_ints h
  exact ⟨p, xs, rfl, SqL.of (hF _ _ h1), k⟩
theorem rd_all {xs : List Bool} (h : rp K F v xs) (hF : Same F H) (k : Q (.bl (xs.all id)) H) : sqc (rAll K) [v] H Q := by
  rw [sqc_eq]
  obtain ⟨p, rfl, h1⟩ := rp_bls h
  exact ⟨p, xs, rfl, SqL.of (hF _ _ h1), k⟩
/-! ### new objects -/
theorem rd_lst {vs : List V} {xs : List α} (al : Alloc M H) (hl : vs.length ≤ 1000) (h : Paired (fun v x => rp K (Fr M H) v x) vs xs) (k : ∀ v H', Same H H' → rp K (Fr M H') v xs → Q v H') : sqc rLstD vs H Q := by
  rw [sqc_eq]
  exact ⟨Nat.le_trans hl (by decide), fun p hp => k _ _ (Same.new hp) ⟨p, vs, rfl, Fr.new al hp, L2.Paired.mapP h fun _ _ q => Rep.up (Fr.same (Same.new hp)) q⟩⟩
theorem rd_tup3 {a b c : Int} (al : Alloc M H) (k : ∀ v H', Same H H' → rp K (Fr M H') v (⟨a, b, c⟩ : N3) → Q v H') : sqc rTupD [.int a, .int b, .int c] H Q := by
  rw [sqc_eq]
  exact ⟨by show 3 ≤ sizeLine; decide, fun p hp => k _ _ (Same.new hp) ⟨p, rfl, Fr.new al hp⟩⟩
theorem rd_pair {u w : V} {x : α} {y : β} (al : Alloc M H) (hu : rp K (Fr M H) u x) (hw : rp K (Fr M H) w y) (k : ∀ v H', Same H H' → rp K (Fr M H') v (x, y) → Q v H') : sqc rTupD [u, w] H Q := by
  rw [sqc_eq]
  exact ⟨by show 2 ≤ sizeLine; decide, fun p hp => k _ _ (Same.new hp) ⟨p, u, w, rfl, Fr.new al hp, Rep.up (Fr.same (Same.new hp)) hu, Rep.up (Fr.same (Same.new hp)) hw⟩⟩
theorem rd_tupT {u w t : V} {x : α} {y : β} {z : γ} (al : Alloc M H) (hu : rp K (Fr M H) u x) (hw : rp K (Fr M H) w y) (ht : rp K (Fr M H) t z) (k : ∀ v H', Same H H' → rp K (Fr M H') v (⟨x, y, z⟩ : P3 α β γ) → Q v H') : sqc rTupD [u, w, t] H Q := by
  rw [sqc_eq]
  exact ⟨by show 3 ≤ sizeLine; decide, fun p hp => k _ _ (Same.new hp) ⟨p, u, w, t, rfl, Fr.new al hp, Rep.up (Fr.same (Same.new hp)) hu, Rep.up (Fr.same (Same.new hp)) hw, Rep.up (Fr.same (Same.new hp)) ht⟩⟩
theorem rd_cat {xs ys : List α} (al : Alloc M H) (h : rp K (Fr M H) v xs) (g : rp K (Fr M H) w ys) (hl : xs.length + ys.length ≤ 100000) (k : ∀ v H', Same H H' → rp K (Fr M H') v (xs ++ ys) → Q v H') : sq2 rCat v w H Q := by
  rw [sq2_eq]
  obtain ⟨p, vs, rfl, h1, h2⟩ := h
  obtain ⟨q, ws, rfl, g1, g2⟩ := g
  refine ⟨p, q, vs, ws, rfl, rfl, Fr.sub _ _ h1, Fr.sub _ _ g1, ?_, fun r hr => k _ _ (Same.new hr) ⟨r, _, rfl, Fr.new al hr, L2.Paired.mapP (pd_app h2 g2) fun _ _ q => Rep.up (Fr.same (Same.new hr)) q⟩⟩
  rw [h2.length, g2.length]
  exact Nat.le_trans hl (by decide)
/-- the items of a slice -/
def cutX {α : Type} (xs : List α) (lo hi : Option Int) : List α := (xs.drop (HT.sIx xs.length 0 lo)).take (HT.sIx xs.length xs.length hi - HT.sIx xs.length 0 lo)
theorem rd_sl {xs : List α} {lo hi : Option Int} (al : Alloc M H) (h : rp K (Fr M H) v xs) (k : ∀ v H', Same H H' → rp K (Fr M H') v (cutX xs lo hi) → Q v H') : sqs (rSlL K) v lo hi H Q := by
  rw [sqs_eq]
  obtain ⟨p, vs, rfl, h1, h2⟩ := h
  refine ⟨p, vs, rfl, SqL.of (Fr.sub _ _ h1), fun r hr => k _ _ (Same.new hr) ⟨r, _, rfl, Fr.new al hr, ?_⟩⟩
  unfold cutV cutX
  rw [h2.length]
  exact L2.Paired.mapP (pd_take (pd_drop h2 _) _) fun _ _ q => Rep.up (Fr.same (Same.new hr)) q
theorem cutX_to {xs : List α} {n : Nat} (h : n ≤ xs.length) : cutX xs none (some (n : Int)) = xs.take n := by
  unfold cutX
  rw [HT.sIx_nat, HT.sIx_none, Nat.min_eq_left h, Nat.sub_zero, List.drop_zero]
theorem cutX_from {xs : List α} {n : Nat} (h : n ≤ xs.length) : cutX xs (some (n : Int)) none = xs.drop n := by
  unfold cutX
  rw [HT.sIx_nat, HT.sIx_none, Nat.min_eq_left h]
  exact List.take_of_length_le (by rw [List.length_drop]; omega)
theorem cutX_mid {xs : List α} {a b : Nat} (h1 : a ≤ xs.length) (h2 : b ≤ xs.length) : cutX xs (some (a : Int)) (some (b : Int)) = (xs.drop a).take (b - a) := by
  unfold cutX
  rw [HT.sIx_nat, HT.sIx_nat, Nat.min_eq_left h1, Nat.min_eq_left h2]
theorem rd_list {xs : List α} (al : Alloc M H) (h : rp K (Fr M H) v xs) (k : ∀ v H', Same H H' → rp K (Fr M H') v xs → Q v H') : sqc (fun xs H Q => ∃ p ys, xs = [V.ref p] ∧ (SqT K H p ys ∨ SqL K H p ys) ∧ ∀ l, H l = none → Q (.ref l) (upd H l (.lst ys))) [v] H Q := by
  rw [sqc_eq]
  obtain ⟨p, vs, rfl, h1, h2⟩ := h
  exact ⟨p, vs, rfl, .inr (SqL.of (Fr.sub _ _ h1)), fun r hr => k _ _ (Same.new hr) ⟨r, _, rfl, Fr.new al hr, L2.Paired.mapP h2 fun _ _ q => Rep.up (Fr.same (Same.new hr)) q⟩⟩
theorem rd_sorted {xs : List Int} (al : Alloc M H) (h : rp K (Fr M H) v xs) (hl : xs.length < 64) (k : ∀ v H' (ys : List Int), Same H H' → ys.Perm xs → ys.Pairwise (fun a b => a ≤ b) → rp K (Fr M H') v ys → Q v H') : sqc (rSorted K) [v] H Q := by
  rw [sqc_eq]
  obtain ⟨p, rfl, h1⟩ := rp_ints h
  exact ⟨p, xs, rfl, SqL.of (Fr.sub _ _ h1), hl, fun ys r hp hs hr => k _ _ ys (Same.new hr) hp hs (rp_ofInts (Fr.new al hr))⟩
end
def rgI (lo : Int) (n : Nat) : List Int := (List.range n).map fun (i : Nat) => lo + (i : Int)
theorem rgI_len (lo : Int) (n : Nat) : (rgI lo n).length = n := by
  unfold rgI
  rw [List.length_map, List.length_range]
theorem rgI_get {lo : Int} {n i : Nat} (h : i < n) : (rgI lo n)[i]? = some (lo + i) := by
  unfold rgI
  rw [List.getElem?_map, List.getElem?_range h]
  rfl
theorem rgI_mem {lo : Int} {n : Nat} {z : Int} : z ∈ rgI lo n ↔ lo ≤ z ∧ z < lo + n := by
  unfold rgI
  rw [List.mem_map]
  constructor
  · rintro ⟨a, ha, rfl⟩
    have := List.mem_range.mp ha
    omega
  · rintro ⟨h1, h2⟩
    exact ⟨(z - lo).toNat, List.mem_range.mpr (by omega), by omega⟩
/-! ### powers of ten -/
theorem p10_pos : ∀ k : Nat, 1 ≤ (10 : Int) ^ k
  | 0 => by decide
  | k + 1 => by
    have := p10_pos k
    rw [Int.pow_succ]
    omega
theorem p10_sz {k : Nat} (h : k ≤ 900) : Sz 4000 ((10 : Int) ^ k) := by
  have e : ((10 : Int) ^ k).natAbs = 10 ^ k := by
    have q : (10 : Int) ^ k = ((10 ^ k : Nat) : Int) := by simp
    rw [q, Int.natAbs_natCast]
  unfold Sz
  rw [e]
  calc 10 ^ k ≤ 16 ^ k := Nat.pow_le_pow_left (by decide) k
    _ = 2 ^ (4 * k) := by rw [Nat.pow_mul]
    _ < 2 ^ 4000 := Nat.pow_lt_pow_right (by decide) (by omega)
theorem Sz.up {z : Int} {k : Nat} (h0 : 0 ≤ z) (h : z ≤ (10 : Int) ^ k) (hk : k ≤ 900) : Sz 4000 z := Sz.le h0 h (p10_sz hk)
/-! ### items one by one -/
theorem tk_map {α β : Type} {f : α → β} {xs : List α} {i : Nat} {x : α} (h : xs[i]? = some x) : (xs.take (i + 1)).map f = (xs.take i).map f ++ [f x] := by
  rw [List.take_add_one, h, List.map_append]
  rfl
theorem tk_all {α β : Type} {f : α → β} {xs : List α} : (xs.take xs.length).map f = xs.map f := by rw [List.take_length]
theorem not_dec_true {p : Prop} [Decidable p] (h : (!decide p) = true) : ¬ p := fun q => by rw [decide_eq_true q] at h; exact Bool.noConfusion h
theorem not_dec_false {p : Prop} [Decidable p] (h : (!decide p) = false) : p := by
  by_cases q : p
  · exact q
  · rw [decide_eq_false q] at h
    exact Bool.noConfusion h
/-! ### tests -/
theorem optV_inj {x y : Option Int} (h : optV x = optV y) : x = y := by
  cases x <;> cases y <;> first | rfl | (cases h; rfl) | cases h

theorem ifNT {c A B : Prop} [Decidable c] (hc : ¬ c) (h : A) : if (!decide c) = true then A else B := by
  rw [if_pos (by rw [decide_eq_false hc]; rfl)]
  exact h
theorem ifND {c A B : Prop} [Decidable c] (h : ¬ c → A) (g : c → B) : if (!decide c) = true then A else B := by
  by_cases z : c
  · exact iteNS z (g z)
  · exact ifNT z (h z)
theorem qNT {p : Prop} [Decidable p] {Q : VK} {H : Hp} (h : ¬ p) (q : Q (.bl true) H) : Q (.bl (!decide p)) H := by
  rw [decide_eq_false h]
  exact q
/-! ### lines and routes -/
section
variable {K : Frag} {F H : Hp} {M : Addr → Prop} {v w : V} {Q : VK}
theorem rd_get {l : Lin} {gg : N3 → Int} (h : rp K F v l) (hF : Same F H) (k : Q (.int (gg l.n)) H) : sqv (rGet K gg) v H Q := by
  rw [sqv_eq]
  obtain ⟨a, rfl, L⟩ := h
  exact ⟨a, _, _, rfl, L.same hF, k⟩
theorem rp_line {l : Lin} (h : rp K F v l) (hF : Same F H) : ∃ a, v = .ref a ∧ LnAt K H a l.k l.n := by
  obtain ⟨a, rfl, L⟩ := h
  exact ⟨a, rfl, L.same hF⟩
theorem rp_rou {r : Rou} (h : rp K F v r) (hF : Same F H) : ∃ a, v = .ref a ∧ RtAt K H a r.l := by
  obtain ⟨a, rfl, L⟩ := h
  exact ⟨a, rfl, L.same hF⟩
theorem rp_rw {ns : List N3} (h : rp K F v ns) (hF : Same F H) : ∃ p rs, v = .ref p ∧ RwAt H p rs ns := by
  obtain ⟨p, rs, e, h⟩ := rp_rows h
  exact ⟨p, rs, e, h.same hF⟩
end
/-- a, b, c = a value, a value, a value by a tuple -/
theorem rd_asg3 {K : Frag} {v1 v2 v3 : V} {i j l : Nat} {σ : L2.St} {H : Hp} {R : L2.St → Hp → Prop} (k : ∀ H', Same H H' → R (((σ.set i (some v1)).set j (some v2)).set l (some v3)) H') :
    sqc rTupD [v1, v2, v3] H fun x H1 => gTup K 3 (gCons (gName i) (gCons (gName j) (gCons (gName l) gNil))) x σ H1 R := by
  rw [sqc_eq]
  exact ⟨by show 3 ≤ sizeLine; decide, fun p hp => ⟨p, _, rfl, SqT.of upd_same, rfl, _, _, rfl, _, _, rfl, _, _, rfl, rfl, k _ (Same.new hp)⟩⟩
theorem rd_asg2 {K : Frag} {v1 v2 : V} {i j : Nat} {σ : L2.St} {H : Hp} {R : L2.St → Hp → Prop} (k : ∀ H', Same H H' → R ((σ.set i (some v1)).set j (some v2)) H') :
    sqc rTupD [v1, v2] H fun x H1 => gTup K 2 (gCons (gName i) (gCons (gName j) gNil)) x σ H1 R := by
  rw [sqc_eq]
  exact ⟨by show 2 ≤ sizeLine; decide, fun p hp => ⟨p, _, rfl, SqT.of upd_same, rfl, _, _, rfl, _, _, rfl, rfl, k _ (Same.new hp)⟩⟩
section
variable {K : Frag} {F H : Hp} {M : Addr → Prop} {v w : V} {Q : VK} {α : Type} [Rep α]
theorem rp_ref {xs : List α} (h : rp K F v xs) : ∃ p, v = .ref p := let ⟨p, _, e, _⟩ := h; ⟨p, e⟩
theorem rp_refN {n : N3} (h : rp K F v n) : ∃ p, v = .ref p := let ⟨p, e, _⟩ := h; ⟨p, e⟩
/-- sorted(set(a list of ints)) -/
theorem rd_sset {W : World} {xs : List Int} (al : Alloc M H) (h : rp K (Fr M H) v xs) (hl : xs.length ≤ 1000) (h64 : ∀ es : List Int, es.Nodup → es.length ≤ xs.length → (∀ k, k ∈ es ↔ k ∈ xs) → es.length < 64) (k : ∀ v H' (ys : List Int), Same H H' → (∀ z, z ∈ ys ↔ z ∈ xs) ∧ ys.Pairwise (· < ·) ∧ ys.length ≤ xs.length → rp K (Fr M H') v ys → Q v H') :
    sqc (rSetL K W) [v] H fun x H1 => sqc (rSortedSet W) [x] H1 Q := by
  rw [sqc_eq, sqc_eq]
  obtain ⟨p, rfl, h1⟩ := rp_ints h
  refine ⟨p, xs, rfl, SqL.of (Fr.sub _ _ h1), hl, fun a c ha hc hes => ⟨a, _, c, rfl, upd_same, by obtain ⟨es, e1, e2, e3⟩ := hes; rw [← e2]; exact h64 es e1 (by rw [e2]; exact hc) e3, fun ns q pw mem hn hq => ?_⟩⟩
  have s := (Same.new (o := SetO W a (fun j => decide (j ∈ xs)) c) ha).trans (Same.new (o := .lst (ns.map V.int)) hq)
  refine k _ _ ns s ⟨fun z => (mem z).trans decide_eq_true_iff, pw, by rw [hn]; exact hc⟩ (rp_ofInts ?_)
  exact Fr.get (al.new (Same.fin (Same.new ha) hq)) upd_same
theorem rgV_eq (a b : Int) : rgV a b = (rgI a (b - a).toNat).map V.int := by
  unfold rgV rgI
  rw [List.map_map]
  rfl
/-- list(range(a, b)) -/
theorem rd_rg {lo hi : Int} (al : Alloc M H) (ok : RgOk lo hi) (k : ∀ v H', Same H H' → rp K (Fr M H') v (rgI lo (hi - lo).toNat) → Q v H') : sqg rRg lo hi H Q := by
  rw [sqg_eq]
  exact ⟨ok, fun q hq => k _ _ (Same.new hq) (rp_ofInts (by rw [← rgV_eq]; exact Fr.new al hq))⟩
theorem pd_flat {K : Frag} {F : Hp} {vs : List V} {xs : List α} (h : Paired (fun v x => rp K F v x) vs xs) : ∀ n : Nat, Paired (fun v x => rp K F v x) (List.replicate n vs).flatten (List.replicate n xs).flatten
  | 0 => .nil
  | n + 1 => by
    rw [List.replicate_succ, List.replicate_succ, List.flatten_cons, List.flatten_cons]
    exact pd_app h (pd_flat h n)
theorem rd_rep {xs : List α} {i : Int} (al : Alloc M H) (h : rp K (Fr M H) v xs) (h0 : 0 ≤ i) (h1 : i ≤ 1000) (hl : xs.length ≤ 1000) (k : ∀ v H', Same H H' → rp K (Fr M H') v (List.replicate i.toNat xs).flatten → Q v H') : sq2 rRep v (.int i) H Q := by
  rw [sq2_eq]
  obtain ⟨p, vs, rfl, e, h2⟩ := h
  refine ⟨p, i, vs, rfl, rfl, Fr.sub _ _ e, by omega, by omega, ?_, fun q hq => k _ _ (Same.new hq) ⟨q, _, rfl, Fr.new al hq, L2.Paired.mapP (pd_flat h2 _) fun _ _ z => Rep.up (Fr.same (Same.new hq)) z⟩⟩
  rw [h2.length]
  have : xs.length * i.toNat ≤ 1000 * 1000 := Nat.mul_le_mul hl (by omega)
  exact Nat.le_trans this (by decide)
end
/-! ### further rules -/
abbrev RM : Type := V → List V → Hp → VK → Prop
@[irreducible] def sqm (r : RM) : RM := r
theorem sqm_eq (r : RM) : sqm r = r := by
  unfold sqm
  rfl
theorem mtq {X : Cx} {id : String} {r : RM} (h : MtR X id r) : MtR X id (sqm r) := by
  rw [sqm_eq]
  exact h
def rIf (ta tb : TE) (σ : L2.St) : Bool → Hp → VK → Prop := fun c H Q => if c = true then ta σ H Q else tb σ H Q
@[irreducible] def sqi (r : Bool → Hp → VK → Prop) : Bool → Hp → VK → Prop := r
theorem sqi_eq (r : Bool → Hp → VK → Prop) : sqi r = r := by
  unfold sqi
  rfl
/-- a if t else b, both ways told at once -/
def tIfQ (t : TT) (ta tb : TE) : TE := fun σ H Q => t σ H fun c H1 => sqi (rIf ta tb σ) c H1 Q
theorem pe_ifQ {X : Cx} {e : Expr} {t : TT} {ta tb : TE} (h : PE X e (tIf t ta tb)) : PE X e (tIfQ t ta tb) := by
  unfold tIfQ
  simp only [sqi_eq]
  exact h
theorem rd_ifx {c : Bool} {ta tb : TE} {σ : L2.St} {H : Hp} {Q : VK} (R : V → Hp → Prop) (h1 : c = true → ∀ Q' : VK, (∀ v H', R v H' → Q' v H') → ta σ H Q') (h2 : c = false → ∀ Q' : VK, (∀ v H', R v H' → Q' v H') → tb σ H Q') (k : ∀ v H', R v H' → Q v H') : sqi (rIf ta tb σ) c H Q := by
  rw [sqi_eq]
  cases c with
  | true => exact h1 rfl Q k
  | false => exact h2 rfl Q k
theorem rd_ifT {c : Bool} {ta tb : TE} {σ : L2.St} {H : Hp} {Q : VK} (h : c = true) (k : ta σ H Q) : sqi (rIf ta tb σ) c H Q := by
  rw [sqi_eq, h]
  exact k
theorem rd_ifF {c : Bool} {ta tb : TE} {σ : L2.St} {H : Hp} {Q : VK} (h : c = false) (k : tb σ H Q) : sqi (rIf ta tb σ) c H Q := by
  rw [sqi_eq, h]
  exact k
/-- C(a, ..) by its __init__ -/
def rMake (C : Addr) (sp : Sp) (E : XK) : RC := fun vs H1 Q => ∀ x dx, H1 x = none → H1 dx = none → dx ≠ x → sp (.ref x :: vs ++ []) (upd (upd H1 dx (.own x)) x (.ins C dx [])) (fun v H2 => v = .non ∧ Q (.ref x) H2) E
theorem pe_makeQ {X : Cx} {e : Expr} {C : Addr} {sp : Sp} {E : XK} {t : TA} (h : PE X e (tMake C sp [] E t)) : PE X e (tCB (sqc (rMake C sp E)) t) := by
  rw [sqc_eq]
  exact h
def rMakeR (C : Addr) (sp : Sp) (E : XK) : RC := fun vs H1 Q => ∀ x dx, H1 x = none → H1 dx = none → dx ≠ x → sp (.ref x :: vs) (upd (upd H1 dx (.own x)) x (.ins C dx [])) (fun v H2 => v = .non ∧ Q (.ref x) H2) E
theorem pe_makeRQ {X : Cx} {e : Expr} {C : Addr} {sp : Sp} {E : XK} {t : TA} (h : PE X e (StX.tMakeR C sp E t)) : PE X e (tCB (sqc (rMakeR C sp E)) t) := by
  rw [sqc_eq]
  exact h
theorem rd_lenS {K : Frag} {H : Hp} {Q : VK} {p : Addr} {zs : List V} (h : SqL K H p zs) (k : Q (.int (zs.length : Nat)) H) : sqc (fun xs H Q => ∃ p ys, xs = [V.ref p] ∧ (SqL K H p ys ∨ SqT K H p ys) ∧ Q (.int (ys.length : Nat)) H) [V.ref p] H Q := by
  rw [sqc_eq]
  exact ⟨p, zs, rfl, .inl h, k⟩
theorem inV_ints (x : Int) : ∀ xs : List Int, inV (.int x) (xs.map V.int) = decide (x ∈ xs)
  | [] => rfl
  | y :: r => by
    have q := inV_ints x r
    unfold inV at q ⊢
    rw [List.map_cons, List.any_cons, q]
    by_cases e : y = x
    · subst e
      simp [eqV]
    · have e2 : ¬ x = y := fun z => e z.symm
      simp [eqV, e, e2]
theorem flat_ints : ∀ xs : List Int, (xs.map V.int).all flatV = true
  | [] => rfl
  | _ :: r => by
    rw [List.map_cons, List.all_cons, flat_ints r]
    rfl
theorem rd_in {K : Frag} {F H : Hp} {v : V} {Q : VK} {x : Int} {xs : List Int} (h : rp K F v xs) (hF : Same F H) (k : Q (.bl (decide (x ∈ xs))) H) : sq2 (rIn K false) (.int x) v H Q := by
  rw [sq2_eq]
  obtain ⟨p, rfl, h1⟩ := rp_ints h
  exact ⟨p, _, rfl, .inl (SqL.of (hF _ _ h1)), rfl, flat_ints xs, by rw [show (if false = true then !inV (.int x) (xs.map V.int) else inV (.int x) (xs.map V.int)) = inV (.int x) (xs.map V.int) from rfl, inV_ints]; exact k⟩
/-! ### lists that grow -/
/-- at D, which M holds, a list of xs -/
structure Mu {α : Type} [Rep α] (K : Frag) (M : Addr → Prop) (H : Hp) (D : Addr) (xs : List α) : Prop where
  ex : ∃ vs, H D = some (.lst vs) ∧ Paired (fun v x => rp K (Fr M H) v x) vs xs
section
variable {α : Type} [Rep α] {K : Frag} {M M0 : Addr → Prop} {H H' : Hp} {D : Addr} {xs : List α} {v : V} {Q : VK}
theorem Mu.ext (m : Mu K M H D xs) (s : Same (Fr M H) (Fr M H')) (e : ∀ o, H D = some o → H' D = some o) : Mu K M H' D xs := let ⟨vs, a, b⟩ := m; ⟨vs, e _ a, L2.Paired.mapP b fun _ _ q => Rep.up s q⟩
theorem Mu.same (m : Mu K M H D xs) (s : Same H H') : Mu K M H' D xs := m.ext (Fr.same s) fun o e => s _ _ e
theorem Mu.draw {a : Addr} (m : Mu K M H D xs) (x : Ext (fdM a) H H') (h : ∀ b, fdM a b → M b) (n : ¬ fdM a D) : Mu K M H' D xs := m.ext (Fr.ext (Ext.sub h x)) fun o e => x _ _ n e
theorem rd_mut (al : Alloc M H) (k : ∀ D H', H D = none → Same H H' → Mu K (Ad D M) H' D ([] : List α) → Same (Fr M H) (Fr (Ad D M) H') → Alloc (Ad D M) H' → Q (.ref D) H') : sqc rLstD [] H Q := by
  rw [sqc_eq]
  exact ⟨Nat.zero_le _, fun D hD => k D _ hD (Same.new hD) ⟨[], upd_same, .nil⟩ (Fr.put hD) al.put⟩
theorem rd_app {x : α} (m : Mu K M H D xs) (hM : M D) (al : Alloc M H) (hy : rp K (Fr M H) v x) (hl : xs.length < 1000000) (k : ∀ H', Mu K M H' D (xs ++ [x]) → Same (Fr M H) (Fr M H') → Ext (Ad D (fun _ => False)) H H' → Alloc M H' → Q .non H') : sqm rAppend (.ref D) [v] H Q := by
  rw [sqm_eq]
  obtain ⟨vs, e1, e2⟩ := m
  have s := Fr.wr (H := H) (o := .lst (vs ++ [v])) hM
  refine ⟨D, vs, v, rfl, rfl, e1, Nat.lt_trans (by rw [e2.length]; exact hl) (by decide), k _ ⟨vs ++ [v], upd_same, (L2.Paired.mapP e2 fun _ _ q => Rep.up s q).snoc (Rep.up s hy)⟩ s (fun b o n e => by rw [upd_ne (fun z => n (.inl z))]; exact e) al.wr⟩
theorem Mu.ty (m : Mu K M H D xs) : tyV K "list" (.ref D) H := let ⟨_, a, _⟩ := m; .inl ⟨rfl, _, SqL.of a⟩
/-- it grows no more -/
theorem Mu.done (m : Mu K (Ad D M0) H D xs) (n : ¬ M0 D) : rp K (Fr M0 H) (.ref D) xs := let ⟨vs, a, b⟩ := m; ⟨D, vs, rfl, Fr.get n a, L2.Paired.mapP b fun _ _ q => Rep.up Fr.free q⟩
theorem ext_drop (x : Ext (Ad D M) H H') (h : H D = none) : Ext M H H' := fun b o n e => x b o (fun z => z.elim (fun q => by rw [q, h] at e; cases e) n) e
theorem ext_drop0 (x : Ext (Ad D (fun _ => False)) H H') (h : H D = none) : Same H H' := fun b o e => ext_drop x h b o (fun z => z) e
theorem Tp.app {a : Addr} {N : Nat} (t : Tp a N H) (x : Ext (Ad D (fun _ => False)) H H') (n : ¬ fdM a D) : Tp a N H' := by
  obtain ⟨d, m, n2, h1, h2⟩ := t
  exact ⟨d, m, n2, x _ _ (fun z => z.elim (fun e => n e.symm) (fun z => z)) h1, h2⟩
/-- read while it may grow -/
theorem Mu.len (m : Mu K M H D xs) (k : Q (.int (xs.length : Nat)) H) : sqc (fun xs H Q => ∃ p ys, xs = [V.ref p] ∧ (SqL K H p ys ∨ SqT K H p ys) ∧ Q (.int (ys.length : Nat)) H) [V.ref D] H Q := by
  rw [sqc_eq]
  obtain ⟨vs, a, b⟩ := m
  exact ⟨D, vs, rfl, .inl (SqL.of a), by rw [b.length]; exact k⟩
end
/-! ### comprehensions -/
section
variable {K : Frag} {H1 : Hp} {M M0 : Addr → Prop} {I : Nat → Hp → Prop} {v : V} {Q : Addr → Hp → Prop} {α β : Type} [Rep α] [Rep β] {J : It} {n : Nat} {G : Hp → Prop} {Y : Nat → Hp → V → Hp → Prop} {g : TG} {tt : TT} {te : TE} {vs : List Nat} {σ : L2.St}
theorem lc_rep (wk : Walk J n G Y) (Ys : Nat → List β) (y0 : Ys 0 = []) (al : Alloc M H1) (hG : ∀ H, Same (Fr M H1) H → G H) (hz : n ≤ 1000000) (sub0 : ∀ p, M0 p → M p) (i0 : I 0 H1) (iup : ∀ i H D o, ¬ M0 D → I i H → I i (upd H D o)) (iAl : ∀ i H, I i H → Alloc M0 H)
    (step : ∀ (i : Nat) (x : V) (H H' : Hp) (M' : Addr → Prop) (C : V → Hp → Prop) (C0 : Hp → Prop), i < n → Same (Fr M H1) (Fr M' H) → Alloc M' H → (∀ p, M p → M' p) → Ext M0 H1 H → I i H → Y i H x H' →
      (∀ w y H4, Ext M0 H H4 → I (i + 1) H4 → Ys (i + 1) = Ys i ++ [y] → rp K (Fr M' H4) w y → C w H4) → (∀ H4, Ext M0 H H4 → I (i + 1) H4 → Ys (i + 1) = Ys i → C0 H4) →
      g x (wipe σ vs) H' fun σ2 H2 => wipe σ2 vs = wipe σ vs ∧ tt σ2 H2 fun b H3 => if b = true then te σ2 H3 C else C0 H3)
    (k : ∀ D H', Ext M0 H1 H' → I n H' → H1 D = none → rp K (Fr M H') (.ref D) (Ys n) → Q D H') :
    ∀ D, H1 D = none → ∃ W : Nat → Nat → Hp → Prop, (∃ m, W 0 m (upd H1 D (.lst []))) ∧ ∀ i m H, W i m H →
      (J.stop i H ∧ Q D H) ∨ (J.go i H ∧ ∃ Nx : Hp → Prop, (∀ H', Nx H' → ∃ m', m' < m ∧ W (i + 1) m' H') ∧ ∀ x H', J.yld i H x H' → g x (wipe σ vs) H' fun σ2 H2 => wipe σ2 vs = wipe σ vs ∧ tt σ2 H2 fun b H3 =>
        if b = true then te σ2 H3 fun y H4 => ∃ acc, H4 D = some (.lst acc) ∧ acc.length < sizeLine ∧ Nx (upd H4 D (.lst (acc ++ [y]))) else Nx H3) := by
  intro D hD
  have nM : ¬ M D := al.new hD
  have nM0 : ¬ M0 D := fun z => nM (sub0 _ z)
  have al4 : ∀ H H4, Alloc (Ad D M) H → Ext M0 H H4 → Alloc M0 H4 → Alloc (Ad D M) H4 := fun H H4 a x a0 p m => by
    by_cases q : M0 p
    · exact a0 p q
    · obtain ⟨xs, e, hz9⟩ := a p m
      exact ⟨xs, x p _ q e, hz9⟩
  refine lc_it wk (fun i H => ∃ acc, H D = some (.lst acc) ∧ acc.length ≤ i ∧ Paired (fun v x => rp K (Fr (Ad D M) H) v x) acc (Ys i) ∧ Ext M0 H1 H ∧ I i H ∧ Same (Fr M H1) (Fr (Ad D M) H) ∧ Alloc (Ad D M) H)
    ⟨[], upd_same, Nat.le_refl _, by rw [y0]; exact .nil, Ext.new hD, iup _ _ _ _ nM0 i0, Fr.put hD, al.put⟩ (fun i H _ h => ?_) ?_ (fun H h => ?_)
  · obtain ⟨_, _, _, _, _, _, s, _⟩ := h
    exact hG H (s.trans Fr.sub)
  · rintro i x H H' hi ⟨acc, e1, e2, e3, e4, e5, e6, e7⟩ hY
    have zz : acc.length < sizeLine := Nat.lt_of_lt_of_le (show acc.length < 1000001 by omega) (by decide)
    refine step i x H H' (Ad D M) _ _ hi e6 e7 (fun p m => .inr m) e4 e5 hY (fun w y H4 x4 i4 eY r4 => ?_) (fun H4 x4 i4 eY => ?_)
    · have f4 := x4 _ _ nM0 e1
      have m1 : Same (Fr (Ad D M) H) (Fr (Ad D M) H4) := Fr.ext (fun b o nb e => x4 b o (fun z => nb (.inr (sub0 _ z))) e)
      have m2 : Same (Fr (Ad D M) H4) (Fr (Ad D M) (upd H4 D (.lst (acc ++ [w])))) := Fr.wr (.inl rfl)
      refine ⟨acc, f4, zz, acc ++ [w], upd_same, by rw [List.length_append]; exact Nat.succ_le_succ e2, ?_, (fun b o nb e => by rw [upd_ne (ne_of_none e hD)]; exact x4 b o nb (e4 b o nb e)), iup _ _ _ _ nM0 i4, e6.trans (m1.trans m2), (al4 H H4 e7 x4 (iAl _ _ i4)).wr⟩
      rw [eY]
      exact Paired.snoc (L2.Paired.mapP e3 fun _ _ q => Rep.up (m1.trans m2) q) (Rep.up m2 r4)
    · have m1 : Same (Fr (Ad D M) H) (Fr (Ad D M) H4) := Fr.ext (fun b o nb e => x4 b o (fun z => nb (.inr (sub0 _ z))) e)
      exact ⟨acc, x4 _ _ nM0 e1, Nat.le_succ_of_le e2, by rw [eY]; exact L2.Paired.mapP e3 fun _ _ q => Rep.up m1 q, e4.trans x4, i4, e6.trans m1, al4 H H4 e7 x4 (iAl _ _ i4)⟩
  · obtain ⟨acc, e1, e2, e3, e4, e5, e6, e7⟩ := h
    exact k D H e4 e5 hD ⟨D, acc, rfl, Fr.get nM e1, L2.Paired.mapP e3 fun _ _ q => Rep.up Fr.free q⟩
/-- what no draw changes -/
theorem ext_none {H H' : Hp} (x : Ext (fun _ => False) H H') : Same H H' := fun b o e => x b o (fun z => z) e
theorem lc_same (wk : Walk J n G Y) (Ys : Nat → List β) (y0 : Ys 0 = []) (al : Alloc M H1) (hG : ∀ H, Same (Fr M H1) H → G H) (hz : n ≤ 1000000)
    (step : ∀ (i : Nat) (x : V) (H H' : Hp) (M' : Addr → Prop) (C : V → Hp → Prop) (C0 : Hp → Prop), i < n → Same (Fr M H1) (Fr M' H) → Alloc M' H → (∀ p, M p → M' p) → Same H1 H → Y i H x H' →
      (∀ w y H4, Same H H4 → Ys (i + 1) = Ys i ++ [y] → rp K (Fr M' H4) w y → C w H4) → (∀ H4, Same H H4 → Ys (i + 1) = Ys i → C0 H4) →
      g x (wipe σ vs) H' fun σ2 H2 => wipe σ2 vs = wipe σ vs ∧ tt σ2 H2 fun b H3 => if b = true then te σ2 H3 C else C0 H3)
    (k : ∀ D H', Same H1 H' → rp K (Fr M H') (.ref D) (Ys n) → Q D H') :
    ∀ D, H1 D = none → ∃ W : Nat → Nat → Hp → Prop, (∃ m, W 0 m (upd H1 D (.lst []))) ∧ ∀ i m H, W i m H →
      (J.stop i H ∧ Q D H) ∨ (J.go i H ∧ ∃ Nx : Hp → Prop, (∀ H', Nx H' → ∃ m', m' < m ∧ W (i + 1) m' H') ∧ ∀ x H', J.yld i H x H' → g x (wipe σ vs) H' fun σ2 H2 => wipe σ2 vs = wipe σ vs ∧ tt σ2 H2 fun b H3 =>
        if b = true then te σ2 H3 fun y H4 => ∃ acc, H4 D = some (.lst acc) ∧ acc.length < sizeLine ∧ Nx (upd H4 D (.lst (acc ++ [y]))) else Nx H3) :=
  lc_rep (M0 := fun _ => False) (I := fun _ _ => True) wk Ys y0 al hG hz (fun _ z => z.elim) trivial (fun _ _ _ _ _ _ => trivial) (fun _ _ _ _ z => z.elim)
    (fun i x H H' M' C C0 hi s6 a7 hm x4 _ hY hC hC0 => step i x H H' M' C C0 hi s6 a7 hm (ext_none x4) hY (fun w y H4 s e r => hC w y H4 (Ext.same s) trivial e r) fun H4 s e => hC0 H4 (Ext.same s) trivial e)
    fun D H' x _ _ r => k D H' (ext_none x) r
/-- a walk that gives the items of xs, one after another -/
structure TW (K : Frag) (M : Addr → Prop) (H1 : Hp) (J : It) (xs : List α) : Prop where
  ex : ∃ (G : Hp → Prop) (Y : Nat → Hp → V → Hp → Prop), Walk J xs.length G Y ∧ (∀ H, Same (Fr M H1) H → G H) ∧
    ∀ (i : Nat) (u : V) (H H' : Hp) (M' : Addr → Prop), i < xs.length → Same (Fr M H1) (Fr M' H) → Alloc M' H → Y i H u H' → ∃ x, xs[i]? = some x ∧ Same H H' ∧ rp K (Fr M' H') u x
abbrev LcW (J : It) (H1 : Hp) (g : TG) (tt : TT) (te : TE) (vs : List Nat) (σ : L2.St) (D : Addr) (Qd : Hp → Prop) : Prop :=
  ∃ W : Nat → Nat → Hp → Prop, (∃ m, W 0 m (upd H1 D (.lst []))) ∧ ∀ i m H, W i m H →
      (J.stop i H ∧ Qd H) ∨ (J.go i H ∧ ∃ Nx : Hp → Prop, (∀ H', Nx H' → ∃ m', m' < m ∧ W (i + 1) m' H') ∧ ∀ x H', J.yld i H x H' → g x (wipe σ vs) H' fun σ2 H2 => wipe σ2 vs = wipe σ vs ∧ tt σ2 H2 fun b H3 =>
        if b = true then te σ2 H3 fun y H4 => ∃ acc, H4 D = some (.lst acc) ∧ acc.length < sizeLine ∧ Nx (upd H4 D (.lst (acc ++ [y]))) else Nx H3)
/-- [f(x) for x in ..] -/
theorem lc_map {xs : List α} {ys : List β} (T : TW K M H1 J xs) (al : Alloc M H1) (hlen : ys.length = xs.length) (hz : xs.length ≤ 1000000)
    (step : ∀ (i : Nat) (x : α) (y : β) (u : V) (H : Hp) (M' : Addr → Prop) (C : V → Hp → Prop) (C0 : Hp → Prop), xs[i]? = some x → ys[i]? = some y → Same (Fr M H1) (Fr M' H) → Alloc M' H → Same H1 H → rp K (Fr M' H) u x →
      (∀ w H4, Same H H4 → rp K (Fr M' H4) w y → C w H4) → g u (wipe σ vs) H fun σ2 H2 => wipe σ2 vs = wipe σ vs ∧ tt σ2 H2 fun b H3 => if b = true then te σ2 H3 C else C0 H3)
    (k : ∀ D H', Same H1 H' → rp K (Fr M H') (.ref D) ys → Q D H') : ∀ D, H1 D = none → LcW J H1 g tt te vs σ D (Q D) := by
  obtain ⟨G, Y, wk, hG, hY⟩ := T.ex
  refine lc_rep (M0 := fun _ => False) (I := fun _ _ => True) wk (fun i => ys.take i) rfl al hG hz (fun _ z => z.elim) trivial (fun _ _ _ _ _ _ => trivial) (fun _ _ _ _ z => z.elim) ?_ (fun D H' x _ _ r => k D H' (ext_none x) (by rw [List.take_of_length_le (by rw [hlen]; exact Nat.le_refl _)] at r; exact r))
  rintro i x H H' M' C C0 hi s6 a7 hm s4 _ y7 hC _
  obtain ⟨z, hz2, s8, rz⟩ := hY i x H H' M' hi s6 a7 y7
  have iy : i < ys.length := by rw [hlen]; exact hi
  refine step i z ys[i] x H' M' C C0 hz2 (List.getElem?_eq_getElem iy) (s6.trans (Fr.same s8)) (a7.same s8) ((ext_none s4).trans s8) rz fun w H4 s r => hC w ys[i] H4 (Ext.same (s8.trans s)) trivial ?_ r
  rw [List.take_add_one, List.getElem?_eq_getElem iy]
  rfl
/-- [f(x) for x in .. if p(x)] -/
theorem lc_filt {xs : List α} (p : α → Bool) (f : α → β) (T : TW K M H1 J xs) (al : Alloc M H1) (hz : xs.length ≤ 1000000)
    (step : ∀ (i : Nat) (x : α) (u : V) (H : Hp) (M' : Addr → Prop) (C : V → Hp → Prop) (C0 : Hp → Prop), xs[i]? = some x → Same (Fr M H1) (Fr M' H) → Alloc M' H → Same H1 H → rp K (Fr M' H) u x →
      (p x = true → ∀ w H4, Same H H4 → rp K (Fr M' H4) w (f x) → C w H4) → (p x = false → ∀ H4, Same H H4 → C0 H4) → g u (wipe σ vs) H fun σ2 H2 => wipe σ2 vs = wipe σ vs ∧ tt σ2 H2 fun b H3 => if b = true then te σ2 H3 C else C0 H3)
    (k : ∀ D H', Same H1 H' → rp K (Fr M H') (.ref D) ((xs.filter p).map f) → Q D H') : ∀ D, H1 D = none → LcW J H1 g tt te vs σ D (Q D) := by
  obtain ⟨G, Y, wk, hG, hY⟩ := T.ex
  refine lc_rep (M0 := fun _ => False) (I := fun _ _ => True) wk (fun i => ((xs.take i).filter p).map f) rfl al hG hz (fun _ z => z.elim) trivial (fun _ _ _ _ _ _ => trivial) (fun _ _ _ _ z => z.elim) ?_ (fun D H' x _ _ r => k D H' (ext_none x) (by rw [List.take_of_length_le (Nat.le_refl _)] at r; exact r))
  rintro i x H H' M' C C0 hi s6 a7 hm s4 _ y7 hC hC0
  obtain ⟨z, hz2, s8, rz⟩ := hY i x H H' M' hi s6 a7 y7
  have e : ∀ b, p z = b → ((xs.take (i + 1)).filter p).map f = ((xs.take i).filter p).map f ++ (if b = true then [f z] else []) := fun b hb => by
    rw [List.take_add_one, hz2]
    show (((xs.take i) ++ [z]).filter p).map f = _
    rw [List.filter_append, List.map_append]
    congr 1
    cases b with
    | true => rw [List.filter_cons_of_pos hb, List.filter_nil]; rfl
    | false => rw [List.filter_cons_of_neg (by rw [hb]; exact Bool.false_ne_true), List.filter_nil]; rfl
  refine step i z x H' M' C C0 hz2 (s6.trans (Fr.same s8)) (a7.same s8) ((ext_none s4).trans s8) rz (fun hp w H4 s r => hC w (f z) H4 (Ext.same (s8.trans s)) trivial (e true hp) r) fun hp H4 s => hC0 H4 (Ext.same (s8.trans s)) trivial (by rw [e false hp]; exact List.append_nil _)
/-- the same where each turn draws -/
theorem lc_tape {a : Addr} {c N : Nat} {xs : List α} (p : α → Bool) (f : α → β) (T : TW K (fdM a) H1 J xs) (hT : Tp a (N + c * xs.length) H1) (hz : xs.length ≤ 1000000)
    (step : ∀ (i : Nat) (x : α) (u : V) (H : Hp) (M' : Addr → Prop) (C : V → Hp → Prop) (C0 : Hp → Prop), xs[i]? = some x → Same (Fr (fdM a) H1) (Fr M' H) → Alloc M' H → (∀ b, fdM a b → M' b) → Ext (fdM a) H1 H → Tp a (N + c * (xs.length - (i + 1)) + c) H → rp K (Fr M' H) u x →
      (p x = true → ∀ w H4, Ext (fdM a) H H4 → Tp a (N + c * (xs.length - (i + 1))) H4 → rp K (Fr M' H4) w (f x) → C w H4) → (p x = false → ∀ H4, Ext (fdM a) H H4 → Tp a (N + c * (xs.length - (i + 1))) H4 → C0 H4) → g u (wipe σ vs) H fun σ2 H2 => wipe σ2 vs = wipe σ vs ∧ tt σ2 H2 fun b H3 => if b = true then te σ2 H3 C else C0 H3)
    (k : ∀ D H', Ext (fdM a) H1 H' → Tp a N H' → rp K (Fr (fdM a) H') (.ref D) ((xs.filter p).map f) → Q D H') : ∀ D, H1 D = none → LcW J H1 g tt te vs σ D (Q D) := by
  obtain ⟨G, Y, wk, hG, hY⟩ := T.ex
  refine lc_rep (M0 := fdM a) (I := fun i H => Tp a (N + c * (xs.length - i)) H) wk (fun i => ((xs.take i).filter p).map f) rfl hT.alloc hG hz (fun _ z => z) hT (fun i H D o n t => ?_) (fun _ _ t => t.alloc) ?_ (fun D H' x i _ r => k D H' x (by rw [Nat.sub_self] at i; exact i) (by rw [List.take_of_length_le (Nat.le_refl _)] at r; exact r))
  · obtain ⟨d, m, n2, h1, h2⟩ := t
    exact ⟨d, m, n2, by rw [upd_ne fun z => n z.symm]; exact h1, h2⟩
  rintro i x H H' M' C C0 hi s6 a7 hm s4 t7 y7 hC hC0
  obtain ⟨z, hz2, s8, rz⟩ := hY i x H H' M' hi s6 a7 y7
  have e : ∀ b, p z = b → ((xs.take (i + 1)).filter p).map f = ((xs.take i).filter p).map f ++ (if b = true then [f z] else []) := fun b hb => by
    rw [List.take_add_one, hz2]
    show (((xs.take i) ++ [z]).filter p).map f = _
    rw [List.filter_append, List.map_append]
    congr 1
    cases b with
    | true => rw [List.filter_cons_of_pos hb, List.filter_nil]; rfl
    | false => rw [List.filter_cons_of_neg (by rw [hb]; exact Bool.false_ne_true), List.filter_nil]; rfl
  have t8 : Tp a (N + c * (xs.length - (i + 1)) + c) H' := by
    have q := t7.same s8
    have e2 : N + c * (xs.length - i) = N + c * (xs.length - (i + 1)) + c := by
      rw [show xs.length - i = (xs.length - (i + 1)) + 1 by omega, Nat.mul_add, Nat.mul_one]
      omega
    rw [e2] at q
    exact q
  refine step i z x H' M' C C0 hz2 (s6.trans (Fr.same s8)) (a7.same s8) hm (s4.trans (Ext.same s8)) t8 rz (fun hp w H4 s t r => hC w (f z) H4 ((Ext.same s8).trans s) t (e true hp) r) fun hp H4 s t => hC0 H4 ((Ext.same s8).trans s) t (by rw [e false hp]; exact List.append_nil _)
/-! ### the walks -/
theorem tw_list {xs : List α} (h : rp K (Fr M H1) v xs) : ∃ a, v = V.ref a ∧ (∃ zs, SqL K H1 a zs) ∧ TW K M H1 (Itl K a) xs := by
  obtain ⟨p, zs, rfl, h1, h2⟩ := id h
  refine ⟨p, rfl, ⟨zs, SqL.of (Fr.sub _ _ h1)⟩, ⟨_, _, by rw [← h2.length]; exact walk_list (xs := zs), fun H s => SqL.of (s _ _ h1), ?_⟩⟩
  rintro i u H H' M' hi s6 a7 ⟨rfl, hx⟩
  obtain ⟨z, hz2, rz⟩ := pd_getL h2 hx
  exact ⟨z, hz2, Same.refl _, Rep.up s6 rz⟩
theorem tw_range {lo : Int} {n : Nat} : TW K M H1 (Itr lo n) (rgI lo n) := by
  refine ⟨_, _, by rw [rgI_len]; exact walk_range, fun _ _ => trivial, ?_⟩
  rintro i u H H' M' hi s6 a7 ⟨rfl, rfl⟩
  rw [rgI_len] at hi
  exact ⟨lo + i, rgI_get hi, Same.refl _, rfl⟩
theorem tw_zip {w : V} {xs : List α} {ys : List β} (h : rp K (Fr M H1) v xs) (h' : rp K (Fr M H1) w ys) : ∃ a b zs us, [v, w] = [V.ref a, V.ref b] ∧ SqL K H1 a zs ∧ SqL K H1 b us ∧ TW K M H1 (Itz K a b) (xs.zip ys) := by
  obtain ⟨p, zs, rfl, h1, h2⟩ := id h
  obtain ⟨q, us, rfl, g1, g2⟩ := id h'
  refine ⟨p, q, zs, us, rfl, SqL.of (Fr.sub _ _ h1), SqL.of (Fr.sub _ _ g1), ⟨fun H => SqL K H p zs ∧ SqL K H q us, _, by rw [List.length_zip]; exact walk_zip (xs := zs) (ys := us) (by rw [h2.length, g2.length]), fun H s => ⟨SqL.of (s _ _ h1), SqL.of (s _ _ g1)⟩, ?_⟩⟩
  rintro i u H H' M' hi s6 a7 ⟨T, x1, x2, rfl, hT0, rfl, hx1, hx2⟩
  obtain ⟨y1, hy1, r1⟩ := pd_getL h2 hx1
  obtain ⟨y2, hy2, r2⟩ := pd_getL g2 hx2
  have up := s6.trans (Fr.same (M := M') (Same.new (o := .tup [x1, x2]) hT0))
  exact ⟨(y1, y2), by rw [List.getElem?_zip_eq_some]; exact ⟨hy1, hy2⟩, Same.new hT0, T, x1, x2, rfl, Fr.new a7 hT0, Rep.up up r1, Rep.up up r2⟩
def enI {α : Type} (xs : List α) : List (Int × α) := xs.mapIdx fun i x => ((i : Int), x)
theorem enI_len {α : Type} (xs : List α) : (enI xs).length = xs.length := List.length_mapIdx
theorem enI_get {α : Type} {xs : List α} {i : Nat} {x : α} (h : xs[i]? = some x) : (enI xs)[i]? = some ((i : Int), x) := by
  unfold enI
  rw [List.getElem?_mapIdx, h]
  rfl
theorem tw_enum {xs : List α} (h : rp K (Fr M H1) v xs) : ∃ a zs, [v] = [V.ref a] ∧ SqL K H1 a zs ∧ TW K M H1 (Ite K a) (enI xs) := by
  obtain ⟨p, zs, rfl, h1, h2⟩ := id h
  refine ⟨p, zs, rfl, SqL.of (Fr.sub _ _ h1), ⟨_, _, by rw [enI_len, ← h2.length]; exact walk_enum (xs := zs), fun H s => SqL.of (s _ _ h1), ?_⟩⟩
  rintro i u H H' M' hi s6 a7 ⟨T, x1, x2, rfl, hT0, rfl, hx1, hx2⟩
  obtain ⟨y2, hy2, r2⟩ := pd_getL h2 hx2
  cases hx1
  have up := s6.trans (Fr.same (M := M') (Same.new (o := .tup [.int i, x2]) hT0))
  exact ⟨((i : Int), y2), enI_get hy2, Same.new hT0, T, .int i, x2, rfl, Fr.new a7 hT0, rfl, Rep.up up r2⟩
/-! ### for -/
abbrev ForW (J : It) (g : TG) (tb : TS) (D : Ends) (σ : L2.St) (H : Hp) : Prop :=
  ∃ W : Nat → Nat → L2.St → Hp → Prop, (∃ m, W 0 m σ H) ∧ ∀ i m σ H, W i m σ H →
      (J.stop i H ∧ D.nx σ H) ∨ (J.go i H ∧ ∃ N : L2.St → Hp → Prop, (∀ σ' H', N σ' H' → ∃ m', m' < m ∧ W (i + 1) m' σ' H') ∧ ∀ x H', J.yld i H x H' → g x σ H' fun σ2 H2 => tb { D with nx := N, ct := N, bk := D.nx } σ2 H2)
/-- a for over such a walk; Pv by the turn, the slots and the heap; Mi: what the body may change -/
theorem for_tw {tb : TS} {D : Ends} {xs : List α} (T : TW K M H1 J xs) (Mi : Addr → Prop) (Pv : Nat → L2.St → Hp → Prop) (h0 : Pv 0 σ H1) (hP : ∀ i σ H, Pv i σ H → Same (Fr M H1) (Fr Mi H) ∧ Alloc Mi H)
    (hs : ∀ (i : Nat) (x : α) (u : V) (σ : L2.St) (H H' : Hp), xs[i]? = some x → Pv i σ H → Same H H' → Same (Fr M H1) (Fr Mi H') → Alloc Mi H' → rp K (Fr Mi H') u x → g u σ H' fun σ2 H2 => tb { D with nx := Pv (i + 1), ct := Pv (i + 1), bk := D.nx } σ2 H2)
    (hd : ∀ σ H, Pv xs.length σ H → D.nx σ H) : ForW J g tb D σ H1 := by
  obtain ⟨G, Y, wk, hG, hY⟩ := T.ex
  refine for_it wk Pv h0 (fun i σ H _ h => hG H ((hP i σ H h).1.trans Fr.sub)) ?_ hd
  intro i u σ H H' hi p y
  obtain ⟨s, a⟩ := hP i σ H p
  obtain ⟨x, hx, s8, r⟩ := hY i u H H' Mi hi s a y
  exact hs i x u σ H H' hx p s8 (s.trans (Fr.same s8)) (a.same s8) r
/-- [f(x) for x in ..], f told -/
theorem lc_mapF {xs : List α} (f : α → β) (T : TW K M H1 J xs) (al : Alloc M H1) (hz : xs.length ≤ 1000000)
    (step : ∀ (i : Nat) (x : α) (u : V) (H : Hp) (M' : Addr → Prop) (C : V → Hp → Prop) (C0 : Hp → Prop), xs[i]? = some x → Same (Fr M H1) (Fr M' H) → Alloc M' H → Same H1 H → rp K (Fr M' H) u x →
      (∀ w H4, Same H H4 → rp K (Fr M' H4) w (f x) → C w H4) → g u (wipe σ vs) H fun σ2 H2 => wipe σ2 vs = wipe σ vs ∧ tt σ2 H2 fun b H3 => if b = true then te σ2 H3 C else C0 H3)
    (k : ∀ D H', Same H1 H' → rp K (Fr M H') (.ref D) (xs.map f) → Q D H') : ∀ D, H1 D = none → LcW J H1 g tt te vs σ D (Q D) :=
  lc_map T al (List.length_map _) hz (fun i x y u H M' C C0 hx hy s a s1 r hC => step i x u H M' C C0 hx s a s1 r fun w H4 s4 r4 => hC w H4 s4 (by
    rw [List.getElem?_map, hx] at hy
    cases hy
    exact r4)) k
end
end Fw

/-! Fw, part T: == and repr of data by their types. -/
namespace Fw
open PySem PySem.Spec PyProof.Rows L2
open He (ga ma)
open Rep (rp)
mutual
theorem dp_same {K : Frag} {H H' : Hp} (s : Same H H') : ∀ (d : PyData) (v : V), Dp K H v d → Dp K H' v d
  | .none, _, h => by cases h; exact .non
  | .bool b, _, h => by cases h; exact .bl b
  | .int i, _, h => by cases h; exact .int i
  | .str x, _, h => by cases h; exact .str x
  | .list ds, _, h => by
    cases h with
    | lst h1 h2 => exact .lst (s.seq h1) (dp_sames s ds _ h2)
  | .tuple ds, _, h => by
    cases h with
    | tup h1 h2 => exact .tup (h1.elim (fun h => .inl (h.elim (fun h => .inl (s _ _ h)) fun ⟨o, h⟩ => .inr ⟨o, s _ _ h⟩)) fun h => .inr h) (dp_sames s ds _ h2)
  | .dict _, _, h => by cases h
theorem dp_sames {K : Frag} {H H' : Hp} (s : Same H H') : ∀ (ds : List PyData) (vs : List V), DpAll K H vs ds → DpAll K H' vs ds
  | [], _, h => by cases h; exact .nil
  | d :: ds, _, h => by
    cases h with
    | cons a b => exact .cons (dp_same s d _ a) (dp_sames s ds _ b)
end
class Dat (α : Type) extends Rep α where
  toD : α → PyData
  dp : ∀ {K : Frag} {F : Hp} {v : V} {x : α}, rp K F v x → Dp K F v (toD x)
  eqd : ∀ x y : α, PyData.eqv (toD x) (toD y) = true ↔ x = y
  ok : α → Prop
  lay : ∀ {x : α}, ok x → (toD x).canLay0 = true
  dep : Nat
  hdep : ∀ x : α, (toD x).depth ≤ dep
  fit : Nat → α → Prop
  hfit : ∀ {W : Nat} {x : α}, fit W x → (toD x).showable = true ∧ (toD x).hasDict = false ∧ wt (toD x) ≤ W
open Dat (toD)
instance : Dat Int where
  toD := .int
  dp := fun h => by rw [show _ = V.int _ from h]; exact .int _
  eqd := fun x y => by simp only [PyData.eqv, beq_iff_eq]
  ok := fun _ => True
  lay := fun _ => by simp only [PyData.canLay0]
  dep := 0
  hdep := fun x => by simp only [PyData.depth]; exact Nat.le_refl _
  fit := fun W i => Sz 1800 i ∧ 600 ≤ W
  hfit := fun h => ⟨by simp only [PyData.showable, decide_eq_true (h.1.log (by decide) (by decide))], by simp only [PyData.hasDict], by simp only [wt]; exact h.2⟩
instance : Dat Bool where
  toD := .bool
  dp := fun h => by rw [show _ = V.bl _ from h]; exact .bl _
  eqd := fun x y => by simp only [PyData.eqv, beq_iff_eq]
  ok := fun _ => True
  lay := fun _ => by simp only [PyData.canLay0]
  dep := 0
  hdep := fun x => by simp only [PyData.depth]; exact Nat.le_refl _
  fit := fun W i => 5 ≤ W
  hfit := fun h => ⟨by simp only [PyData.showable], by simp only [PyData.hasDict], by simp only [wt]; exact h⟩
instance : Dat Str where
  toD := .str
  dp := fun h => by rw [show _ = V.str _ from h]; exact .str _
  eqd := fun x y => by simp only [PyData.eqv, beq_iff_eq]
  ok := fun x => PyData.strOk x = true
  lay := fun h => by simp only [PyData.canLay0]; exact h
  dep := 0
  hdep := fun x => by simp only [PyData.depth]; exact Nat.le_refl _
  fit := fun W x => (PyData.shown (.str x)).length ≤ W
  hfit := fun h => ⟨by simp only [PyData.showable], by simp only [PyData.hasDict], by simp only [wt]; exact h⟩
instance : Dat (Option Int) where
  toD := fun x => match x with | none => .none | some i => .int i
  dp := fun {K F v x} h => match x, h with
    | none, h => by rw [show v = V.non from h]; exact .non
    | some i, h => by rw [show v = V.int i from h]; exact .int _
  eqd := fun x y => by cases x <;> cases y <;> simp [PyData.eqv]
  ok := fun _ => True
  lay := fun {x} _ => by cases x <;> simp only [PyData.canLay0]
  dep := 0
  hdep := fun x => by cases x <;> (simp only [PyData.depth]; exact Nat.le_refl _)
  fit := fun W x => 600 ≤ W ∧ ∀ i, x = some i → Sz 1800 i
  hfit := fun {W x} h => by
    cases x with
    | none => exact ⟨by simp only [PyData.showable], by simp only [PyData.hasDict], by simp only [wt]; omega⟩
    | some i => exact ⟨by simp only [PyData.showable, decide_eq_true ((h.2 i rfl).log (by decide) (by decide))], by simp only [PyData.hasDict], by simp only [wt]; exact h.1⟩
instance : Dat N3 where
  toD := fun n => .tuple [.int n.e, .int n.a, .int n.r]
  dp := fun h => by
    obtain ⟨p, rfl, h1⟩ := h
    exact .tup (SqT.of h1) (.cons (.int _) (.cons (.int _) (.cons (.int _) .nil)))
  eqd := fun x y => by
    obtain ⟨a, b, c⟩ := x
    obtain ⟨d, e, f⟩ := y
    simp [PyData.eqv, PyData.eqvAll]
  ok := fun _ => True
  lay := fun _ => by simp only [PyData.canLay0, PyData.canLayAll0, Bool.and_self]
  dep := 1
  hdep := fun x => by simp only [PyData.depth, PyData.depthAll]; decide
  fit := fun W n => Sz 1800 n.e ∧ Sz 1800 n.a ∧ Sz 1800 n.r ∧ 2000 ≤ W
  hfit := fun {W n} h => ⟨by simp only [PyData.showable, PyData.showableAll, decide_eq_true (h.1.log (by decide) (by decide)), decide_eq_true (h.2.1.log (by decide) (by decide)), decide_eq_true (h.2.2.1.log (by decide) (by decide)), Bool.and_self],
    by simp only [PyData.hasDict, PyData.hasDictAll, Bool.or_self], by simp only [wt, wtAll]; have := h.2.2.2; omega⟩
section
variable {α β γ : Type} [Dat α] [Dat β] [Dat γ]
theorem eqvAll_iff : ∀ xs ys : List α, PyData.eqvAll (xs.map toD) (ys.map toD) = true ↔ xs = ys
  | [], [] => by simp [PyData.eqvAll]
  | [], _ :: _ => by simp [PyData.eqvAll]
  | _ :: _, [] => by simp [PyData.eqvAll]
  | x :: xs, y :: ys => by
    rw [List.map_cons, List.map_cons]
    simp only [PyData.eqvAll, Bool.and_eq_true, Dat.eqd, eqvAll_iff xs ys, List.cons.injEq]
theorem dpAll_of {K : Frag} {F : Hp} : ∀ {vs : List V} {xs : List α}, Paired (fun v x => rp K F v x) vs xs → DpAll K F vs (xs.map toD)
  | _, _, .nil => .nil
  | _, _, .cons h t => .cons (Dat.dp h) (dpAll_of t)
theorem layAll : ∀ {xs : List α}, (∀ x ∈ xs, Dat.ok x) → PyData.canLayAll0 (xs.map toD) = true
  | [], _ => by simp only [List.map_nil, PyData.canLayAll0]
  | x :: xs, h => by
    rw [List.map_cons]
    simp only [PyData.canLayAll0, Dat.lay (h x List.mem_cons_self), layAll fun y hy => h y (List.mem_cons_of_mem _ hy), Bool.and_self]
theorem depAll : ∀ xs : List α, PyData.depthAll (xs.map toD) ≤ Dat.dep α
  | [] => by simp only [List.map_nil, PyData.depthAll]; exact Nat.zero_le _
  | x :: xs => by
    rw [List.map_cons]
    simp only [PyData.depthAll]
    exact Nat.max_le.mpr ⟨Dat.hdep x, depAll xs⟩
theorem fitAll {W : Nat} : ∀ {xs : List α}, (∀ x ∈ xs, Dat.fit W x) → PyData.showableAll (xs.map toD) = true ∧ PyData.hasDictAll (xs.map toD) = false ∧ wtAll (xs.map toD) ≤ xs.length * (W + 2)
  | [], _ => by simp only [List.map_nil, PyData.showableAll, PyData.hasDictAll, wtAll]; exact ⟨trivial, trivial, Nat.zero_le _⟩
  | x :: xs, h => by
    obtain ⟨a, b, c⟩ := Dat.hfit (h x List.mem_cons_self)
    obtain ⟨d, e, f⟩ := fitAll fun y hy => h y (List.mem_cons_of_mem _ hy)
    rw [List.map_cons]
    simp only [PyData.showableAll, PyData.hasDictAll, wtAll, a, b, d, e, Bool.and_self, Bool.or_self]
    refine ⟨trivial, trivial, ?_⟩
    rw [List.length_cons, Nat.succ_mul]
    omega
end
instance {α : Type} [Dat α] : Dat (List α) where
  toD := fun xs => .list (xs.map toD)
  dp := fun h => by
    obtain ⟨p, vs, rfl, h1, h2⟩ := h
    exact .lst (SqL.of h1) (dpAll_of h2)
  eqd := fun x y => by simp only [PyData.eqv]; exact eqvAll_iff x y
  ok := fun xs => ∀ x ∈ xs, Dat.ok x
  lay := fun h => by simp only [PyData.canLay0]; exact layAll h
  dep := Dat.dep α + 1
  hdep := fun x => by simp only [PyData.depth]; exact Nat.succ_le_succ (depAll x)
  fit := fun W xs => ∃ W', (∀ x ∈ xs, Dat.fit W' x) ∧ xs.length * (W' + 2) + 5 ≤ W
  hfit := fun h => by
    obtain ⟨W', h1, h2⟩ := h
    obtain ⟨a, b, c⟩ := fitAll h1
    exact ⟨by simp only [PyData.showable]; exact a, by simp only [PyData.hasDict]; exact b, by simp only [wt]; omega⟩
instance {α : Type} [Dat α] : Dat (Tup α) where
  toD := fun xs => .tuple (xs.l.map toD)
  dp := fun h => by
    obtain ⟨p, vs, rfl, h1, h2⟩ := h
    exact .tup (SqT.of h1) (dpAll_of h2)
  eqd := fun x y => by
    simp only [PyData.eqv]
    refine (eqvAll_iff x.l y.l).trans ⟨fun e => ?_, fun e => by rw [e]⟩
    cases x; cases y; exact congrArg Tup.mk e
  ok := fun xs => ∀ x ∈ xs.l, Dat.ok x
  lay := fun h => by simp only [PyData.canLay0]; exact layAll h
  dep := Dat.dep α + 1
  hdep := fun x => by simp only [PyData.depth]; exact Nat.succ_le_succ (depAll x.l)
  fit := fun W xs => ∃ W', (∀ x ∈ xs.l, Dat.fit W' x) ∧ xs.l.length * (W' + 2) + 5 ≤ W
  hfit := fun h => by
    obtain ⟨W', h1, h2⟩ := h
    obtain ⟨a, b, c⟩ := fitAll h1
    exact ⟨by simp only [PyData.showable]; exact a, by simp only [PyData.hasDict]; exact b, by simp only [wt]; omega⟩
instance {α β : Type} [Dat α] [Dat β] : Dat (α × β) where
  toD := fun x => .tuple [toD x.1, toD x.2]
  dp := fun h => by
    obtain ⟨p, v1, v2, rfl, h1, h2, h3⟩ := h
    exact .tup (SqT.of h1) (.cons (Dat.dp h2) (.cons (Dat.dp h3) .nil))
  eqd := fun x y => by
    obtain ⟨a, b⟩ := x
    obtain ⟨c, d⟩ := y
    simp only [PyData.eqv, PyData.eqvAll, Bool.and_eq_true, Dat.eqd, Prod.mk.injEq, and_true]
  ok := fun x => Dat.ok x.1 ∧ Dat.ok x.2
  lay := fun h => by simp only [PyData.canLay0, PyData.canLayAll0, Dat.lay h.1, Dat.lay h.2, Bool.and_self]
  dep := max (Dat.dep α) (Dat.dep β) + 1
  hdep := fun x => by
    have a := Dat.hdep x.1
    have b := Dat.hdep x.2
    simp only [PyData.depth, PyData.depthAll]
    omega
  fit := fun W x => ∃ W', Dat.fit W' x.1 ∧ Dat.fit W' x.2 ∧ 2 * (W' + 2) + 5 ≤ W
  hfit := fun h => by
    obtain ⟨W', h1, h2, h3⟩ := h
    obtain ⟨a, b, c⟩ := Dat.hfit h1
    obtain ⟨d, e, f⟩ := Dat.hfit h2
    exact ⟨by simp only [PyData.showable, PyData.showableAll, a, d, Bool.and_self], by simp only [PyData.hasDict, PyData.hasDictAll, b, e, Bool.or_self], by simp only [wt, wtAll]; omega⟩
instance {α β γ : Type} [Dat α] [Dat β] [Dat γ] : Dat (P3 α β γ) where
  toD := fun x => .tuple [toD x.a, toD x.b, toD x.c]
  dp := fun h => by
    obtain ⟨p, v1, v2, v3, rfl, h1, h2, h3, h4⟩ := h
    exact .tup (SqT.of h1) (.cons (Dat.dp h2) (.cons (Dat.dp h3) (.cons (Dat.dp h4) .nil)))
  eqd := fun x y => by
    obtain ⟨a, b, c⟩ := x
    obtain ⟨d, e, f⟩ := y
    simp only [PyData.eqv, PyData.eqvAll, Bool.and_eq_true, Dat.eqd, P3.mk.injEq, and_true]
  ok := fun x => Dat.ok x.a ∧ Dat.ok x.b ∧ Dat.ok x.c
  lay := fun h => by simp only [PyData.canLay0, PyData.canLayAll0, Dat.lay h.1, Dat.lay h.2.1, Dat.lay h.2.2, Bool.and_self]
  dep := max (Dat.dep α) (max (Dat.dep β) (Dat.dep γ)) + 1
  hdep := fun x => by
    have a := Dat.hdep x.a
    have b := Dat.hdep x.b
    have c := Dat.hdep x.c
    simp only [PyData.depth, PyData.depthAll]
    omega
  fit := fun W x => ∃ W', Dat.fit W' x.a ∧ Dat.fit W' x.b ∧ Dat.fit W' x.c ∧ 3 * (W' + 2) + 5 ≤ W
  hfit := fun h => by
    obtain ⟨W', h1, h2, h4, h3⟩ := h
    obtain ⟨a, b, c⟩ := Dat.hfit h1
    obtain ⟨d, e, f⟩ := Dat.hfit h2
    obtain ⟨g, i, j⟩ := Dat.hfit h4
    exact ⟨by simp only [PyData.showable, PyData.showableAll, a, d, g, Bool.and_self], by simp only [PyData.hasDict, PyData.hasDictAll, b, e, i, Bool.or_self], by simp only [wt, wtAll]; omega⟩
section
variable {K : Frag} {F H : Hp} {v w : V} {Q : VK} {α : Type} [Dat α] [DecidableEq α] {x y : α}
theorem eqv_dec (x y : α) : PyData.eqv (toD x) (toD y) = decide (x = y) := by
  by_cases e : x = y
  · rw [decide_eq_true e]
    exact (Dat.eqd x y).mpr e
  · rw [decide_eq_false e]
    cases q : PyData.eqv (toD x) (toD y) with
    | true => exact absurd ((Dat.eqd x y).mp q) e
    | false => rfl
theorem shp_of (h : Dat.ok x) (hd : Dat.dep α ≤ 64) : SeqAt.shaped (toD x) = true := by
  unfold SeqAt.shaped
  rw [Dat.lay h, decide_eq_true (Nat.le_trans (Dat.hdep x) hd)]
  rfl
/-- x == y of data of one type -/
theorem rd_eq (hx : rp K F v x) (hy : rp K F w y) (hF : Same F H) (ox : Dat.ok x) (oy : Dat.ok y) (k : Q (.bl (decide (x = y))) H) (hd : Dat.dep α ≤ 64 := by decide) : sq2 (rEqD K) v w H Q := by
  rw [sq2_eq]
  exact ⟨toD x, toD y, dp_same hF _ _ (Dat.dp hx), dp_same hF _ _ (Dat.dp hy), shp_of ox hd, shp_of oy hd, by rw [eqv_dec]; exact k⟩
theorem rd_ne (hx : rp K F v x) (hy : rp K F w y) (hF : Same F H) (ox : Dat.ok x) (oy : Dat.ok y) (k : Q (.bl (!decide (x = y))) H) (hd : Dat.dep α ≤ 64 := by decide) : sq2 (rNeD K) v w H Q := by
  rw [sq2_eq]
  exact ⟨toD x, toD y, dp_same hF _ _ (Dat.dp hx), dp_same hF _ _ (Dat.dp hy), shp_of ox hd, shp_of oy hd, by rw [eqv_dec]; exact k⟩
omit [DecidableEq α] in
/-- repr(x) of a list or tuple -/
theorem rd_repr {a : Addr} {W : Nat} (hx : rp K F (.ref a) x) (hF : Same F H) (f : Dat.fit W x) (k : Q (.str (toD x).shown) H) (hW : W ≤ 16777216 := by decide) (hd : Dat.dep α ≤ 40 := by decide) :
    sqc (fun xs H Q => ∃ a d, xs = [.ref a] ∧ Dp K H (.ref a) d ∧ Fit d ∧ Q (.str d.shown) H) [V.ref a] H Q := by
  rw [sqc_eq]
  obtain ⟨a1, b1, c1⟩ := Dat.hfit f
  exact ⟨a, toD x, rfl, dp_same hF _ _ (Dat.dp hx), ⟨a1, b1, Nat.le_trans (Dat.hdep x) hd, Nat.le_trans c1 hW⟩, k⟩
end
end Fw

/-! Fw, part U: an attribute as a target; o.f %= e. -/
namespace Fw
open PySem PySem.Spec PyProof.Rows L2
section
variable {X : Cx} {o : Expr} {f : Str} {pos : Pos} {ta : TE}
/-- o.f = .., within a tuple of targets -/
def gFld (K : Frag) (ta : TE) (f : Str) : TG := fun v σ H Q => ta σ H fun x H2 => ∃ a C dx fs, x = .ref a ∧ H2 a = some (.ins C dx fs) ∧ Cls K C ∧ NoAttr K C f ∧ fs.length < 1000 ∧ Q σ (upd H2 a (.ins C dx (putF f v fs)))
theorem pg_fld (ha : PE X o ta) : PG X (.Attribute o f pos) (gFld X.K ta f) := by
  refine ⟨fun pins s σ H v u Q I r h => ?_⟩
  show wpAny _ _ (assign (.Attribute o f pos) X.env u) _ _ _
  rw [show assign (.Attribute o f pos) X.env u = (do
    let ov ← holding [u] (eval o X.env)
    standAt pos.atName
    holding [u, ov] (setAttr ov f u)
    release [u, ov] []) from by unfold assign; rfl]
  refine wpAny_bind (wpAny_holding (thn (ha.run pins s σ H _ I h) fun ov s1 ⟨x, H1, I1, r1, a, C, dx, fs, ex, ea, c, n, l, q⟩ => ?_))
  subst ex
  obtain rfl : ov = Value.ref a := r1
  refine wpAny_bind (wpAny_standAt (wpAny_bind (wpAny_holding ?_)))
  exact setattr_ok I1 ea c n l r fun s3 I3 => wpAny_release ⟨σ, _, I3, q⟩
theorem in_mod : InOp X .Mod (fun x y H Q => ∃ i j, x = .int i ∧ y = .int j ∧ 0 < j ∧ Q (.int (i % j)) H) := by
  rintro pins s σ H x y u v Q I rx ry ⟨i, j, rfl, rfl, hj, q⟩
  obtain ⟨t, rfl⟩ := (show ∃ t, u = Value.int i t from rx)
  obtain ⟨t', rfl⟩ := (show ∃ t', v = Value.int j t' from ry)
  refine AutoIntOps.imod_1 (fun z => by
    have := beq_iff_eq.mp z
    omega) ?_
  rw [Int.fmod_eq_emod_of_nonneg i (by omega)]
  exact ⟨.int (i % j), H, I.tok _, ⟨_, rfl⟩, q⟩
end
end Fw

/-! Fw, part V: sum of a tuple, a tuple backward, tests joined, lines of any kind. -/
namespace Fw
open PySem PySem.Spec PyProof.Rows L2
open He (ga ma)
open Rep (rp)
section
variable {prog : Program} {w : World} {A : Around} {E : Value → Shared → Prop} {s : Shared} {l : Addr} {xs : Array (Int × Tok)}
theorem sum_tupG {Q : Value → Shared → Prop} (hh : A.handled = none) (hl : s.heap.IsTuple l (intItems xs))
    (h : ∀ h' tk t', (∀ b o, s.heap.get? b = some o → h'.get? b = some o) → Q (.int (preSum (numAt xs) xs.size) t') { s with heap := h', toks := tk }) :
    wpAny (model prog w) A (call (.builtin "sum") [.ref l]) Q E s := by
  have hlt : l < s.heap.objs.size := by obtain ⟨_, e, _⟩ := hl; exact Heap.lt_size e
  refine call_sum_walkG (wpAny_pyIter_tuple hl ?_)
  refine ⟨_, _, _, _, _, _, numAt xs, rfl, Walks.tuple (A := A.in1) hh _ l (Nat.ne_of_lt hlt) (intItems xs), ⟨⟨_, Heap.get?_push_size _ rfl, rfl, rfl⟩, hl.push _⟩, fun c hc => ?_, (fun _ _ => intItems_at), fun h' tk t' hk => ?_⟩
  · show c < (s.heap.push _).objs.size
    rw [Heap.size_push]
    rcases List.mem_cons.mp hc with rfl | hc
    · exact Nat.lt_succ_self _
    · rcases List.mem_cons.mp hc with rfl | hc
      · exact Nat.lt_succ_of_lt hlt
      · cases hc
  · have := h h' tk t' (fun b o e => by
      refine hk b o (fun hm => ?_) (Heap.get?_push_of_some _ e)
      rcases List.mem_cons.mp hm with e1 | hm
      · exact absurd (e1 ▸ Heap.lt_size e) (Nat.lt_irrefl _)
      · cases hm)
    simpa [intItems] using this
theorem sum_tup_raw {its : List Value} {ns : List Int} {Q : Value → Shared → Prop} (hh : A.handled = none) (hl : s.heap.IsTuple l its.toArray) (hi : IntsAre its ns)
    (h : ∀ h' tk t', (∀ b o, s.heap.get? b = some o → h'.get? b = some o) → Q (.int ns.sum t') { s with heap := h', toks := tk }) : wpAny (model prog w) A (call (.builtin "sum") [.ref l]) Q E s := by
  obtain ⟨xs, e⟩ := hi.allInts.items
  have hn : numsOf (intItems xs).toList = ns := by rw [← e]; exact hi.numsOf
  rw [nums_intItems] at hn
  rw [e] at hl
  refine sum_tupG hh hl fun h' tk t' hk => ?_
  have := h h' tk t' hk
  rw [preSum_eq, List.take_of_length_le (by simp), hn]; exact this
end
def rSumT (K : Frag) : RC := fun vs H Q => ∃ (a : Addr) (ns : List Int), vs = [V.ref a] ∧ SqT K H a (ns.map V.int) ∧ Q (.int ns.sum) H
theorem cr_sumT {X : Cx} (hc : X.calm = true) : CallR X (.builtin "sum") (rSumT X.K) := by
  intro pins s σ H vs us Q I r h
  obtain ⟨a, ns, rfl, hs, q⟩ := h
  obtain ⟨its, rv, ⟨o, e, hcl, n, hd⟩, _⟩ := I.tuple hs
  rw [Vals.ref1 r]
  exact sum_tup_raw (I.ok.hd hc) ⟨o, e, hcl, n, hd⟩ rv.ints fun h' tk t' hk => ⟨.int _, H, I.kept hk, ⟨_, rfl⟩, q⟩
def rRev3 (K : Frag) : RV := fun x H1 Q => ∃ a x0 x1 x2, x = .ref a ∧ SqT K H1 a [x0, x1, x2] ∧ ∀ p, H1 p = none → Q (.ref p) (upd H1 p (.tup [x2, x1, x0]))
theorem pe_tupRQ {X : Cx} {e : Expr} {te : TE} {K : Frag} (h : PE X e (tTupR K te)) : PE X e (tUn (sqv (rRev3 K)) te) := by
  rw [sqv_eq]
  exact h
section
variable {K : Frag} {F H : Hp} {M : Addr → Prop} {v w : V} {Q : VK}
theorem rd_sum3 {n : N3} (h : rp K F v n) (hF : Same F H) (k : Q (.int (n.e + n.a + n.r)) H) : sqc (rSumT K) [v] H Q := by
  rw [sqc_eq]
  obtain ⟨p, rfl, h1⟩ := h
  refine ⟨p, [n.e, n.a, n.r], rfl, SqT.of (hF _ _ h1), ?_⟩
  rw [show ([n.e, n.a, n.r] : List Int).sum = n.e + n.a + n.r by simp only [List.sum_cons, List.sum_nil]; omega]
  exact k
theorem rd_rev3 {n : N3} (al : Alloc M H) (h : rp K (Fr M H) v n) (k : ∀ u H', Same H H' → rp K (Fr M H') u (⟨n.r, n.a, n.e⟩ : N3) → Q u H') : sqv (rRev3 K) v H Q := by
  rw [sqv_eq]
  obtain ⟨p, rfl, h1⟩ := h
  exact ⟨p, _, _, _, rfl, SqT.of (Fr.sub _ _ h1), fun q hq => k _ _ (Same.new hq) ⟨q, rfl, Fr.new al hq⟩⟩
end
/-! ### a and b as a test: both ways told at once -/
abbrev RT : Type := Bool → Hp → (Bool → Hp → Prop) → Prop
def rAnd (u : TT) (σ : L2.St) : RT := fun c H Q => if c = true then u σ H Q else Q false H
@[irreducible] def sqt (r : RT) : RT := r
theorem sqt_eq (r : RT) : sqt r = r := by
  unfold sqt
  rfl
def tAndQ (t u : TT) : TT := fun σ H Q => t σ H fun c H1 => sqt (rAnd u σ) c H1 Q
theorem pt_andQ {X : Cx} {e : Expr} {t u : TT} (h : PT X e (tAnd t u)) : PT X e (tAndQ t u) := by
  unfold tAndQ
  simp only [sqt_eq]
  exact h
theorem rd_and {c : Bool} {u : TT} {σ : L2.St} {H : Hp} {Q : Bool → Hp → Prop} (R : Bool → Hp → Prop) (h1 : c = true → ∀ Q' : Bool → Hp → Prop, (∀ b H', R b H' → Q' b H') → u σ H Q') (h2 : c = false → R false H) (k : ∀ b H', R b H' → Q b H') : sqt (rAnd u σ) c H Q := by
  rw [sqt_eq]
  cases c with
  | true => exact h1 rfl Q k
  | false => exact k _ _ (h2 rfl)
theorem scal_opt (a b : Option Int) : scal (optV a) (optV b) = true := by
  cases a <;> cases b <;> rfl
/-! ### a line of any kind -/
structure LnA where
  n : N3
instance : Rep LnA := ⟨fun K F v l => ∃ (a : Addr) (k : LK), v = .ref a ∧ LnAt K F a k l.n, fun s h => let ⟨p, k, e, h⟩ := h; ⟨p, k, e, h.same s⟩⟩
section
variable {K : Frag} {F H : Hp} {M : Addr → Prop} {v w : V} {Q : VK}
theorem rd_getA {l : LnA} {gg : N3 → Int} (h : rp K F v l) (hF : Same F H) (k : Q (.int (gg l.n)) H) : sqv (rGet K gg) v H Q := by
  rw [sqv_eq]
  obtain ⟨a, kk, rfl, L⟩ := h
  exact ⟨a, _, _, rfl, L.same hF, k⟩
theorem rp_lnA {l : LnA} (h : rp K F v l) (hF : Same F H) : ∃ a k, v = .ref a ∧ LnAt K H a k l.n := by
  obtain ⟨a, k, rfl, L⟩ := h
  exact ⟨a, k, rfl, L.same hF⟩
theorem lin_any {l : Lin} (h : rp K F v l) : rp K F v (⟨l.n⟩ : LnA) := by
  obtain ⟨a, rfl, L⟩ := h
  exact ⟨a, l.k, rfl, L⟩
theorem lg_pdA {vs : List V} {ls : List LnA} (h : Paired (fun v l => rp K H v l) vs ls) : ∃ (rs : List Addr) (kns : List (LK × N3)), vs = rs.map V.ref ∧ kns.map Prod.snd = ls.map (fun l => l.n) ∧ LgAt K H rs kns := by
  induction h with
  | nil => exact ⟨[], [], rfl, rfl, rfl, fun i r n hr _ => by simp at hr⟩
  | cons h t ih =>
    obtain ⟨rs, kns, e1, e0, e2, e3⟩ := ih
    obtain ⟨r, k, er, hr⟩ := h
    refine ⟨r :: rs, (k, _) :: kns, by rw [List.map_cons, e1, er], by rw [List.map_cons, List.map_cons, e0], by rw [List.length_cons, List.length_cons, e2], fun i r' n' a b => ?_⟩
    cases i with
    | zero => cases a; cases b; exact hr
    | succ i => exact e3 i r' n' (by simpa using a) (by simpa using b)
end
end Fw

/-! Fw, part W: own errors: raised, caught, handed to a def within the except suite. -/
namespace Fw
open PySem PySem.Spec PyProof.Rows L2
open He (ga ma)
/-! ### promises of defs to which a caught error is handed -/
abbrev SpE : Type := Addr → Value → Option Addr → Sp
/-- the pinned object p: an error of the class cls with the dict d -/
structure ErrOf (p : Addr × Obj) (cls : Value) (d : Option Addr) : Prop where
  z : Zc cls d p.2
  f : ∃ vs, p.2.data = .fields vs
structure FnE (P : Program) (w : World) (K : PySem.W.Frag) (mg : Str → Option Value) (base : Heap) (CX : CXT) (k : Nat) (f : Addr) (fd : FuncData) (ps : List Str) (sp : SpE) : Prop where
  count : ∀ a cls d vs H Q E, sp a cls d vs H Q E → vs.length = ps.length
  go : ∀ (A : Around) (outer : List Env) (s : Shared) (H : Hp) (args : Args) (us : List Value) (vs : List V) (Q : VK) (E : XK) (p : Addr × Obj) (cls : Value) (d : Option Addr), L2H.RoomH k A → L2H.PinOk outer H s p → ErrOf p cls d → Env0 P w K mg base A outer s H →
    BindsTo s fd args (ps.zip us) → Vals vs us → sp p.1 cls d vs H Q E → codeAny (model P w) A (.call (.ref f) args) (CR CX outer P w H s Q E) s
section
variable {P : Program} {w : World} {K : PySem.W.Frag} {mg : Str → Option Value} {base : Heap}
theorem Fun.okE {x qual : Str} {st : Stmt} {f : Addr} {fd : FuncData} {N ps : List Str} {k : Nat} {sp : SpE} (F : Fun K x qual st f fd) (S : FnScope N ps (defScope st)) (len : ∀ a cls d vs H Q E, sp a cls d vs H Q E → vs.length = ps.length)
    (body : ∀ (cdv : Value) (A : Around) (outer : List Env) (s : Shared) (H : Hp) (vs : List V) (Q : VK) (E : XK) (p : Addr × Obj) (cls : Value) (d : Option Addr), ErrOf p cls d → L2H.RoomH k (A.deeper (envOfC qual (defScope st) s.heap.objs.size f cdv)) → sp p.1 cls d vs H Q E →
      ∃ t, PSs (L2H.cxH (L2.CX P w) P w K mg base N qual (defScope st) f cdv A outer s H E p) (defBody st) t ∧ t { nx := fun _ H' => Q .non H', rt := Q } (L2.start N vs) H) : FnE P w K mg base (L2.CX P w) (k + 1) f fd ps sp := by
  obtain ⟨oc, od, kV, doc, pm, an, cdv, ct, osl, rfl, lk, hcd⟩ := F.ex
  constructor
  · exact len
  intro A outer s H args us vs Q E p cls d room pin err e0 bound rv want
  have up : ∀ {b : Addr} {o : Obj}, base.get? b = some o → s.heap.get? b = some o := fun {b o} e => (e0.bs b o e).1
  have inK : K.In s.heap := e0.mod.kin.keeps fun b o e => up e
  have free : s.heap.NoLimit := e0.mod.nolimit.keeps fun b o e => up e
  obtain ⟨t, ht, hq⟩ := body cdv A outer s H vs Q E p cls d err (room.deeper _) want
  apply codeAny_call_function room.depth (inK _ _ lk) rfl S.co S.gen rfl (PySem.W.codeRec_of inK hcd) (bound _ _ _ _ ?rest)
  apply wpAny_newFunctionEnv_cells S.kind
  · intro y hy
    obtain ⟨n, v⟩ := y
    cases S.par n (List.of_mem_zip hy).1 with
    | inl q => exact .inl q
    | inr q => exact .inr ⟨q, PySem.W.cellsFrom_some _ _ _ (.inl q)⟩
  intro env ee s1 inC
  subst ee
  refine ⟨free.keeps inC.toInCall.keep, codeAny_func ?_⟩
  have J : Inv (L2H.cxH (L2.CX P w) P w K mg base N qual (defScope st) f cdv A outer s H E p) [] (L2.start N vs) H s1 := L2H.inv_startH S pin e0 (len _ _ _ _ _ _ _ want) rv inC
  have close : ∀ {s' : Shared} {τ : L2.St} {H' : Hp} {v : V} {u : Value}, Inv (L2H.cxH (L2.CX P w) P w K mg base N qual (defScope st) f cdv A outer s H E p) [] τ H' s' → RelV v u → Q v H' → CE outer P w H s Q u s' := fun i rr qq => ⟨_, _, i.os, i.bare, i.base, i.hok, rr, qq⟩
  refine wpAny_mono (ht.run [] s1 _ H _ J hq) ?_ fun _ _ z => z
  intro fl s' z
  match fl, z with
  | .ret _, ⟨_, _, _, i, rr, qq⟩ => exact close i rr qq
  | .next, ⟨_, _, i, qq⟩ => exact close (v := V.non) (u := Value.none) i rfl qq
  | .brk, ⟨_, _, _, no⟩ => exact False.elim no
  | .cont, ⟨_, _, _, no⟩ => exact False.elim no
end
section
variable {X : Cx} {CX : CXT} {k : Nat} {f : Addr} {fd : FuncData} {ps : List Str} {sp : SpE} {E : XK} {x : Str} {p pos : Pos} {e : Expr} {es : List Expr} {t : TA}
/-- what the context of an except suite bears -/
structure Has (X : Cx) (a : Addr) (cls : Value) (d : Option Addr) : Prop where
  ex : ∃ oe, (a, oe) ∈ X.pn ∧ ErrOf (a, oe) cls d
theorem Has.suite {X : Cx} {a : Addr} {oe : Obj} {cls : Value} {d : Option Addr} {pn : List (Addr × Obj)} (z : Zc cls d oe) (f : ∃ vs, oe.data = .fields vs) : Has (X.suite a ((a, oe) :: pn)) a cls d := ⟨oe, List.mem_cons_self, z, f⟩
theorem Has.pin {CX : CXT} {P : Program} {w : World} {K : PySem.W.Frag} {mg : Str → Option Value} {base : Heap} {N : List Str} {qual : Str} {scope : Scope} {f : Addr} {cd : Value} {A : Around} {outer : List Env} {s : Shared} {H : Hp} {E : XK} {p : Addr × Obj} {cls : Value} {d : Option Addr} (e : ErrOf p cls d) : Has (L2H.cxH CX P w K mg base N qual scope f cd A outer s H E p) p.1 cls d := ⟨p.2, List.mem_cons_self, e⟩
/-- g(e) within an except suite -/
theorem pe_callE {a : Addr} {cls : Value} {d : Option Addr} (F : FnE X.prog X.w X.K X.mg X.base CX k f fd ps sp) (hr : L2H.RoomH k X.A) (hc : Has X a cls d) (hgl : Gl X x) (hm : X.mg x = some (.ref f)) (hk : PySem.W.keepIn X.K (.ref f) = true) (hb : Binds X.K fd ps []) (hx : Passes CX X E)
    (ha : PA X (e :: es) t) (hdb : (x == ("__debug__" : Str)) = false := by decide) (he : starEach (e :: es) X.env = (false, eval e X.env) :: starEach es X.env := by rfl) (hpl : (backTo pos (starEach es X.env)).any (fun q => q.1) = false := by rfl) :
    PE X (.Call (.Name x p) (e :: es) [] pos) (tCall (sp a cls d) [] E t) := by
  constructor
  intro pins s σ H Q I h
  apply wpAny_Call_Name_kw
  apply ld_glob I hgl hm _ hdb
  apply PySem.W.callWith_K (h₀ := X.base) I.ok.mod.kin hk _ he hpl
  refine thn (ha.run pos pins s σ H _ I h) fun us s1 ⟨vs, H1, I1, r, q⟩ => ⟨I1.kIn, ?_⟩
  have q : sp a cls d (vs ++ []) H1 Q E := q
  rw [List.append_nil] at q
  have len : us.length = ps.length := by rw [← r.length]; exact F.count _ _ _ _ _ _ _ q
  obtain ⟨oe, hp, err⟩ := hc.ex
  have P1 := I1.pin (a, oe) (List.mem_append_left _ hp)
  have pin : L2H.PinOk X.stack H1 s1 (a, oe) := ⟨P1.1, P1.2.1, fun m => (List.mem_cons.mp (I1.stkSub _ m)).elim P1.2.2.1 P1.2.2.2.1, P1.2.2.2.2⟩
  refine wpAny_call (codeAny_mono (F.go X.A X.stack s1 H1 ⟨us, []⟩ us vs Q E (a, oe) cls d hr pin err I1.env0 (by have b := hb s1 us I1.kIn (by rw [List.append_nil]; exact len); rw [List.append_nil] at b; exact b) r q) fun z s' q => ?_)
  match z, q with
  | .error e, q => exact hx pins σ H1 s1 e s' I1 q
  | .ok (.ret u), q => exact I1.after q
end
/-! ### isinstance of the error in hand -/
section
variable {X : Cx} {a D : Addr}
theorem Has.inst {pins : List (Addr × Obj)} {σ : L2.St} {H : Hp} {s : Shared} (h : Has X a (.ref D) none) (I : Inv X pins σ H s) : ∃ oe, PySem.W.InstAt s.heap a oe D none := by
  obtain ⟨oe, hp, z, f⟩ := h.ex
  have g := (I.pin (a, oe) (List.mem_append_left _ hp)).1
  obtain ⟨vs, hv⟩ := f
  cases oe with
  | mk c1 c2 c3 c4 =>
    have z1 : c1 = .ref D := z.1
    have z2 : c2 = none := z.2
    have z3 : c3 = .fields vs := hv
    subst z1
    subst z2
    subst z3
    exact ⟨_, g, rfl, rfl, trivial⟩
/-- isinstance(e, C) -/
theorem call_isEr (C : ExcC X.K D) (h : Has X a (.ref D) none) : CallR X (.builtin "isinstance") (rIsE X.K D a) := by
  intro pins s σ H xs us Q I r q
  obtain ⟨c, cv, b, rfl, only, e, q⟩ := q
  obtain ⟨u1, u2, rfl, r1, r2⟩ := vals2 r
  cases (show u1 = Value.ref a from r1)
  have isc := only u2 r2
  subst isc
  obtain ⟨oe, J⟩ := h.inst I
  exact PySem.W.kia_one (PySem.W.handS_kitx_exc C.hg C.hk C.hs C.hd C.ha C.hn C.ht C.hm) I.kIn J e (fun z => nomatch z) fun tk => ⟨.bl b, H, I.tok tk, rfl, q⟩
/-- isinstance(e, (C, ..)) -/
def rIsET (K : Frag) (D a : Addr) : List V → Hp → VK → Prop := fun xs H Q => ∃ (t : Addr) (zs : List V) (ws : List Value) (b : Bool), xs = [.ref a, .ref t] ∧ H t = some (.tup zs) ∧ Paired ClsV zs ws ∧ PySem.W.kitAny K (.ref D) ws = some b ∧ Q (.bl b) H
theorem call_isErT (C : ExcC X.K D) (h : Has X a (.ref D) none) : CallR X (.builtin "isinstance") (rIsET X.K D a) := by
  intro pins s σ H xs us Q I r q
  obtain ⟨t, zs, ws, b, rfl, hT, k, e, q⟩ := q
  obtain ⟨u1, u2, rfl, r1, r2⟩ := vals2 r
  cases (show u1 = Value.ref a from r1)
  cases (show u2 = Value.ref t from r2)
  have ot : ObjOk X.prog X.w H s.heap t (.tup zs) := I.hok t (.tup zs) hT
  obtain ⟨_, ys, vals, o, g1, g2, m, g3⟩ := ot
  have same := ClsV.all k vals
  subst same
  cases o with
  | mk c1 c2 c3 c4 =>
    dsimp only at g2 g3
    subst g2
    subst g3
    obtain ⟨oe, J⟩ := h.inst I
    exact PySem.W.kia_tup (PySem.W.handS_kitx_exc C.hg C.hk C.hs C.hd C.ha C.hn C.ht C.hm) I.kIn J g1 e (fun z => nomatch z) fun tk => ⟨.bl b, H, I.tok tk, rfl, q⟩
end
/-! ### errors that leave a call within a try -/
section
variable {X : Cx} {W : WX}
/-- what the try wishes of an error, at any slots -/
def EW (n : Nat) (W : WX) : XK := fun cls d H => ∀ σ : L2.St, σ.length = n → W cls d σ H
theorem passW {n : Nat} (hn : X.N.length = n) (tk : L2.Takes X W) : Passes (L2.CX X.prog X.w) X (EW n W) := fun pins σ H s e s' I c => by
  obtain ⟨a, B, H', cls, d, c1, c2, c3, c4, c5, c6, c7, c8⟩ := c
  exact passAt tk σ pins H s e s' I ⟨a, B, H', cls, d, c1, c2, c3, c4, c5, c6, c7, c8 σ (I.len.trans hn)⟩
end
theorem slot_set {σ : L2.St} {n i : Nat} (h : σ.length = n) (hi : i < n) (v : V) : (σ.set i (some v))[i]? = some (some v) := by
  rw [List.getElem?_set_self (by omega)]
/-! ### facts of an own error -/
abbrev excTail0 : List Value := [.type "ValueError", .type "Exception", .type "BaseException", .type "object"]
structure ErrF (K : Frag) (C : Addr) : Prop where
  x : PySem.W.excIn K C excTail0 "ValueError.__new__" = true
  k : PySem.W.keepIn K (.ref C) = true
  b : PySem.W.subIn K (.ref C) (.type "BaseException") = some true
  t : PySem.W.typeIn K (.ref C) = some (.type "type")
  c : ExcC K C
def cErr (x : Str) : Ck := fun K => PySem.W.excIn K (ga K x) excTail0 "ValueError.__new__" && (PySem.W.keepIn K (.ref (ga K x)) && (decide (PySem.W.subIn K (.ref (ga K x)) (.type "BaseException") = some true) && (decide (PySem.W.typeIn K (.ref (ga K x)) = some (.type "type")) &&
  (decide (PySem.W.findIn K (.ref (ga K x)) "__getattribute__" = some (some (.builtin "BaseException.__getattribute__"))) && (decide (PySem.W.findIn K (.ref (ga K x)) "__getattr__" = some none) && (PySem.W.hasDictIn K (ga K x) &&
  (decide (PySem.W.findIn K (.ref (ga K x)) "__class__" = some (some (.builtin "object.__class__"))) && (decide (PySem.W.specialIn K (.builtin "object.__class__") "__get__" = some (some (.builtin "getset_descriptor.__get__"))) &&
  (decide (PySem.W.takesIn K (.builtin "object.__class__") = some true) && decide (PySem.W.mroIn K (ga K x) (.type "object") = some true))))))))))
theorem err_of {K : Frag} {x : Str} (c : cErr x K = true) : ErrF K (ga K x) := by
  unfold cErr at c
  simp only [Bool.and_eq_true, decide_eq_true_eq] at c
  obtain ⟨c1, c2, c3, c4, c5, c6, c7, c8, c9, c10, c11⟩ := c
  exact ⟨c1, c2, c3, c4, ⟨c5, c6, c3, c7, c8, c9, c10, c11⟩⟩
/-- the clause of the class y, an error of the class x -/
def cExm (x y : Str) (b : Bool) : Ck := fun K => decide (PySem.W.exmOne K (.ref (ga K x)) (.ref (ga K y)) = some b)
theorem exm_of2 {K : Frag} {x y : Str} {b : Bool} (c : cExm x y b K = true) : PySem.W.exmOne K (.ref (ga K x)) (.ref (ga K y)) = some b := of_decide_eq_true c
def cKitT (x : Str) (T : String) (b : Bool) : Ck := fun K => decide (PySem.W.kitOne K (.ref (ga K x)) (.type T) = some b)
theorem kitT_of {K : Frag} {x : Str} {T : String} {b : Bool} (c : cKitT x T b K = true) : PySem.W.kitOne K (.ref (ga K x)) (.type T) = some b := of_decide_eq_true c
def cKitA (x : Str) (ys : List Str) (b : Bool) : Ck := fun K => decide (PySem.W.kitAny K (.ref (ga K x)) (ys.map fun y => Value.ref (ga K y)) = some b)
theorem kitA_of {K : Frag} {x : Str} {ys : List Str} {b : Bool} (c : cKitA x ys b K = true) : PySem.W.kitAny K (.ref (ga K x)) (ys.map fun y => Value.ref (ga K y)) = some b := of_decide_eq_true c
theorem own_all {K : Frag} : ∀ ys : List Str, Paired ClsV (ys.map fun y => V.ref (ga K y)) (ys.map fun y => Value.ref (ga K y))
  | [] => .nil
  | _ :: r => .cons (.own _) (own_all r)
section
open Rep (rp)
variable {K : Frag} {F H : Hp} {M : Addr → Prop} {v w : V} {Q : VK}
/-- two tuples of three, one behind the other -/
theorem rd_catN {n m : N3} (al : Alloc M H) (h : rp K (Fr M H) v n) (g : rp K (Fr M H) w m) (k : ∀ u H', Same H H' → rp K (Fr M H') u (⟨[n.e, n.a, n.r, m.e, m.a, m.r]⟩ : Tup Int) → Q u H') : sq2 (rCatT K) v w H Q := by
  rw [sq2_eq]
  obtain ⟨a, rfl, h1⟩ := h
  obtain ⟨b, rfl, g1⟩ := g
  exact ⟨a, b, _, _, rfl, rfl, SqT.of (Fr.sub _ _ h1), SqT.of (Fr.sub _ _ g1), (fun z => nomatch z), (by show 3 + 3 ≤ sizeLine; decide), (fun z => nomatch z), fun _ p hp => k _ _ (Same.new hp) ⟨p, _, rfl, Fr.new al hp, pd_ofInts [n.e, n.a, n.r, m.e, m.a, m.r]⟩⟩
theorem rd_listT {xs : List Int} (al : Alloc M H) (h : rp K (Fr M H) v (⟨xs⟩ : Tup Int)) (k : ∀ v H', Same H H' → rp K (Fr M H') v xs → Q v H') : sqc (fun xs H Q => ∃ p ys, xs = [V.ref p] ∧ (SqL K H p ys ∨ SqT K H p ys) ∧ ∀ l, H l = none → Q (.ref l) (upd H l (.lst ys))) [v] H Q := by
  rw [sqc_eq]
  obtain ⟨p, vs, rfl, h1, h2⟩ := h
  exact ⟨p, vs, rfl, .inr (SqT.of (Fr.sub _ _ h1)), fun r hr => k _ _ (Same.new hr) ⟨r, _, rfl, Fr.new al hr, L2.Paired.mapP h2 fun _ _ q => Rep.up (Fr.same (Same.new hr)) q⟩⟩
end
end Fw

/-! Fw, part X: readings over data where a tank or a feed is drawn from. -/
namespace Fw
open PySem PySem.Spec PyProof.Rows L2
open He (ga ma)
open Rep (rp)
/-! ### the tank -/
section
variable {K : Frag} {H H' : Hp} {D a tc : Addr} {N : Nat} {M : Addr → Prop}
theorem Tk.alloc (h : Tk a tc N H) : Alloc (tkM a tc) H := fun p m => by
  obtain ⟨ds, x, n, e1, e2, _⟩ := h
  rcases m with e | e
  · exact ⟨.lst _, by rw [e]; exact e1, trivial⟩
  · exact ⟨.lst _, by rw [e]; exact e2, trivial⟩
theorem Tk.app (t : Tk a tc N H) (x : Ext (Ad D (fun _ => False)) H H') (n : ¬ tkM a tc D) : Tk a tc N H' := by
  obtain ⟨ds, m, k, e1, e2, r⟩ := t
  have na : ¬ Ad D (fun _ => False) a := fun z => z.elim (fun e => n (.inl e.symm)) fun z => z
  have nc : ¬ Ad D (fun _ => False) tc := fun z => z.elim (fun e => n (.inr e.symm)) fun z => z
  exact ⟨ds, m, k, x _ _ na e1, x _ _ nc e2, r⟩
theorem Tk.draw (al : Alloc M H) (x : Ext (tkM a tc) H H') (t : Tk a tc N H') : Alloc M H' := fun p m => by
  by_cases z : tkM a tc p
  · exact t.alloc p z
  · obtain ⟨xs, e, hz9⟩ := al p m
    exact ⟨xs, x p _ z e, hz9⟩
theorem Tk.upd {o : HO} (t : Tk a tc N H) (n : ¬ tkM a tc D) : Tk a tc N (upd H D o) := by
  obtain ⟨ds, m, k, e1, e2, r⟩ := t
  exact ⟨ds, m, k, by rw [upd_ne (fun z => n (.inl z.symm))]; exact e1, by rw [upd_ne (fun z => n (.inr z.symm))]; exact e2, r⟩
end
/-! ### the feed, 128 counts a draw -/
def Fq (a : Addr) (N : Nat) (H : Hp) : Prop := Fd a (128 * N) H
section
variable {K : Frag} {H H' : Hp} {D a : Addr} {N N' : Nat} {M : Addr → Prop}
theorem Fq.less (h : Fq a N H) (l : N' ≤ N) : Fq a N' H := Fd.less h (Nat.mul_le_mul_left 128 l)
theorem Fq.same (h : Fq a N H) (s : Same H H') : Fq a N H' := Fd.same h s
theorem Fq.fresh {p : Addr} (h : Fq a N H) (e : H p = none) : ¬ fdM a p := Fd.fresh h e
theorem Fq.out {p : Addr} {o : HO} (h : Fq a N H) (e : H p = some o) (d : ∀ xs, o ≠ .lst xs) : ¬ fdM a p := Fd.out h e d
theorem Fq.pick (h : Fq a (N + 1) H) : Fd a (128 * N + 128) H := h
theorem Fq.alloc (h : Fq a N H) : Alloc (fdM a) H := fun p m => by
  obtain ⟨d, m2, n, e, _⟩ := h
  rw [show p = a from m, e]
  exact ⟨_, rfl, trivial⟩
theorem Fq.app (t : Fq a N H) (x : Ext (Ad D (fun _ => False)) H H') (n : ¬ fdM a D) : Fq a N H' := by
  obtain ⟨d, m, n2, h1, h2⟩ := t
  exact ⟨d, m, n2, x _ _ (fun z => z.elim (fun e => n e.symm) (fun z => z)) h1, h2⟩
theorem Fq.draw (al : Alloc M H) (x : Ext (fdM a) H H') (t : Fq a N H') : Alloc M H' := fun p m => by
  by_cases z : fdM a p
  · exact t.alloc p z
  · obtain ⟨xs, e, hz9⟩ := al p m
    exact ⟨xs, x p _ z e, hz9⟩
theorem Fq.upd {o : HO} (t : Fq a N H) (n : ¬ fdM a D) : Fq a N (upd H D o) := by
  obtain ⟨d, m, n2, h1, h2⟩ := t
  exact ⟨d, m, n2, by rw [upd_ne fun z => n z.symm]; exact h1, h2⟩
end
/-! ### comprehensions that draw -/
section
variable {K : Frag} {H1 : Hp} {α β : Type} [Rep α] [Rep β] {J : It} {Q : Addr → Hp → Prop} {g : TG} {tt : TT} {te : TE} {vs : List Nat} {σ : L2.St}
theorem lc_gen {M0 : Addr → Prop} {P : Nat → Hp → Prop} (pal : ∀ N H, P N H → Alloc M0 H) (psame : ∀ N H H', P N H → Same H H' → P N H') (pupd : ∀ N H D o, ¬ M0 D → P N H → P N (upd H D o)) {c N : Nat} {xs : List α} (p : α → Bool) (f : α → β) (T : TW K M0 H1 J xs) (hT : P (N + c * xs.length) H1) (hz : xs.length ≤ 1000000)
    (step : ∀ (i : Nat) (x : α) (u : V) (H : Hp) (M' : Addr → Prop) (C : V → Hp → Prop) (C0 : Hp → Prop), xs[i]? = some x → Same (Fr M0 H1) (Fr M' H) → Alloc M' H → (∀ b, M0 b → M' b) → Ext M0 H1 H → P (N + c * (xs.length - (i + 1)) + c) H → rp K (Fr M' H) u x →
      (p x = true → ∀ w H4, Ext M0 H H4 → P (N + c * (xs.length - (i + 1))) H4 → rp K (Fr M' H4) w (f x) → C w H4) → (p x = false → ∀ H4, Ext M0 H H4 → P (N + c * (xs.length - (i + 1))) H4 → C0 H4) → g u (wipe σ vs) H fun σ2 H2 => wipe σ2 vs = wipe σ vs ∧ tt σ2 H2 fun b H3 => if b = true then te σ2 H3 C else C0 H3)
    (k : ∀ D H', Ext M0 H1 H' → P N H' → rp K (Fr M0 H') (.ref D) ((xs.filter p).map f) → Q D H') : ∀ D, H1 D = none → LcW J H1 g tt te vs σ D (Q D) := by
  obtain ⟨G, Y, wk, hG, hY⟩ := T.ex
  refine lc_rep (M0 := M0) (I := fun i H => P (N + c * (xs.length - i)) H) wk (fun i => ((xs.take i).filter p).map f) rfl (pal _ _ hT) hG hz (fun _ z => z) hT (fun i H D o n t => pupd _ _ _ _ n t) (fun _ _ t => pal _ _ t) ?_ (fun D H' x i _ r => k D H' x (by rw [Nat.sub_self] at i; exact i) (by rw [List.take_of_length_le (Nat.le_refl _)] at r; exact r))
  rintro i x H H' M' C C0 hi s6 a7 hm s4 t7 y7 hC hC0
  obtain ⟨z, hz2, s8, rz⟩ := hY i x H H' M' hi s6 a7 y7
  have e : ∀ b, p z = b → ((xs.take (i + 1)).filter p).map f = ((xs.take i).filter p).map f ++ (if b = true then [f z] else []) := fun b hb => by
    rw [List.take_add_one, hz2]
    show (((xs.take i) ++ [z]).filter p).map f = _
    rw [List.filter_append, List.map_append]
    congr 1
    cases b with
    | true => rw [List.filter_cons_of_pos hb, List.filter_nil]; rfl
    | false => rw [List.filter_cons_of_neg (by rw [hb]; exact Bool.false_ne_true), List.filter_nil]; rfl
  have t8 : P (N + c * (xs.length - (i + 1)) + c) H' := by
    have q := psame _ _ _ t7 s8
    have e2 : N + c * (xs.length - i) = N + c * (xs.length - (i + 1)) + c := by
      rw [show xs.length - i = (xs.length - (i + 1)) + 1 by omega, Nat.mul_add, Nat.mul_one]
      omega
    rw [e2] at q
    exact q
  refine step i z x H' M' C C0 hz2 (s6.trans (Fr.same s8)) (a7.same s8) hm (s4.trans (Ext.same s8)) t8 rz (fun hp w H4 s t r => hC w (f z) H4 ((Ext.same s8).trans s) t (e true hp) r) fun hp H4 s t => hC0 H4 ((Ext.same s8).trans s) t (by rw [e false hp]; exact List.append_nil _)
theorem lc_feed {a : Addr} {c N : Nat} {xs : List α} (p : α → Bool) (f : α → β) (T : TW K (fdM a) H1 J xs) (hT : Fq a (N + c * xs.length) H1) (hz : xs.length ≤ 1000000)
    (step : ∀ (i : Nat) (x : α) (u : V) (H : Hp) (M' : Addr → Prop) (C : V → Hp → Prop) (C0 : Hp → Prop), xs[i]? = some x → Same (Fr (fdM a) H1) (Fr M' H) → Alloc M' H → (∀ b, fdM a b → M' b) → Ext (fdM a) H1 H → Fq a (N + c * (xs.length - (i + 1)) + c) H → rp K (Fr M' H) u x →
      (p x = true → ∀ w H4, Ext (fdM a) H H4 → Fq a (N + c * (xs.length - (i + 1))) H4 → rp K (Fr M' H4) w (f x) → C w H4) → (p x = false → ∀ H4, Ext (fdM a) H H4 → Fq a (N + c * (xs.length - (i + 1))) H4 → C0 H4) → g u (wipe σ vs) H fun σ2 H2 => wipe σ2 vs = wipe σ vs ∧ tt σ2 H2 fun b H3 => if b = true then te σ2 H3 C else C0 H3)
    (k : ∀ D H', Ext (fdM a) H1 H' → Fq a N H' → rp K (Fr (fdM a) H') (.ref D) ((xs.filter p).map f) → Q D H') : ∀ D, H1 D = none → LcW J H1 g tt te vs σ D (Q D) :=
  lc_gen (P := fun N H => Fq a N H) (fun _ _ t => t.alloc) (fun _ _ _ t s => t.same s) (fun _ _ _ _ n t => t.upd n) p f T hT hz step k
theorem lc_tank {a tc : Addr} {c N : Nat} {xs : List α} (p : α → Bool) (f : α → β) (T : TW K (tkM a tc) H1 J xs) (hT : Tk a tc (N + c * xs.length) H1) (hz : xs.length ≤ 1000000)
    (step : ∀ (i : Nat) (x : α) (u : V) (H : Hp) (M' : Addr → Prop) (C : V → Hp → Prop) (C0 : Hp → Prop), xs[i]? = some x → Same (Fr (tkM a tc) H1) (Fr M' H) → Alloc M' H → (∀ b, tkM a tc b → M' b) → Ext (tkM a tc) H1 H → Tk a tc (N + c * (xs.length - (i + 1)) + c) H → rp K (Fr M' H) u x →
      (p x = true → ∀ w H4, Ext (tkM a tc) H H4 → Tk a tc (N + c * (xs.length - (i + 1))) H4 → rp K (Fr M' H4) w (f x) → C w H4) → (p x = false → ∀ H4, Ext (tkM a tc) H H4 → Tk a tc (N + c * (xs.length - (i + 1))) H4 → C0 H4) → g u (wipe σ vs) H fun σ2 H2 => wipe σ2 vs = wipe σ vs ∧ tt σ2 H2 fun b H3 => if b = true then te σ2 H3 C else C0 H3)
    (k : ∀ D H', Ext (tkM a tc) H1 H' → Tk a tc N H' → rp K (Fr (tkM a tc) H') (.ref D) ((xs.filter p).map f) → Q D H') : ∀ D, H1 D = none → LcW J H1 g tt te vs σ D (Q D) :=
  lc_gen (P := fun N H => Tk a tc N H) (fun _ _ t => t.alloc) (fun _ _ _ t s => t.same s) (fun _ _ _ _ n t => t.upd n) p f T hT hz step k
end
/-! ### routes by their legs -/
section
variable {K : Frag} {F H : Hp} {M : Addr → Prop} {v w : V} {Q : VK}
theorem rou_at {r : Rou} (h : rp K F v r) (hF : Same F H) : ∃ a dx l, v = .ref a ∧ H a = some (.ins (ga K "Route") dx (putF "held_legs" (.ref l) [])) ∧ rp K F (.ref l) (r.l.map fun kn => (⟨kn.1, kn.2⟩ : Lin)) := by
  obtain ⟨a, rfl, dx, l, rs, e1, e2, hL⟩ := h
  exact ⟨a, dx, l, rfl, hF _ _ e1, lines_rp e2 hL⟩
/-- xs[::-1] -/
def rRevL (K : Frag) : RV := fun x H1 Q => ∃ a xs, x = .ref a ∧ SqL K H1 a xs ∧ ∀ p, H1 p = none → Q (.ref p) (upd H1 p (.lst xs.reverse))
theorem pe_revLQ {X : Cx} {e : Expr} {te : TE} {K : Frag} (h : PE X e (tRevL K te)) : PE X e (tUn (sqv (rRevL K)) te) := by
  rw [sqv_eq]
  exact h
theorem rd_revL {α : Type} [Rep α] {xs : List α} (al : Alloc M H) (h : rp K (Fr M H) v xs) (k : ∀ u H', Same H H' → rp K (Fr M H') u xs.reverse → Q u H') : sqv (rRevL K) v H Q := by
  rw [sqv_eq]
  obtain ⟨p, vs, rfl, h1, h2⟩ := h
  exact ⟨p, vs, rfl, SqL.of (Fr.sub _ _ h1), fun q hq => k _ _ (Same.new hq) ⟨q, _, rfl, Fr.new al hq, pd_rev (L2.Paired.mapP h2 fun _ _ z => Rep.up (Fr.same (Same.new hq)) z)⟩⟩
/-- C(*xs) -/
def rStar (K : Frag) (C : Addr) (sp : Sp) (E : XK) : RV := fun z H1 Q => ∃ a xs, z = V.ref a ∧ (SqT K H1 a xs ∨ SqL K H1 a xs) ∧ ∀ x dx, H1 x = none → H1 dx = none → dx ≠ x → sp (V.ref x :: xs) (upd (upd H1 dx (.own x)) x (.ins C dx [])) (fun v H2 => v = .non ∧ Q (.ref x) H2) E
def tStar (K : Frag) (C : Addr) (sp : Sp) (E : XK) (tf te : TE) : TE := fun σ H Q => tf σ H fun y H0 => y = V.ref C ∧ te σ H0 fun z H1 => sqv (rStar K C sp E) z H1 Q
theorem pe_starQ {X : Cx} {e : Expr} {C : Addr} {sp : Sp} {E : XK} {tf te : TE} {K : Frag} (h : PE X e (tMakeS K C sp E tf te)) : PE X e (tStar K C sp E tf te) := by
  unfold tStar
  simp only [sqv_eq]
  exact h
/-! ### lines by their kinds -/
theorem rp_lin {l : Lin} (h : rp K F v l) (hF : Same F H) : ∃ a, v = .ref a ∧ LnAt K H a l.k l.n := rp_line h hF
end
end Fw

/-! Fw, part Y: a line's kind and numbers as a list; comprehensions whose items are not told ahead. -/
namespace Fw
open PySem PySem.Spec PyProof.Rows L2
open He (ga ma)
open Rep (rp)
/-- kind, headway, departure and ride as a list -/
structure Num where
  k : LK
  n : N3
instance : Rep Num := ⟨fun _ F v x => ∃ p : Addr, v = .ref p ∧ L4 F p x.k x.n, fun s h => let ⟨p, e, h⟩ := h; ⟨p, e, s _ _ h⟩⟩
section
variable {K : Frag} {F H H1 : Hp} {M : Addr → Prop} {v w : V} {Q : VK}
theorem rd_q0 {x : Num} (h : rp K F v x) (hF : Same F H) (k : Q (.str (kn x.k)) H) : sq2 (rIxL K) v (.int 0) H Q := by
  rw [sq2_eq]
  obtain ⟨p, rfl, h1⟩ := h
  exact ⟨p, _, 0, _, rfl, rfl, SqL.of (hF _ _ h1), at0, k⟩
theorem rd_q1 {x : Num} (h : rp K F v x) (hF : Same F H) (k : Q (.int x.n.e) H) : sq2 (rIxL K) v (.int 1) H Q := by
  rw [sq2_eq]
  obtain ⟨p, rfl, h1⟩ := h
  exact ⟨p, _, 1, _, rfl, rfl, SqL.of (hF _ _ h1), atI_nat (j := 1) rfl, k⟩
theorem rd_q2 {x : Num} (h : rp K F v x) (hF : Same F H) (k : Q (.int x.n.a) H) : sq2 (rIxL K) v (.int 2) H Q := by
  rw [sq2_eq]
  obtain ⟨p, rfl, h1⟩ := h
  exact ⟨p, _, 2, _, rfl, rfl, SqL.of (hF _ _ h1), atI_nat (j := 2) rfl, k⟩
theorem rd_q3 {x : Num} (h : rp K F v x) (hF : Same F H) (k : Q (.int x.n.r) H) : sq2 (rIxL K) v (.int 3) H Q := by
  rw [sq2_eq]
  obtain ⟨p, rfl, h1⟩ := h
  exact ⟨p, _, 3, _, rfl, rfl, SqL.of (hF _ _ h1), atI_nat (j := 3) rfl, k⟩
/-- kind, wide, begin, long = numbers -/
theorem rd_un4 {x : Num} {i j l m : Nat} {σ : L2.St} {R : L2.St → Hp → Prop} (h : rp K F v x) (hF : Same F H) (k : R ((((σ.set i (some (.str (kn x.k)))).set j (some (.int x.n.e))).set l (some (.int x.n.a))).set m (some (.int x.n.r))) H) :
    gLst K 4 (gCons (gName i) (gCons (gName j) (gCons (gName l) (gCons (gName m) gNil)))) v σ H R := by
  obtain ⟨p, rfl, h1⟩ := h
  exact ⟨p, _, rfl, SqL.of (hF _ _ h1), rfl, _, _, rfl, _, _, rfl, _, _, rfl, _, _, rfl, rfl, k⟩
/-- numbers[1:] -/
theorem rd_qsl {x : Num} (al : Alloc M H) (h : rp K (Fr M H) v x) (k : ∀ v H', Same H H' → rp K (Fr M H') v [x.n.e, x.n.a, x.n.r] → Q v H') : sqs (rSlL K) v (some 1) none H Q := by
  rw [sqs_eq]
  obtain ⟨p, rfl, h1⟩ := h
  exact ⟨p, _, rfl, SqL.of (Fr.sub _ _ h1), fun r hr => k _ _ (Same.new hr) ⟨r, _, rfl, Fr.new al hr, pd_ofInts [x.n.e, x.n.a, x.n.r]⟩⟩
/-- tuple(xs) of three ints -/
theorem rd_tupL3 {a b c : Int} (al : Alloc M H) (h : rp K (Fr M H) v [a, b, c]) (k : ∀ v H', Same H H' → rp K (Fr M H') v (⟨a, b, c⟩ : N3) → Q v H') :
    sqc (fun xs H Q => ∃ p ys, xs = [V.ref p] ∧ ((SqL K H p ys ∧ ∀ l, H l = none → Q (.ref l) (upd H l (.tup ys))) ∨ (SqT K H p ys ∧ Q (.ref p) H))) [v] H Q := by
  rw [sqc_eq]
  obtain ⟨p, vs, rfl, h1, h2⟩ := h
  obtain rfl : vs = [V.int a, V.int b, V.int c] := by
    cases h2 with
    | cons x1 h2 =>
      cases h2 with
      | cons x2 h2 =>
        cases h2 with
        | cons x3 h2 =>
          cases h2
          obtain rfl : _ = V.int a := x1
          obtain rfl : _ = V.int b := x2
          obtain rfl : _ = V.int c := x3
          rfl
  exact ⟨p, _, rfl, .inl ⟨SqL.of (Fr.sub _ _ h1), fun r hr => k _ _ (Same.new hr) ⟨r, rfl, Fr.new al hr⟩⟩⟩
theorem num_rp {p : Addr} {k : LK} {n : N3} (h : L4 H p k n) (nM : ¬ M p) : rp K (Fr M H) (.ref p) (⟨k, n⟩ : Num) := ⟨p, rfl, Fr.get nM h⟩
end
/-! ### o.m(k = v, ..) of an own class -/
section
variable {X : Cx} {k0 : Nat} {C f : Addr} {fd : FuncData} {ps ks : List Str} {sp : Sp} {E : XK} {m : Str} {pos apos : Pos} {o fe : Expr} {kws : List Keyword} {ta tf : TE} {tk : TA} {g : List Value → List Value → List Value} {gV : List V → List V → List V}
def tMethN (C : Addr) (m : Str) (n : Nat) (gV : List V → List V → List V) (sp : Sp) (E : XK) (ta : TE) (tk : TA) : TE := fun σ H Q => ta σ H fun x H1 => ∃ a dx fs, x = .ref a ∧ H1 a = some (.ins C dx fs) ∧ fs.lookup m = none ∧ tk σ H1 fun zs H2 => zs.length = n ∧ sp (gV [.ref a] zs) H2 Q E
theorem pe_methK {pl : Sem Bool} (he : PE X o ta) (c : Cls X.K C) (hm : Meth X.K C m f) (F : FnOk X.prog X.w X.K X.mg X.base (L2.CX X.prog X.w) k0 f fd ps sp) (hr : Room k0 X.A) (hb : KBn X.K fd ps 1 ks g gV) (hx : Passes (L2.CX X.prog X.w) X E) (hkw : PK X kws tk)
    (hall : (backToKw pos (keywordEach kws X.env)).all (fun q => q.1.isSome) = true := by rfl) (hks : (backToKw pos (keywordEach kws X.env)).filterMap (fun q => q.1) = ks := by rfl)
    (hpl : ((backTo pos (starEach [] X.env)).any (fun q => q.1) || (backToKw pos (keywordEach kws X.env)).any (fun q => q.1.isNone)) = false := by rfl)
    (ht : eval (.Call (.Attribute o m apos) [] kws pos) X.env = (do
      let ov ← eval o X.env
      standAt apos.atName
      let (g, first) ← holding [ov] (getMethod ov m pl)
      callWith pos g first (backTo pos (starEach [] X.env)) (backToKw pos (keywordEach kws X.env))) := by rfl) :
    PE X (.Call (.Attribute o m apos) [] kws pos) (tMethN C m ks.length gV sp E ta tk) := by
  constructor
  intro pins s σ H Q I h
  apply PySem.W.methodCall_KW (pl := pl) _ ht
  refine thn (he.run pins s σ H _ I h) fun u s1 ⟨x, H1, I1, rx, a, dx, fs, ex, ea, l, q⟩ => ?_
  subst ex
  obtain rfl : u = Value.ref a := rx
  refine getmeth_ok I1 ea c hm l ?_
  apply PySem.W.callWith_KW0 (h₀ := X.base) (first := [.ref a]) I.ok.mod.kin hm.kp hall _ hpl
  refine thn (hkw.run pos pins s1 σ H1 _ I1 q) fun ws s2 ⟨zs, H2, I2, rz, l2, q2⟩ => ⟨I2.kIn, ?_⟩
  rw [hks]
  exact run_fnN (us := [.ref a]) (vs := [.ref a]) F hr hb hx I2 (.cons rfl .nil) rz rfl l2 q2
end
/-! ### comprehensions whose items are found on the way -/
section
variable {K : Frag} {H1 : Hp} {M0 : Addr → Prop} {I : Nat → Hp → Prop} {Q : Addr → Hp → Prop} {α β : Type} [Rep α] [Rep β] {J : It} {n : Nat} {G : Hp → Prop} {Y : Nat → Hp → V → Hp → Prop} {g : TG} {tt : TT} {te : TE} {vs : List Nat} {σ : L2.St}
theorem lc_repE (wk : Walk J n G Y) (p : β → Prop) (al : Alloc M0 H1) (hG : ∀ H, Same (Fr M0 H1) H → G H) (hz : n ≤ 1000000) (i0 : I 0 H1) (iup : ∀ i H D o, ¬ M0 D → I i H → I i (upd H D o)) (iAl : ∀ i H, I i H → Alloc M0 H)
    (step : ∀ (i : Nat) (x : V) (H H' : Hp) (M' : Addr → Prop) (C : V → Hp → Prop) (C0 : Hp → Prop), i < n → Same (Fr M0 H1) (Fr M' H) → Alloc M' H → (∀ p, M0 p → M' p) → Ext M0 H1 H → I i H → Y i H x H' →
      (∀ w y H4, Ext M0 H H4 → I (i + 1) H4 → p y → rp K (Fr M' H4) w y → C w H4) →
      g x (wipe σ vs) H' fun σ2 H2 => wipe σ2 vs = wipe σ vs ∧ tt σ2 H2 fun b H3 => if b = true then te σ2 H3 C else C0 H3)
    (k : ∀ D H' (ys : List β), Ext M0 H1 H' → I n H' → H1 D = none → ys.length = n → (∀ y ∈ ys, p y) → rp K (Fr M0 H') (.ref D) ys → Q D H') :
    ∀ D, H1 D = none → LcW J H1 g tt te vs σ D (Q D) := by
  intro D hD
  have nM : ¬ M0 D := al.new hD
  have al4 : ∀ H H4, Alloc (Ad D M0) H → Ext M0 H H4 → Alloc M0 H4 → Alloc (Ad D M0) H4 := fun H H4 a x a0 p m => by
    by_cases q : M0 p
    · exact a0 p q
    · obtain ⟨xs, e, hz9⟩ := a p m
      exact ⟨xs, x p _ q e, hz9⟩
  refine lc_it wk (fun i H => ∃ acc, ∃ ys : List β, H D = some (.lst acc) ∧ ys.length = i ∧ (∀ y ∈ ys, p y) ∧ Paired (fun v x => rp K (Fr (Ad D M0) H) v x) acc ys ∧ Ext M0 H1 H ∧ I i H ∧ Same (Fr M0 H1) (Fr (Ad D M0) H) ∧ Alloc (Ad D M0) H)
    ⟨[], [], upd_same, rfl, (fun _ z => nomatch z), .nil, Ext.new hD, iup _ _ _ _ nM i0, Fr.put hD, al.put⟩ (fun i H _ h => ?_) ?_ (fun H h => ?_)
  · obtain ⟨_, _, _, _, _, _, _, _, s, _⟩ := h
    exact hG H (s.trans Fr.sub)
  · rintro i x H H' hi ⟨acc, ys, e1, e2, ep, e3, e4, e5, e6, e7⟩ hY
    have zz : acc.length < sizeLine := by
      rw [e3.length, e2]
      exact Nat.lt_of_lt_of_le (show i < 1000001 by omega) (by decide)
    refine step i x H H' (Ad D M0) _ _ hi e6 e7 (fun p m => .inr m) e4 e5 hY (fun w y H4 x4 i4 hy r4 => ?_)
    have f4 := x4 _ _ nM e1
    have m1 : Same (Fr (Ad D M0) H) (Fr (Ad D M0) H4) := Fr.ext (fun b o nb e => x4 b o (fun z => nb (.inr z)) e)
    have m2 : Same (Fr (Ad D M0) H4) (Fr (Ad D M0) (upd H4 D (.lst (acc ++ [w])))) := Fr.wr (.inl rfl)
    refine ⟨acc, f4, zz, acc ++ [w], ys ++ [y], upd_same, by rw [List.length_append, e2]; rfl, (fun z hz => (List.mem_append.mp hz).elim (ep z) fun q => by rw [List.mem_singleton.mp q]; exact hy), ?_, (fun b o nb e => by rw [upd_ne (ne_of_none e hD)]; exact x4 b o nb (e4 b o nb e)), iup _ _ _ _ nM i4, e6.trans (m1.trans m2), (al4 H H4 e7 x4 (iAl _ _ i4)).wr⟩
    exact Paired.snoc (L2.Paired.mapP e3 fun _ _ q => Rep.up (m1.trans m2) q) (Rep.up m2 r4)
  · obtain ⟨acc, ys, e1, e2, ep, e3, e4, e5, e6, e7⟩ := h
    exact k D H ys e4 e5 hD e2 ep ⟨D, acc, rfl, Fr.get nM e1, L2.Paired.mapP e3 fun _ _ q => Rep.up Fr.free q⟩
/-- items that are drawn from a feed -/
theorem lc_feedE {a : Addr} {c N : Nat} {xs : List α} (p : β → Prop) (T : TW K (fdM a) H1 J xs) (hT : Fq a (N + c * xs.length) H1) (hz : xs.length ≤ 1000000)
    (step : ∀ (i : Nat) (x : α) (u : V) (H : Hp) (M' : Addr → Prop) (C : V → Hp → Prop) (C0 : Hp → Prop), xs[i]? = some x → Same (Fr (fdM a) H1) (Fr M' H) → Alloc M' H → (∀ b, fdM a b → M' b) → Ext (fdM a) H1 H → Fq a (N + c * (xs.length - (i + 1)) + c) H → rp K (Fr M' H) u x →
      (∀ w y H4, Ext (fdM a) H H4 → Fq a (N + c * (xs.length - (i + 1))) H4 → p y → rp K (Fr M' H4) w y → C w H4) → g u (wipe σ vs) H fun σ2 H2 => wipe σ2 vs = wipe σ vs ∧ tt σ2 H2 fun b H3 => if b = true then te σ2 H3 C else C0 H3)
    (k : ∀ D H' (ys : List β), Ext (fdM a) H1 H' → Fq a N H' → ys.length = xs.length → (∀ y ∈ ys, p y) → rp K (Fr (fdM a) H') (.ref D) ys → Q D H') : ∀ D, H1 D = none → LcW J H1 g tt te vs σ D (Q D) := by
  obtain ⟨G, Y, wk, hG, hY⟩ := T.ex
  refine lc_repE (M0 := fdM a) (I := fun i H => Fq a (N + c * (xs.length - i)) H) wk p hT.alloc hG hz hT (fun i H D o n t => t.upd n) (fun _ _ t => t.alloc) ?_ (fun D H' ys x i _ l q r => k D H' ys x (by rw [Nat.sub_self] at i; exact i) l q r)
  rintro i x H H' M' C C0 hi s6 a7 hm s4 t7 y7 hC
  obtain ⟨z, hz2, s8, rz⟩ := hY i x H H' M' hi s6 a7 y7
  have t8 : Fq a (N + c * (xs.length - (i + 1)) + c) H' := by
    have q := t7.same s8
    have e2 : N + c * (xs.length - i) = N + c * (xs.length - (i + 1)) + c := by
      rw [show xs.length - i = (xs.length - (i + 1)) + 1 by omega, Nat.mul_add, Nat.mul_one]
      omega
    rw [e2] at q
    exact q
  exact step i z x H' M' C C0 hz2 (s6.trans (Fr.same s8)) (a7.same s8) hm (s4.trans (Ext.same s8)) t8 rz (fun w y H4 s t hp r => hC w y H4 ((Ext.same s8).trans s) t hp r)
end
/-! ### o + o of an own class -/
section
variable {X : Cx} {op : Operator} {k0 : Nat} {C f : Addr} {fd : FuncData} {ps : List Str} {sp : Sp} {E : XK}
def rOwn (C : Addr) (sp : Sp) (E : XK) : R2 := fun x y H Q => ∃ a dx fs b dy gs, x = .ref a ∧ y = .ref b ∧ H a = some (.ins C dx fs) ∧ H b = some (.ins C dy gs) ∧ sp [.ref a, .ref b] H (fun v H' => (∃ p, v = .ref p) ∧ Q v H') E
theorem op_own (O : OpOf X.K C op.info.2 f) (F : FnOk X.prog X.w X.K X.mg X.base (L2.CX X.prog X.w) k0 f fd ps sp) (hr : Room k0 X.A) (hb : L2.Binds X.K fd ps []) (hx : Passes (L2.CX X.prog X.w) X E) : OpR X (binaryOp op) (rOwn C sp E) := by
  intro pins s σ H x y v u Q I rx ry h
  obtain ⟨a, dx, fs, b, dy, gs, rfl, rfl, ha, hb', q⟩ := h
  obtain rfl : v = Value.ref a := rx
  obtain rfl : u = Value.ref b := ry
  obtain ⟨mA, OA, _⟩ := ins_get I.hok ha
  obtain ⟨od, JA, _⟩ := OA.look
  obtain ⟨mB, OB, _⟩ := ins_get I.hok hb'
  obtain ⟨oe, JB, _⟩ := OB.look
  obtain ⟨mm, fr⟩ := I.fr
  refine PySem.W.binop_K fr I.ok.mod.kin JA JB.type O.first O.at_ O.fn ?_
  have w := run_fn (us := [.ref a, .ref b]) (vs := [.ref a, .ref b]) F hr hb .nil hx I (.cons rfl (.cons rfl .nil)) (by rw [List.append_nil]; exact q)
  exact wpAny_mono w (fun _ _ z => ep_back z) fun _ _ z => z
end
/-! ### C(*a, *b) -/
theorem evalArgs_two {M : Model} {A : Around} {E : Value → Shared → Prop} {s : Shared} {f : Value} {x y : Sem Value} {b : Bool} {rest : List (Bool × Sem Value)} {Q : Args → Shared → Prop}
    (h : wpAny M A (spliced ((true, x) :: (b, y) :: rest)) (fun vs s' => Q ⟨vs, []⟩ s') E s) : wpAny M A (evalArgs f true ((true, x) :: (b, y) :: rest) []) Q E s := by
  unfold evalArgs
  show wpAny M A (spliced ((true, x) :: (b, y) :: rest) >>= _) Q E s
  refine wpAny_bind (wpAny_mono h (fun vs s' h' => ?_) fun _ _ x => x)
  refine wpAny_holding ?_
  exact wpAny_bind (wpAny_pure (wpAny_bind (wpAny_pure (wpAny_pure h'))))
section
variable {X : Cx} {CX : CXT} {k : Nat} {f C : Addr} {sp : Sp} {E : XK} {x : Str} {e1 e2 : Expr} {t : TA} {p p1 p2 pos : Pos}
theorem pe_makeSS (M : Mk X.K C f) (F : FnR X.prog X.w X.K X.mg X.base CX k f sp) (hr : Room (k + 1) X.A) (hg : Gl X x) (hm : X.mg x = some (.ref C)) (hx : Passes CX X E) (ha : PA X [.Starred e1 p1, .Starred e2 p2] t) (hdb : (x == ("__debug__" : Str)) = false := by decide)
    (he : starEach [.Starred e1 p1, .Starred e2 p2] X.env = [(true, eval e1 X.env), (true, eval e2 X.env)] := by rfl) : PE X (.Call (.Name x p) [.Starred e1 p1, .Starred e2 p2] [] pos) (StX.tMakeR C sp E t) := by
  refine ⟨fun pins s σ H Q I h => ?_⟩
  refine wpAny_Call_Name_kw (ld_glob I hg hm ?_ hdb)
  have w := ha.run pos pins s σ H _ I h
  rw [he] at w ⊢
  refine PySem.W.ks_call rfl (PySem.W.keeps_K M.kp) (evalArgs_two (thn w fun us s1 ⟨vs, H1, I1, r, q⟩ => ⟨I1.kIn, ?_⟩))
  exact StX.run_makeR M F hr hx I1 r q
end
/-! ### o.m(), o a line, m a def of its kind -/
section
variable {X : Cx} {k0 : Nat} {fk : LK → Addr} {fdk : LK → FuncData} {ps : List Str} {spk : LK → Sp} {E : XK} {m : Str} {pos apos : Pos} {o : Expr} {ta : TE}
def tLMK (K : Frag) (spk : LK → Sp) (E : XK) (ta : TE) : TE := fun σ H Q => ta σ H fun x H1 => ∃ a k n, x = .ref a ∧ LnAt K H1 a k n ∧ spk k [.ref a] H1 Q E
theorem pe_lmethK {pl : Sem Bool} (he : PE X o ta) (L : LnF X.K) (hm : ∀ k, Meth X.K (cA X.K k) m (fk k)) (F : ∀ k, FnOk X.prog X.w X.K X.mg X.base (L2.CX X.prog X.w) k0 (fk k) (fdk k) ps (spk k)) (hr : Room k0 X.A) (hb : ∀ k, L2.Binds X.K (fdk k) ps []) (hx : Passes (L2.CX X.prog X.w) X E)
    (n1 : ¬ m = "held_ride" := by decide +kernel) (n2 : ¬ m = "held_at" := by decide +kernel) (n3 : ¬ m = "held_every" := by decide +kernel)
    (ht : eval (.Call (.Attribute o m apos) [] [] pos) X.env = (do
      let ov ← eval o X.env
      standAt apos.atName
      let (g, first) ← holding [ov] (getMethod ov m pl)
      callWith pos g first (backTo pos (starEach [] X.env)) (backToKw pos (keywordEach [] X.env))) := by rfl) :
    PE X (.Call (.Attribute o m apos) [] [] pos) (tLMK X.K spk E ta) := by
  refine ⟨fun pins s σ H Q I h => ?_⟩
  refine PySem.W.methodCall_KW (pl := pl) (thn (he.run pins s σ H _ I h) fun u s1 ⟨x, H1, I1, rx, a, k, n, ex, ⟨dx, ea⟩, q⟩ => ?_) ht
  subst ex
  obtain rfl : u = Value.ref a := rx
  refine getmeth_ok I1 ea (L.cls k) (hm k) (lf_no n n1 n2 n3) ?_
  exact PySem.W.callWith_K0 (first := [.ref a]) I1.kIn (hm k).kp (run_fn (us := [.ref a]) (vs := [.ref a]) (F k) hr (hb k) .nil hx I1 (.cons rfl .nil) (by rw [List.append_nil]; exact q))
end
end Fw

/-! Fw, part Q: == of an own class without an __eq__ (identity); texts of lines; lists of texts. -/
namespace Fw
open PySem PySem.Spec PyProof.Rows L2
open PySem.W (Looks looks_findIn looks_clsIn looks_subIn looks_typeIn)
open He (ga ma eqO eqO_ok)
open Rep (rp)
/-! ### identity -/
structure IdOf (K : Frag) (C : Addr) : Prop where
  eq : PySem.W.findIn K (.ref C) "__eq__" = some (some (.builtin "object.__eq__"))
  ne : PySem.W.findIn K (.ref C) "__ne__" = some (some (.builtin "object.__ne__"))
  obj : PySem.W.mroIn K C (.type "object") = some true
  nol : PySem.W.mroIn K C (.type "list") = some false
  sob : PySem.W.subIn K (.ref C) (.type "object") = some true
section
variable {prog : Program} {w : World} {A : Around} {E : Value → Shared → Prop} {s : Shared} {K : Frag} {x y C : Addr} {ox oy : Obj} {od oe : Option Obj} {tb : Value}
theorem id_same {Q : Value → Shared → Prop} (X : K.In s.heap) (I : PySem.W.InstAt s.heap x ox C od) (c : IdOf K C) (hq : Q (.bool true) s) : wpAny (model prog w) A (call (.builtin "object.__eq__") [.ref x, .ref x]) Q E s :=
  wpAny_call (codeAny_call_builtin PySem.F.cmp_object.eq.plain PySem.F.cmpEntry_eq (PySem.W.check_slot PySem.F.cmpKind_eq PySem.F.cmpSplit_eq (I.type.andThen (PySem.W.looks_mroIn X c.obj)) (PySem.F.cmpArgs_eq _ _) (objEq_entry_same hq)))
theorem inst_ntup (I : PySem.W.InstAt s.heap x ox C od) : ox.cls ≠ .type "tuple" := fun z => by
  rw [I.cls] at z
  cases z
theorem id_other {Q : Value → Shared → Prop} (X : K.In s.heap) (I : PySem.W.InstAt s.heap x ox C od) (c : IdOf K C) (hxy : x ≠ y) (hy : s.heap.get? y = some oy) (hq : Q .notImplemented s) : wpAny (model prog w) A (call (.builtin "object.__eq__") [.ref x, .ref y]) Q E s :=
  wpAny_call (codeAny_call_builtin PySem.F.cmp_object.eq.plain PySem.F.cmpEntry_eq (PySem.W.check_slot PySem.F.cmpKind_eq PySem.F.cmpSplit_eq (I.type.andThen (PySem.W.looks_mroIn X c.obj)) (PySem.F.cmpArgs_eq _ _) (objEq_entry_other hxy I.at_ hy (inst_ntup I) hq)))
theorem rc_idSame {Q : Value → Shared → Prop} (hu : A.units < cLine) (X : K.In s.heap) (I : PySem.W.InstAt s.heap x ox C od) (c : IdOf K C) (hq : Q (.bool true) s) : wpAny (model prog w) A (richCompare .Eq (.ref x) (.ref x)) Q E s := by
  refine cmp_own (nm := "__eq__") (sym := "==") rfl (by simp only [oneThing_ref]) hu I I.type X (.inl rfl) ?_
  unfold tryCompare
  exact wpAny_bind (HN.ifBound_objEq X I c.eq (id_same X I c (wpAny_pure ⟨true, rfl, hq⟩)))
theorem try_idOther (X : K.In s.heap) (I : PySem.W.InstAt s.heap x ox C od) (c : IdOf K C) (hxy : x ≠ y) (hy : s.heap.get? y = some oy) : wpAny (model prog w) A (tryCompare (.ref x) "__eq__" (.ref y)) (fun r s' => r = none ∧ s' = s) E s := by
  unfold tryCompare
  exact wpAny_bind (HN.ifBound_objEq X I c.eq (id_other X I c hxy hy (wpAny_pure ⟨rfl, rfl⟩)))
theorem rc_idOther {Q : Value → Shared → Prop} (hu : A.units < cLine) (X : K.In s.heap) (I : PySem.W.InstAt s.heap x ox C od) (c : IdOf K C) (hxy : x ≠ y) (hy : s.heap.get? y = some oy) (hb : Looks (model prog w) s.heap (typeOf (.ref y)) tb)
    (hn : tb = .ref C ∨ PySem.W.subIn K tb (.ref C) = some false) (two : wpAny (model prog w) A (tryCompare (.ref y) "__eq__" (.ref x)) (fun r s' => r = none ∧ s' = s) E s) (hq : Q (.bool false) s) : wpAny (model prog w) A (richCompare .Eq (.ref x) (.ref y)) Q E s := by
  have one := try_idOther (prog := prog) (w := w) (A := A) (E := E) X I c hxy hy
  have fin : wpAny (model prog w) A (isSame (.ref x) (.ref y)) (fun r s' => r = false ∧ s' = s) E s := wpAny_isSame_ref_other hxy I.at_ hy (inst_ntup I) ⟨rfl, rfl⟩
  simp only [richCompare, cmpInfo_Eq, oneThing_ref]
  refine wpAny_holding (wpAny_bind (wpAny_cRoomFor hu ?_))
  refine wpAny_bind (I.type.here (wpAny_bind (hb.here ?_)))
  split
  · rename_i q
    have e : PySem.W.subIn K tb (.ref C) = some false := by
      rcases hn with e | e
      · rw [e] at q; simp at q
      · exact e
    refine wpAny_bind ((looks_subIn X e).here ?_)
    simp only [Bool.false_eq_true, if_false, Bool.not_false, if_true]
    refine wpAny_bind (m := tryCompare (.ref x) _ (.ref y)) (wpAny_mono one (fun r s1 z => ?_) fun _ _ e => e)
    obtain ⟨z1, z2⟩ := z
    subst z1
    subst z2
    refine wpAny_bind (m := tryCompare (.ref y) _ (.ref x)) (wpAny_mono two (fun r s2 z => ?_) fun _ _ e => e)
    obtain ⟨z1, z2⟩ := z
    subst z1
    subst z2
    refine wpAny_bind (wpAny_rule (wpAny_bind (wpAny_mono fin (fun r s3 z => ?_) fun _ _ e => e)))
    obtain ⟨z1, z2⟩ := z
    subst z1
    subst z2
    exact wpAny_pure hq
  · refine wpAny_bind (wpAny_pure ?_)
    simp only [Bool.false_eq_true, if_false, Bool.not_false, if_true]
    refine wpAny_bind (m := tryCompare (.ref x) _ (.ref y)) (wpAny_mono one (fun r s1 z => ?_) fun _ _ e => e)
    obtain ⟨z1, z2⟩ := z
    subst z1
    subst z2
    refine wpAny_bind (m := tryCompare (.ref y) _ (.ref x)) (wpAny_mono two (fun r s2 z => ?_) fun _ _ e => e)
    obtain ⟨z1, z2⟩ := z
    subst z1
    subst z2
    refine wpAny_bind (wpAny_rule (wpAny_bind (wpAny_mono fin (fun r s3 z => ?_) fun _ _ e => e)))
    obtain ⟨z1, z2⟩ := z
    subst z1
    subst z2
    exact wpAny_pure hq
theorem sub_list : PySem.W.subIn K (.type "list") (.ref C) = some false := by
  have e : fastBuiltinMro "list" = some [.type "list", .type "object"] := by decide +kernel
  show (fastBuiltinMro "list").map (·.contains (.ref C)) = some false
  rw [e]
  first
    | rfl
    | simp
/-- list.__eq__ asked with an instance declines -/
theorem list_declines {l : Addr} {items : Array Value} {n : Nat} (X : K.In s.heap) (I : PySem.W.InstAt s.heap x ox C od) (c : IdOf K C) (hl : s.heap.get? l = some { cls := .type "list", data := .seq items n }) :
    wpAny (model prog w) A (tryCompare (.ref l) "__eq__" (.ref x)) (fun r s' => r = none ∧ s' = s) E s := by
  have lo : Looks (model prog w) s.heap (isInstance (.ref x) (.type "list")) false := I.type.andThen (PySem.W.looks_mroIn X c.nol)
  refine wpAny_tryCompare_declines (show s.TypeIs (.ref l) "list" from ⟨_, hl, rfl⟩) PySem.F.slot_list_eq_refl ?_
  refine GQ.call_here PySem.F.slot_list_eq_refl ⟨_, hl, rfl⟩ PySem.F.entry_list_eq (PySem.F.args_list_eq_2 _ _) ?_
  unfold Builtin.«list.__eq__»
  repeat (first | with_reducible refine wpAny_bind (lo.here ?_) | with_reducible refine lo.here ?_ | wp_step)
  exact ⟨rfl, rfl, rfl⟩
theorem ne_idSame {Q : Value → Shared → Prop} (hu : A.units + 1 < cLine) (X : K.In s.heap) (I : PySem.W.InstAt s.heap x ox C od) (c : IdOf K C) (hq : Q (.bool false) s) : wpAny (model prog w) A (richCompare .NotEq (.ref x) (.ref x)) Q E s := by
  refine cmp_own (nm := "__ne__") (sym := "!=") rfl (by simp only [oneThing_ref]) (Nat.lt_of_succ_lt hu) I I.type X (.inl rfl) ?_
  have go : wpAny (model prog w) A (call (.builtin "object.__ne__") [.ref x, .ref x]) (fun v s' => v = .bool false ∧ s' = s) E s := by
    refine wpAny_call (codeAny_call_builtin PySem.F.slot_object_ne.plain PySem.F.cmpEntry_ne (PySem.W.check_slot PySem.F.cmpKind_ne PySem.F.cmpSplit_ne (I.type.andThen (looks_subIn X c.sob)) (PySem.F.cmpArgs_ne _ _) ?_))
    have h1 : wpAny (model prog w) A.in1 (callSpecialIfBound? (.ref x) (Str.ofString "__eq__") [.ref x]) (fun r s' => r = some (.bool true) ∧ s' = s) (fun e s' => False) s := HN.ifBound_objEq X I c.eq (id_same X I c ⟨rfl, rfl⟩)
    unfold Builtin.«object.__ne__»
    repeat (first
      | with_reducible refine wpAny_cRoomFor hu ?_
      | (refine wpAny_bind (m := callSpecialIfBound? (.ref x) (Str.ofString "__eq__") [.ref x])
          (wpAny_mono h1 (fun r s' hr => by
            obtain ⟨e1, e2⟩ := hr
            subst e1
            subst e2
            repeat (first | exact ⟨rfl, rfl⟩ | refine wpAny_pure ?_ | refine wpAny_truthy_bool ?_ | (refine wpAny_bind (m := truthy (.bool _)) (wpAny_truthy_bool ?_)) | wp_step)) fun _ _ e => e.elim))
      | wp_step)
  unfold tryCompare callSpecialIfBound? bindSpecialIfBound?
  have hb : ∀ self, bindSpecial (.builtin "object.__ne__") self = pure (.builtin "object.__ne__", [self]) := PySem.F.slot_object_ne.bind
  refine wpAny_bind (wpAny_holding (wpAny_bind (wpAny_bind (wpAny_bind (I.type.here ((PySem.W.looks_findIn X c.ne).here ?_))))))
  refine wpAny_bind (wpAny_askSetting (wpAny_ite ?_))
  have fin : wpAny (model prog w) A (call (.builtin "object.__ne__") ([.ref x] ++ [.ref x]) >>= fun v => pure (some v)) (fun r s' => wpAny (model prog w) A (match r with | some .notImplemented | none => pure none | some v => pure (some v)) (fun r s' => ∃ b, r = some (.bool b) ∧ Q (.bool b) s') E s') E s := by
    refine wpAny_bind (wpAny_mono go (fun v s' hv => ?_) fun _ _ e => e)
    obtain ⟨e1, e2⟩ := hv
    subst e1
    subst e2
    exact wpAny_pure (wpAny_pure ⟨false, rfl, hq⟩)
  simp only [hb]
  split
  · exact wpAny_bind (wpAny_pure (wpAny_pure fin))
  · exact wpAny_tryCatch (wpAny_bind (wpAny_pure (wpAny_pure fin)))
end
def rIdEq (C : Addr) : R2 := fun x y H Q => ∃ a dx fs b, x = .ref a ∧ y = .ref b ∧ H a = some (.ins C dx fs) ∧ ((∃ dy gs, H b = some (.ins C dy gs)) ∨ (∃ xs, H b = some (.lst xs))) ∧ Q (.bl (decide (a = b))) H
def rIdNe (C : Addr) : R2 := fun x y H Q => ∃ a dx fs, x = .ref a ∧ y = .ref a ∧ H a = some (.ins C dx fs) ∧ Q (.bl false) H
section
variable {X : Cx} {C : Addr}
theorem op_idEq (c : IdOf X.K C) (hu1 : X.A.units + 1 < cLine) : OpR X (compareOp .Eq) (rIdEq C) := by
  intro pins s σ H x y v u Q I rx ry h
  obtain ⟨a, dx, fs, b, rfl, rfl, ha, hb, q⟩ := h
  have hu := Nat.lt_of_succ_lt hu1
  obtain rfl : v = Value.ref a := rx
  obtain rfl : u = Value.ref b := ry
  obtain ⟨mA, OA, _⟩ := ins_get I.hok ha
  obtain ⟨od, JA, _⟩ := OA.look
  show wpAny (model X.prog X.w) X.A (richCompare .Eq (.ref a) (.ref b)) (EP X pins σ Q) X.xe s
  by_cases e : a = b
  · subst e
    rw [decide_eq_true rfl] at q
    exact rc_idSame hu I.kIn JA c ⟨.bl true, H, I, rfl, q⟩
  · rw [decide_eq_false e] at q
    rcases hb with ⟨dy, gs, hb⟩ | ⟨xs, hb⟩
    · obtain ⟨mB, OB, _⟩ := ins_get I.hok hb
      obtain ⟨oe, JB, _⟩ := OB.look
      exact rc_idOther hu I.kIn JA c e JB.at_ JB.type (.inl rfl) (try_idOther I.kIn JB c (Ne.symm e) JA.at_) ⟨.bl false, H, I, rfl, q⟩
    · obtain ⟨_, its, n, _, _, hl⟩ := I.lstM hb
      have lk : Looks (model X.prog X.w) s.heap (typeOf (.ref b)) (.type "list") := (Looks.ld (part := none) hl).andThen .now
      exact rc_idOther hu I.kIn JA c e hl lk (.inr sub_list) (list_declines I.kIn JA c hl) ⟨.bl false, H, I, rfl, q⟩
theorem op_idNe (c : IdOf X.K C) (hu : X.A.units + 1 < cLine) : OpR X (compareOp .NotEq) (rIdNe C) := by
  intro pins s σ H x y v u Q I rx ry h
  obtain ⟨a, dx, fs, rfl, rfl, ha, q⟩ := h
  obtain rfl : v = Value.ref a := rx
  obtain rfl : u = Value.ref a := ry
  obtain ⟨mA, OA, _⟩ := ins_get I.hok ha
  obtain ⟨od, JA, _⟩ := OA.look
  show wpAny (model X.prog X.w) X.A (richCompare .NotEq (.ref a) (.ref a)) (EP X pins σ Q) X.xe s
  exact ne_idSame hu I.kIn JA c ⟨.bl false, H, I, rfl, q⟩
end
def cIdOf (x : Str) : Ck := fun K => eqO (PySem.W.findIn K (.ref (ga K x)) "__eq__") (some (some (.builtin "object.__eq__"))) && (eqO (PySem.W.findIn K (.ref (ga K x)) "__ne__") (some (some (.builtin "object.__ne__"))) && (decide (PySem.W.mroIn K (ga K x) (.type "object") = some true) && (decide (PySem.W.mroIn K (ga K x) (.type "list") = some false) && decide (PySem.W.subIn K (.ref (ga K x)) (.type "object") = some true))))
theorem idOf_of {K : Frag} {x : Str} (c : cIdOf x K = true) : IdOf K (ga K x) := by
  obtain ⟨c1, c⟩ := Bool.and_eq_true_iff.mp c
  obtain ⟨c2, c⟩ := Bool.and_eq_true_iff.mp c
  obtain ⟨c3, c⟩ := Bool.and_eq_true_iff.mp c
  obtain ⟨c4, c5⟩ := Bool.and_eq_true_iff.mp c
  exact ⟨eqO_ok c1, eqO_ok c2, of_decide_eq_true c3, of_decide_eq_true c4, of_decide_eq_true c5⟩
/-! ### the text of a line -/
def txt : LK → N3 → Str
  | .line, n => (((((Str.empty ++ "every ") ++ (toString n.e : Str)) ++ " from ") ++ (toString n.a : Str)) ++ " ride ") ++ (toString n.r : Str)
  | .walk, n => (Str.empty ++ "walk ") ++ (toString n.r : Str)
  | .stop, n => (((Str.empty ++ "stop ") ++ (toString n.e : Str)) ++ " from ") ++ (toString n.a : Str)
/-- numbers that may be written -/
structure TxOk (n : N3) : Prop where
  e : n.e.natAbs.log2 < 1920
  a : n.a.natAbs.log2 < 1920
  r : n.r.natAbs.log2 < 1920
theorem apl {a b : Str} {m n : Nat} (h : a.length ≤ m) (g : b.length ≤ n) : (a ++ b).length ≤ m + n := by
  rw [Str.length_append]
  omega
theorem itx {i : Int} (h : i.natAbs.log2 < 1920) : ((toString i : String) : Str).length ≤ 1921 := int_text_len_1921 h
theorem so_app {a b : Str} (h : PyData.strOk a = true) (g : PyData.strOk b = true) : PyData.strOk (a ++ b) = true := by
  unfold PyData.strOk at h g ⊢
  show (a.cps ++ b.cps).all _ = true
  rw [Array.all_append, h, g]
  rfl
theorem so_str (s : String) : PyData.strOk (Str.ofString s) = true := by
  unfold PyData.strOk
  rw [Str.ofString_eq_toList]
  simp only [List.all_toArray, List.all_map, List.all_eq_true]
  intro c _
  have h := c.valid
  have e : c.toNat = c.val.toNat := rfl
  simp only [Function.comp, decide_eq_true_eq, e]
  rcases h with h | h
  · have : c.val.toNat < 55296 := h
    omega
  · exact h.2
theorem so_txt (k : LK) (n : N3) : PyData.strOk (txt k n) = true := by
  have z : PyData.strOk Str.empty = true := by decide +kernel
  cases k
  · exact so_app (so_app (so_app (so_app (so_app (so_app z (so_str _)) (so_str _)) (so_str _)) (so_str _)) (so_str _)) (so_str _)
  · exact so_app (so_app z (so_str _)) (so_str _)
  · exact so_app (so_app (so_app (so_app z (so_str _)) (so_str _)) (so_str _)) (so_str _)
theorem txt_len (k : LK) {n : N3} (h : TxOk n) : (txt k n).length ≤ 6000 := by
  have z : Str.empty.length ≤ 0 := Nat.le_refl _
  have l1 : ("every " : Str).length ≤ 6 := by decide +kernel
  have l2 : (" from " : Str).length ≤ 6 := by decide +kernel
  have l3 : (" ride " : Str).length ≤ 6 := by decide +kernel
  have l4 : ("walk " : Str).length ≤ 5 := by decide +kernel
  have l5 : ("stop " : Str).length ≤ 5 := by decide +kernel
  cases k
  · exact Nat.le_trans (apl (apl (apl (apl (apl (apl z l1) (itx h.e)) l2) (itx h.a)) l3) (itx h.r)) (by decide)
  · exact Nat.le_trans (apl (apl z l4) (itx h.r)) (by decide)
  · exact Nat.le_trans (apl (apl (apl (apl z l5) (itx h.e)) l2) (itx h.a)) (by decide)
/-- the def of text of a kind, its promise -/
def fT (K : Frag) : LK → Addr
  | .line => ma K (ga K "Line") "text"
  | .walk => ma K (ga K "Walk") "text"
  | .stop => ma K (ga K "Stop") "text"
def spT (K : Frag) (k : LK) : Sp := fun vs H Q E => ∃ a n, vs = [.ref a] ∧ LnAt K H a k n ∧ TxOk n ∧ Q (.str (txt k n)) H
theorem cl_text {K : Frag} {H : Hp} {Q : VK} {E : XK} {a : Addr} {k : LK} {n : N3} (L : LnAt K H a k n) (t : TxOk n) (q : Q (.str (txt k n)) H) : sq (spT K k) [.ref a] H Q E := sqI ⟨a, n, rfl, L, t, q⟩
/-! ### == of own objects as values -/
section
variable {K : Frag} {H : Hp} {Q : VK} {C a b dx dy : Addr} {fs gs : List (Str × V)} {xs : List V}
theorem rd_idS {v : V} (e : v = .ref a) (ha : H a = some (.ins C dx fs)) (q : Q (.bl true) H) : sq2 (rIdEq C) v v H Q := by
  subst e
  rw [sq2_eq]
  exact ⟨a, dx, fs, a, rfl, rfl, ha, .inl ⟨dx, fs, ha⟩, by rw [decide_eq_true rfl]; exact q⟩
theorem rd_idO {v w : V} (e : v = .ref a) (f : w = .ref b) (ha : H a = some (.ins C dx fs)) (hb : H b = some (.ins C dy gs)) (ne : a ≠ b) (q : Q (.bl false) H) : sq2 (rIdEq C) v w H Q := by
  subst e
  subst f
  rw [sq2_eq]
  exact ⟨a, dx, fs, b, rfl, rfl, ha, .inl ⟨dy, gs, hb⟩, by rw [decide_eq_false ne]; exact q⟩
theorem rd_idL {v w : V} (e : v = .ref a) (f : w = .ref b) (ha : H a = some (.ins C dx fs)) (hb : H b = some (.lst xs)) (q : Q (.bl false) H) : sq2 (rIdEq C) v w H Q := by
  subst e
  subst f
  rw [sq2_eq]
  have ne : a ≠ b := fun z => by
    rw [z, hb] at ha
    cases ha
  exact ⟨a, dx, fs, b, rfl, rfl, ha, .inr ⟨xs, hb⟩, by rw [decide_eq_false ne]; exact q⟩
theorem rd_idN {v : V} (e : v = .ref a) (ha : H a = some (.ins C dx fs)) (q : Q (.bl false) H) : sq2 (rIdNe C) v v H Q := by
  subst e
  rw [sq2_eq]
  exact ⟨a, dx, fs, rfl, rfl, ha, q⟩
end
end Fw

/-! Fw, part O: any objects; C(k = v, ..); C.KIND; texts put together; lists that begin with items. -/
namespace Fw
open PySem PySem.Spec PyProof.Rows L2
open He (ga ma eqO eqO_ok)
open Rep (rp)
/-! ### any object -/
theorem TyX.same {K : Frag} {H H' : Hp} {v : V} {t : Value} (s : Same H H') (h : TyX K H v t) : TyX K H' v t := by
  cases h with
  | base b =>
    refine .base ?_
    cases b with
    | non => exact .non
    | bl x => exact .bl x
    | int i => exact .int i
    | str x => exact .str x
    | flt x => exact .flt x
    | lst e => exact .lst (s _ _ e)
    | frz e => exact .frz (s _ _ e)
    | tup e => exact .tup (s _ _ e)
    | dK e => exact .dK (s _ _ e)
    | dT e => exact .dT (s _ _ e)
    | ins e a b c d f => exact .ins (s _ _ e) a b c d f
  | byt b => exact .byt b
  | set e => exact .set (s _ _ e)
  | kList e c => exact .kList e c
  | kTuple e c => exact .kTuple e c
  | kDict e c => exact .kDict e c
  | fTuple e => exact .fTuple (s _ _ e)
  | fDict e => exact .fDict (s _ _ e)
inductive Ob where
  | int (i : Int)
  | bl (b : Bool)
  | ty (T : String)
  | own (C : Str)
instance : Rep Ob := ⟨fun K F v o => match o with
  | .int i => v = .int i
  | .bl b => v = .bl b
  | .ty T => TyX K F v (.type T)
  | .own C => TyX K F v (.ref (ga K C)), fun {K F F' v o} s h => match o, h with
  | .int _, h => h
  | .bl _, h => h
  | .ty _, h => TyX.same s h
  | .own _, h => TyX.same s h⟩
section
variable {K : Frag} {F H : Hp} {M : Addr → Prop} {v w : V} {Q : VK} {α : Type} [Rep α]
theorem ob_non : rp K F .non (Ob.ty "NoneType") := show TyX K F .non (.type "NoneType") from .base .non
theorem ob_bl (b : Bool) : rp K F (.bl b) (Ob.ty "bool") := show TyX K F (.bl b) (.type "bool") from .base (.bl b)
theorem ob_int (i : Int) : rp K F (.int i) (Ob.ty "int") := show TyX K F (.int i) (.type "int") from .base (.int i)
theorem ob_str (s : Str) : rp K F (.str s) (Ob.ty "str") := show TyX K F (.str s) (.type "str") from .base (.str s)
theorem ob_lst {xs : List α} (h : rp K F v xs) : rp K F v (Ob.ty "list") := by
  obtain ⟨p, vs, rfl, e, _⟩ := h
  exact show TyX K F (.ref p) (.type "list") from .base (.lst e)
theorem ob_num {x : Num} (h : rp K F v x) : rp K F v (Ob.ty "list") := by
  obtain ⟨p, rfl, e⟩ := h
  exact show TyX K F (.ref p) (.type "list") from .base (.lst e)
theorem ob_n3 {x : N3} (h : rp K F v x) : rp K F v (Ob.ty "tuple") := by
  obtain ⟨p, rfl, e⟩ := h
  exact show TyX K F (.ref p) (.type "tuple") from .base (.tup e)
theorem ob_typ {o : Ob} {T : String} (e : o = .ty T) (h : rp K F v o) (hF : Same F H) : TyX K H v (.type T) := by
  subst e
  exact TyX.same hF h
theorem n3_tup {n : N3} (h : rp K F v n) : rp K F v (⟨[n.e, n.a, n.r]⟩ : Tup Int) := by
  obtain ⟨p, rfl, e⟩ := h
  exact ⟨p, _, rfl, e, pd_ofInts [n.e, n.a, n.r]⟩
/-- () -/
theorem rd_tup0 (al : Alloc M H) (k : ∀ v H', Same H H' → rp K (Fr M H') v (Ob.ty "tuple") → Q v H') : sqc rTupD [] H Q := by
  rw [sqc_eq]
  exact ⟨Nat.zero_le _, fun p hp => k _ _ (Same.new hp) (show TyX K _ (.ref p) (.type "tuple") from .base (.tup (Fr.new al hp)))⟩
theorem rd_tup1 {u : V} (al : Alloc M H) (k : ∀ v H', Same H H' → rp K (Fr M H') v (Ob.ty "tuple") → Q v H') : sqc rTupD [u] H Q := by
  rw [sqc_eq]
  exact ⟨by show 1 ≤ sizeLine; decide, fun p hp => k _ _ (Same.new hp) (show TyX K _ (.ref p) (.type "tuple") from .base (.tup (Fr.new al hp)))⟩
def knC : LK → Str
  | .line => "Line"
  | .walk => "Walk"
  | .stop => "Stop"
theorem cA_knC (K : Frag) (k : LK) : cA K k = ga K (knC k) := by cases k <;> rfl
/-- {'k': v} -/
theorem rd_disp1 {x : Str} (al : Alloc M H) (k : ∀ p H', Same H H' → rp K (Fr M H') (.ref p) (Ob.ty "dict") → Q (.ref p) H') (p : Addr) (hp : H p = none) (kvs : List (Key × V)) : Q (.ref p) (upd (upd H p (.dK [])) p (.dK kvs)) := by
  rw [upd_upd]
  exact k p _ (Same.new hp) (show TyX K _ (.ref p) (.type "dict") from .base (.dK (Fr.new al hp)))
/-- a list that begins with items and may grow -/
theorem rd_mutL {vs : List V} {xs : List α} (al : Alloc M H) (hl : vs.length ≤ 1000) (h : Paired (fun v x => rp K (Fr M H) v x) vs xs) (k : ∀ D H', H D = none → Same H H' → Mu K (Ad D M) H' D xs → Same (Fr M H) (Fr (Ad D M) H') → Alloc (Ad D M) H' → Q (.ref D) H') : sqc rLstD vs H Q := by
  rw [sqc_eq]
  exact ⟨Nat.le_trans hl (by decide), fun D hD => k D _ hD (Same.new hD) ⟨vs, upd_same, L2.Paired.mapP h fun _ _ q => Rep.up (Fr.put hD) q⟩ (Fr.put hD) al.put⟩
/-- ['line'] + [headway, departure, ride] -/
theorem rd_catNum {a b c : Int} (al : Alloc M H) (h : rp K (Fr M H) v (["line"] : List Str)) (g : rp K (Fr M H) w ([a, b, c] : List Int)) (k : ∀ u H', Same H H' → rp K (Fr M H') u (⟨.line, ⟨a, b, c⟩⟩ : Num) → Q u H') : sq2 rCat v w H Q := by
  rw [sq2_eq]
  obtain ⟨p, vs, rfl, h1, h2⟩ := h
  obtain ⟨q, ws, rfl, g1, g2⟩ := g
  obtain rfl : vs = [V.str "line"] := by
    cases h2 with
    | cons x h2 =>
      cases h2
      obtain rfl : _ = V.str "line" := x
      rfl
  obtain rfl : ws = [V.int a, V.int b, V.int c] := by
    cases g2 with
    | cons x1 g2 =>
      cases g2 with
      | cons x2 g2 =>
        cases g2 with
        | cons x3 g2 =>
          cases g2
          obtain rfl : _ = V.int a := x1
          obtain rfl : _ = V.int b := x2
          obtain rfl : _ = V.int c := x3
          rfl
  refine ⟨p, q, _, _, rfl, rfl, Fr.sub _ _ h1, Fr.sub _ _ g1, (by show 1 + 3 ≤ sizeLine; decide), fun r hr => k _ _ (Same.new hr) (num_rp (k := .line) (n := ⟨a, b, c⟩) ?_ (al.new hr))⟩
  exact upd_same
end
/-! ### C(k = v, ..) -/
section
variable {X : Cx} {CX : CXT} {k n : Nat} {f C : Addr} {fd : FuncData} {ps ks : List Str} {sp : Sp} {E : XK} {x : Str} {p pos : Pos} {kws : List Keyword} {tk : TA} {g : List Value → List Value → List Value} {gV : List V → List V → List V}
def rMakeK (C : Addr) (sp : Sp) (gV : List V → List V → List V) (E : XK) : List V → Hp → VK → Prop := fun zs H2 Q => ∀ x dx, H2 x = none → H2 dx = none → dx ≠ x → sp (gV [.ref x] zs) (upd (upd H2 dx (.own x)) x (.ins C dx [])) (fun v H3 => v = .non ∧ Q (.ref x) H3) E
def tMakeK (C : Addr) (m : Nat) (sp : Sp) (gV : List V → List V → List V) (E : XK) (tk : TA) : TE := fun σ H Q => tk σ H fun zs H2 => zs.length = m ∧ sqc (rMakeK C sp gV E) zs H2 Q
theorem pe_makeK (M : Mk X.K C f) (F : FnOk X.prog X.w X.K X.mg X.base CX k f fd ps sp) (hr : Room (k + 1) X.A) (hg : Gl X x) (hm : X.mg x = some (.ref C)) (hb : KBn X.K fd ps 1 ks g gV) (hx : Passes CX X E) (hkw : PK X kws tk)
    (hall : (backToKw pos (keywordEach kws X.env)).all (fun q => q.1.isSome) = true := by rfl) (hks : (backToKw pos (keywordEach kws X.env)).filterMap (fun q => q.1) = ks := by rfl) (hdb : (x == ("__debug__" : Str)) = false := by decide)
    (hpl : ((backTo pos (starEach [] X.env)).any (fun q => q.1) || (backToKw pos (keywordEach kws X.env)).any (fun q => q.1.isNone)) = false := by rfl) :
    PE X (.Call (.Name x p) [] kws pos) (tMakeK C ks.length sp gV E tk) := by
  constructor
  intro pins s σ H Q I h
  apply wpAny_Call_Name_kw
  apply ld_glob I hg hm _ hdb
  apply PySem.W.callWith_KW0 (h₀ := X.base) I.ok.mod.kin M.kp hall _ hpl
  refine thn (hkw.run pos pins s σ H _ I h) fun ws s2 ⟨zs, H2, I2, rz, l2, q2⟩ => ⟨I2.kIn, ?_⟩
  rw [hks]
  rw [sqc_eq] at q2
  exact run_makeN (n := 0) (us := []) (vs := []) M F hr hb hx I2 .nil rz rfl l2 q2
end
theorem FunC.kb {K : Frag} {x qual y : Str} {st : Stmt} {f : Addr} {ps : List Str} (F : FunC K x qual y st f) (n : Nat) (ks : List Str) (g : {α : Type} → List α → List α → List α)
    (hrel : ∀ {vs zs : List V} {us ws : List Value}, Vals vs us → Vals zs ws → Vals (g vs zs) (g us ws))
    (h : ∀ (cc : Addr) (kV doc pm : Value) (an : Option Addr) (cdv ct : Value) (us ws : List Value), us.length = n → ws.length = ks.length → bindArgs (PySem.W.fnX x qual (defArgs st) (defBody st) (defScope st) [(y, cc)] .none kV doc pm an cdv ct) ⟨us, ks.zip ws⟩ = pure (ps.zip (g us ws))) :
    KBn K (fdAt K f) ps n ks g g := by
  obtain ⟨oc, od, cc, kV, doc, pm, an, cdv, ct, osl, lk, hcd⟩ := F.ex
  have efd : fdAt K f = PySem.W.fnX x qual (defArgs st) (defBody st) (defScope st) [(y, cc)] .none kV doc pm an cdv ct := by
    unfold fdAt
    rw [lk]
  rw [efd]
  exact ⟨fun s us ws _ l1 l2 => .of_eq (h cc kV doc pm an cdv ct us ws l1 l2), fun r1 r2 => hrel r1 r2⟩
/-! ### C.KIND -/
def cCVal (x f : Str) (s : Str) : Ck := fun K => PySem.W.readsIn K (ga K x) (.type "type") && (eqO (PySem.W.specialIn K (.ref (ga K x)) "__getattribute__") (some (some (.builtin "type.__getattribute__"))) &&
  (match PySem.W.findCls K (.ref (ga K x)) (.type "type") f with
  | some (.val (.str y _)) => decide (y = s)
  | _ => false))
theorem cval_of {K : Frag} {x f s : Str} (c : cCVal x f s K = true) : ClX.CRead K (ga K x) (.type "type") ∧ ∃ u, ClX.CVal K (ga K x) (.type "type") f (.str s) u := by
  obtain ⟨c1, c⟩ := Bool.and_eq_true_iff.mp c
  obtain ⟨c2, c3⟩ := Bool.and_eq_true_iff.mp c
  refine ⟨⟨c1, eqO_ok c2⟩, ?_⟩
  split at c3
  · rename_i y t e
    obtain rfl := of_decide_eq_true c3
    exact ⟨_, e, _, rfl⟩
  · cases c3
/-! ### texts put together -/
theorem str_e (x : Str) : Str.empty ++ x = x := by
  show Str.append ⟨#[]⟩ x = x
  unfold Str.append
  simp
theorem txt_line (n : N3) : txt .line n = ((((("every " : Str) ++ ((toString n.e : String) : Str)) ++ " from ") ++ ((toString n.a : String) : Str)) ++ " ride ") ++ ((toString n.r : String) : Str) := by
  show ((((((Str.empty ++ ("every " : Str)) ++ _) ++ _) ++ _) ++ _) ++ _) = _
  rw [str_e]
theorem txt_walk (n : N3) : txt .walk n = ("walk " : Str) ++ ((toString n.r : String) : Str) := by
  show (Str.empty ++ ("walk " : Str)) ++ _ = _
  rw [str_e]
theorem txt_stop (n : N3) : txt .stop n = ((("stop " : Str) ++ ((toString n.e : String) : Str)) ++ " from ") ++ ((toString n.a : String) : Str) := by
  show (((Str.empty ++ ("stop " : Str)) ++ _) ++ _) ++ _ = _
  rw [str_e]
theorem isi_lin {K : Frag} {M : Addr → Prop} {H : Hp} {v : V} {l : Lin} (L : LnF K) (ty : ∀ k, PySem.W.findIn K (.ref (cA K k)) "__class__" = some (some (.builtin "object.__class__")) ∧ PySem.W.specialIn K (.builtin "object.__class__") "__get__" = some (some (.builtin "getset_descriptor.__get__")) ∧ PySem.W.takesIn K (.builtin "object.__class__") = some true ∧ PySem.W.mroIn K (cA K k) (.type "object") = some true) (h : rp K (Fr M H) v l) : TyX K H v (.ref (cA K l.k)) := by
  obtain ⟨a, rfl, dx, e⟩ := h
  obtain ⟨t1, t2, t3, t4⟩ := ty l.k
  exact .base (.ins (Fr.sub _ _ e) (L.cls l.k) t1 t2 t3 t4)
end Fw

/-! Fw, part P: try .. except x as n: suite, then more rows; the error stays in hand. -/
namespace Fw
open PySem PySem.Spec PyProof.Rows L2
/-- the context of the rows behind a try whose error is in hand -/
abbrev keepX (X : Cx) (a : Addr) (o : Obj) (l : List (Addr × Obj)) : Cx := { X with pn := (a, o) :: l }
theorem Has.keep {X : Cx} {a : Addr} {oe : Obj} {cls : Value} {d : Option Addr} {pn : List (Addr × Obj)} (z : Zc cls d oe) (f : ∃ vs, oe.data = .fields vs) : Has (keepX X a oe pn) a cls d := ⟨oe, List.mem_cons_self, z, f⟩
/-- what a caught error leads to: the suite, then the rows behind -/
def wKeep (K : Frag) (c : Value) (i : Nat) (ts tk : Addr → Value → Option Addr → TS) (Wo : WX) (D : Ends) : WX := fun cls d σ H =>
  ∃ b, PySem.W.exmOne K cls c = some b ∧ (b = true → ∀ a, H a = none → ts a cls d { nx := fun τ G => tk a cls d D (τ.set i none) G, rt := D.rt, bk := fun τ G => D.bk (τ.set i none) G, ct := fun τ G => D.ct (τ.set i none) G } (σ.set i (some (.ref a))) H) ∧ (b = false → Wo cls d σ H)
section
variable {X : Cx} {σ : L2.St} {H : Hp} {s : Shared} {pins pp : List (Addr × Obj)} {a : Addr} {o : Obj}
/-- out of the suite, the error stays pinned -/
theorem Inv.held (J : Inv (X.suite a ((a, o) :: (X.pn ++ pins))) pp σ H s) (ok : X.Ok) : Inv (keepX X a o (X.pn ++ pins)) [] σ H s := by
  have ok2 : (keepX X a o (X.pn ++ pins)).Ok := ⟨ok.mod, ok.kind, ok.glob, ok.blt, ok.above, ok.inj, ok.has, ok.cab, ok.hd, ok.frames, ok.stk, ok.exf, ok.bs, ok.bsz, ok.noex, ok.exfs, ok.funs, ok.frf⟩
  exact ⟨ok2, J.os, J.bare, J.base, J.loc, J.cell, J.free, J.freeC, (fun q m => J.pin q (List.mem_append_left _ (by rw [List.append_nil] at m; exact m))), J.hok, J.len⟩
/-- the error is let go -/
theorem Inv.drop (J : Inv (keepX X a o (X.pn ++ pins)) pp σ H s) (ok : X.Ok) : Inv X pins σ H s :=
  ⟨ok, J.os, J.bare, J.base, J.loc, J.cell, J.free, J.freeC, (fun q m => J.pin q (List.mem_append_left _ (List.mem_cons_of_mem (a, o) m))), J.hok, J.len⟩
theorem SP.drop {D : Ends} {f : Flow} (h : SP (keepX X a o (X.pn ++ pins)) pp D f s) (ok : X.Ok) : SP X pins D f s := by
  cases f with
  | next => exact let ⟨τ, G, J, q⟩ := h; ⟨τ, G, Inv.drop J ok, q⟩
  | brk => exact let ⟨τ, G, J, q⟩ := h; ⟨τ, G, Inv.drop J ok, q⟩
  | cont => exact let ⟨τ, G, J, q⟩ := h; ⟨τ, G, Inv.drop J ok, q⟩
  | ret u => exact let ⟨v, τ, G, J, r, q⟩ := h; ⟨v, τ, G, Inv.drop J ok, r, q⟩
end
section
variable {X : Cx} {x n : Str} {c : Value} {i : Nat} {body suite rest : List Stmt} {b₀ : Stmt} {np pos pos' : Pos} {tb : WX → TS} {ts tk : Addr → Value → Option Addr → TS} {tr : TS} {Wo : WX}
theorem pss_try_keep (eS : X.stack = X.env :: X.outer) (eF : X.env.frame = some X.env.locals) (nd : X.N.Nodup) (at_ : X.N[i]? = some n) (kl : X.env.kindOf n = some .local) (nm : Names X x c) (tko : Takes X Wo)
    (hb : ∀ (W : WX) (l : List (Addr × Obj)) (xe : Value → Shared → Prop), Takes (X.tr l xe) W → PassesOwn (model X.prog X.w) X.A X.env xe → PSs (X.tr l xe) body (tb W))
    (hs : ∀ (a : Addr) (o : Obj) (cls : Value) (d : Option Addr) (l : List (Addr × Obj)), Zc cls d o → (∃ vs, o.data = .fields vs) → PSs (X.suite a ((a, o) :: l)) (b₀ :: suite) (ts a cls d))
    (hk : ∀ (a : Addr) (o : Obj) (cls : Value) (d : Option Addr) (l : List (Addr × Obj)), Zc cls d o → (∃ vs, o.data = .fields vs) → PSs (keepX X a o l) rest (tk a cls d))
    (hr : PSs X rest tr) :
    PSs X (.Try body [.ExceptHandler (some (.Name x np)) (some n) (b₀ :: suite) pos'] [] [] pos :: rest) (fun D σ H => tb (wKeep X.K c i ts tk Wo D) { D with nx := tr D } σ H) := by
  refine ⟨fun pins s σ H D I0 want => ?_⟩
  have ok := I0.ok
  have frames : X.A.frames = some (X.env :: X.outer) := ok.frames.trans (congrArg some eS)
  -- what is wanted of the try: the rows behind it are run
  let P : Flow → Shared → Prop := fun f s' => match f with
    | .next => wpAny (model X.prog X.w) X.A (execs rest X.env) (SP X pins D) X.xe s'
    | g => SP X pins D g s'
  have goal : wpAny (model X.prog X.w) X.A (exec (.Try body [.ExceptHandler (some (.Name x np)) (some n) (b₀ :: suite) pos'] [] [] pos) X.env) P X.xe s := by
    have lc : Loc X.env.scope n := Or.inl kl
    apply wpAny_Try_except
    apply wpAny_mono (M := model X.prog X.w) ((hb (wKeep X.K c i ts tk Wo D) (X.pn ++ pins) (fun e t1 => wpAny (model X.prog X.w) X.A (noteFrame e X.env) (fun _ t2 => wpAny (model X.prog X.w) X.A (setFlight e none) (fun _ t3 =>
      wpAny (model X.prog X.w) X.A (handleBy e X.env [.ExceptHandler (some (.Name x np)) (some n) (b₀ :: suite) pos']) P X.xe t3) X.xe t2) X.xe t1) (fun u s9 caught => ?_) PassesOwn.looking).run [] s σ H { D with nx := tr D } (I0.toTry _) want)
    · intro f t1 z
      cases f with
      | next =>
        obtain ⟨τ, G, J, q⟩ := z
        apply wpAny_execs_nil
        exact hr.run pins t1 τ G D (J.ofTry ok) q
      | brk => exact let ⟨τ, G, J, q⟩ := z; ⟨τ, G, J.ofTry ok, q⟩
      | cont => exact let ⟨τ, G, J, q⟩ := z; ⟨τ, G, J.ofTry ok, q⟩
      | ret u => exact let ⟨v, τ, G, J, r, q⟩ := z; ⟨v, τ, G, J.ofTry ok, r, q⟩
    · exact fun e t1 z => z
    -- an error comes
    obtain ⟨a, B, sI, pins', τ, G, cls, d, rfl, J', keep, higher, sky, fresh, eos, bare, b, exm, yes, no⟩ := caught
    have J0 : Inv X pins τ G sI := J'.ofTry ok
    have sky1 : Sky B (X.env :: X.outer) a (Zc cls d) X.env.locals s9.heap := eS ▸ sky
    show wpAny (model X.prog X.w) X.A (noteFrame (.ref a) X.env) _ _ s9
    apply Sky.land Zc.steady frames eF sky1
    intro h3 fly3 rise3
    have J3 : Inv X pins τ G { s9 with heap := h3 } := J0.landed keep fly3.1 (higher.trans rise3) eos bare
    obtain ⟨o3, w3, at3, zc3, da3⟩ := fly3.there
    have off : a ∉ frs (X.env :: X.outer) := by
      intro m
      obtain ⟨_, o2, e2, nf2⟩ := fly3.2.2.1.mem m
      rw [at3] at e2
      cases e2
      exact nf2 _ da3
    have offL : a ≠ X.env.locals := fun z => off (List.mem_filterMap.mpr ⟨X.env, List.mem_cons_self, eF.trans (by rw [z])⟩)
    have offF : a ∉ X.fs := by
      intro m
      obtain ⟨e, me, q⟩ := List.mem_filterMap.mp m
      exact off (List.mem_filterMap.mpr ⟨e, List.mem_cons_of_mem X.env me, q⟩)
    have S3 := J3.suite at3 da3 fresh offL offF
    apply wpAny_handleBy_cons (codeAny_handlers_test ?_) (fun q => by cases q)
    have tyA : PySem.W.Looks (model X.prog X.w) h3 (typeOf (.ref a)) cls := fun A Q E s k q => wpAny_typeOf_ref (k a o3 at3) (zc3.1 ▸ q)
    have mt := PySem.W.exm_one (M := model X.prog X.w) J3.kIn tyA exm
    have named : ∀ {Q E : Value → Shared → Prop}, Q c { s9 with heap := h3 } → wpAny (model X.prog X.w) (X.A.mark (some (.ref a))) (eval (.Name x np) X.env) Q E { s9 with heap := h3 } := by
      intro Q E q
      obtain ⟨g1, g2, g3⟩ := nm
      rcases g3 with g3 | ⟨g3, g4, g5⟩
      · exact ld_glob (X := X.suite a ((a, o3) :: (X.pn ++ pins))) S3 g1 g3 q g2
      · exact ld_blt (X := X.suite a ((a, o3) :: (X.pn ++ pins))) S3 g1 g3 g4 q g5 g2
    apply named
    refine mt.here ?_
    cases b with
    | false =>
      show wpAny (model X.prog X.w) X.A (handleBy (.ref a) X.env []) P X.xe _
      apply wpAny_handleBy_nil
      obtain ⟨_, _, _, o2, vs2, T, oT, ts2, e2, z2, d2, v2, _⟩ := id fly3
      unfold PySem.passOn
      apply wpAny_bind
      apply wpAny_field e2 d2 v2
      rw [if_neg (by simp : ¬ ((Value.ref T == Value.none) = true))]
      have up : wpAny (model X.prog X.w) X.A (setFlight (.ref a) X.env.frame) (fun _ t4 => wpAny (model X.prog X.w) X.A (throw (.ref a) : Sem Flow) P X.xe t4) X.xe { s9 with heap := h3 } := by
        rw [eF]
        apply HandSPX.setFlight_upZ fly3
        intro h4 held4 rise4
        apply wpAny_throw
        apply tko
        exact ⟨a, B, sI, pins, τ, G, cls, d, rfl, J0, keep, (higher.trans rise3).trans rise4, Or.inr (Or.inr (eS ▸ held4)), fresh, eos, bare, no rfl⟩
      first
        | exact wpAny_bind (wpAny_pure (wpAny_bind up))
        | exact wpAny_bind up
    | true =>
      apply codeAny_handlers_suite_as
      apply HandSPX.lands_againZ fly3
      intro h4 fly4 rise4
      have J4 : Inv X pins τ G { s9 with heap := h4 } := J0.landed keep fly4.1 ((higher.trans rise3).trans rise4) eos bare
      obtain ⟨o4, w4, at4, zc4, da4⟩ := fly4.there
      have S4 := J4.suite at4 da4 fresh offL offF
      apply store_ok (X := X.suite a ((a, o4) :: (X.pn ++ pins))) (v := .ref a) S4 nd at_ lc rfl (fun t5 S5 => ?_) (Or.inr kl)
      apply wpAny_mono ((hs a o4 cls d (X.pn ++ pins) zc4 ⟨w4, da4⟩).run [] t5 _ G _ S5 (yes rfl a fresh)) (fun f t6 z => ?_) (fun _ _ z => z.elim)
      -- the name goes, the object stays
      have gone : ∀ {τ6 : L2.St} {G6 : Hp} {Q : Shared → Prop}, Inv (X.suite a ((a, o4) :: (X.pn ++ pins))) [] τ6 G6 t6 → (∀ t7, Inv (keepX X a o4 (X.pn ++ pins)) [] (τ6.set i none) G6 t7 → Q t7) →
          wpAny (model X.prog X.w) X.A (do bindName X.env n .none; unbindBehindTheSuite X.env n pos') (fun _ t7 => Q t7) X.xe t6 := fun S6 q => gone_ok (X := keepX X a o4 (X.pn ++ pins)) (Inv.held S6 ok) nd at_ kl q
      cases f with
      | next =>
        obtain ⟨τ6, G6, S6, q6⟩ := z
        exact gone S6 fun t7 J7 => wpAny_mono ((hk a o4 cls d (X.pn ++ pins) zc4 ⟨w4, da4⟩).run [] t7 _ G6 D J7 q6) (fun g t8 y => SP.drop y ok) fun _ _ y => y
      | brk => exact let ⟨τ6, G6, S6, q6⟩ := z; gone S6 fun t7 J7 => ⟨_, _, Inv.drop J7 ok, q6⟩
      | cont => exact let ⟨τ6, G6, S6, q6⟩ := z; gone S6 fun t7 J7 => ⟨_, _, Inv.drop J7 ok, q6⟩
      | ret u => exact let ⟨v6, τ6, G6, S6, r6, q6⟩ := z; gone S6 fun t7 J7 => ⟨_, _, _, Inv.drop J7 ok, r6, q6⟩
  apply wpAny_execs_cons
  apply wpAny_mono goal (fun f s1 q => ?_) (fun _ _ z => z)
  cases f <;> exact q
end
end Fw

/-! Fw, part F: numbers that may be none; headway, departure, ride, kind as a tuple; a new list that is written; isinstance of the error in a suite. -/
namespace Fw
open PySem PySem.Spec PyProof.Rows L2
open He (ga ma eqO eqO_ok)
open Rep (rp)
/-! ### any object as a number -/
/-- x is the integer that a tells, or no integer -/
def NumV (K : Frag) (H : Hp) (x : V) : Option Int → Prop
  | some i => x = .int i
  | none => ∃ (T : Value) (b1 b2 : Bool), TyX K H x T ∧ PySem.W.kitOne K T (.type "int") = some b1 ∧ PySem.W.kitOne K T (.type "bool") = some b2 ∧ (b1 && !b2) = false
theorem NumV.same {K : Frag} {H H' : Hp} {x : V} {a : Option Int} (s : Same H H') (h : NumV K H x a) : NumV K H' x a := match a, h with
  | some _, h => h
  | none, ⟨T, b1, b2, t, k1, k2, e⟩ => ⟨T, b1, b2, TyX.same s t, k1, k2, e⟩
def numB : Option Int → Option Int → Option Int → Bool
  | some e, some l, some r => decide (1 ≤ e ∧ 0 ≤ l ∧ l < e ∧ 0 ≤ r)
  | _, _, _ => false
/-! ### four in a tuple -/
structure T4 where
  n : N3
  k : LK
instance : Rep T4 := ⟨fun _ F v x => ∃ p : Addr, v = .ref p ∧ F p = some (.tup [.int x.n.e, .int x.n.a, .int x.n.r, .str (kn x.k)]), fun s h => let ⟨p, e, h⟩ := h; ⟨p, e, s _ _ h⟩⟩
section
variable {K : Frag} {F H H1 : Hp} {M : Addr → Prop} {v w : V} {Q : VK}
theorem rd_tup4 {a b c : Int} {k : LK} (al : Alloc M H) (q : ∀ v H', Same H H' → rp K (Fr M H') v (⟨⟨a, b, c⟩, k⟩ : T4) → Q v H') : sqc rTupD [.int a, .int b, .int c, .str (kn k)] H Q := by
  rw [sqc_eq]
  exact ⟨by show 4 ≤ sizeLine; decide, fun p hp => q _ _ (Same.new hp) ⟨p, rfl, Fr.new al hp⟩⟩
theorem rd_t43 {x : T4} (h : rp K F v x) (hF : Same F H) (q : Q (.str (kn x.k)) H) : sq2 (rIxT K) v (.int 3) H Q := by
  rw [sq2_eq]
  obtain ⟨p, rfl, e⟩ := h
  exact ⟨p, _, 3, _, rfl, rfl, SqT.of (hF _ _ e), atI_nat (j := 3) rfl, q⟩
/-- a new list of such, one item written anew -/
theorem set4 {D : Addr} {H2 : Hp} {ys : List T4} {y : T4} {i : Nat} (hD : H1 D = none) (al : Alloc M H1) (s : Same H1 H2) (h : rp K (Fr M H2) (.ref D) ys) (g : rp K (Fr M H2) w y) :
    ∃ vs, H2 D = some (.lst vs) ∧ vs.length = ys.length ∧ Same H1 (upd H2 D (.lst (vs.set i w))) ∧ rp K (Fr M (upd H2 D (.lst (vs.set i w)))) (.ref D) (ys.set i y) := by
  obtain ⟨p, vs, e, h1, h2⟩ := h
  cases e
  have eD := Fr.sub _ _ h1
  have nM := Fr.no h1
  have s3 : Same H1 (upd H2 D (.lst (vs.set i w))) := fun b o e => by
    rw [upd_ne (fun z => by rw [z, hD] at e; cases e)]
    exact s _ _ e
  have up : ∀ {u : V} {x : T4}, rp K (Fr M H2) u x → rp K (Fr M (upd H2 D (.lst (vs.set i w)))) u x := fun {u x} q => by
    obtain ⟨b, e, hb⟩ := q
    have nb : b ≠ D := fun z => by
      rw [z, h1] at hb
      cases hb
    exact ⟨b, e, Fr.get (Fr.no hb) (by rw [upd_ne nb]; exact Fr.sub _ _ hb)⟩
  refine ⟨vs, eD, h2.length, s3, D, vs.set i w, rfl, Fr.get nM upd_same, ?_⟩
  have g2 := up g
  have h3 : Paired (fun v x => rp K (Fr M (upd H2 D (.lst (vs.set i w)))) v x) vs ys := L2.Paired.mapP h2 fun _ _ q => up q
  generalize upd H2 D (.lst (vs.set i w)) = H9 at g2 h3
  clear h1 h2 eD s3 up
  induction h3 generalizing i with
  | nil => exact .nil
  | cons a t ih =>
    cases i with
    | zero => exact .cons g2 t
    | succ i => exact .cons a ih
end
section
variable {K : Frag} {H1 : Hp} {M : Addr → Prop} {Q : Addr → Hp → Prop} {α β : Type} [Rep α] [Rep β] {J : It} {g : TG} {tt : TT} {te : TE} {vs : List Nat} {σ : L2.St}
/-- a comprehension that maps; its list is a new one -/
theorem lc_mapD {xs : List α} (f : α → β) (T : TW K M H1 J xs) (al : Alloc M H1) (hz : xs.length ≤ 1000000)
    (step : ∀ (i : Nat) (x : α) (u : V) (H : Hp) (M' : Addr → Prop) (C : V → Hp → Prop) (C0 : Hp → Prop), xs[i]? = some x → Same (Fr M H1) (Fr M' H) → Alloc M' H → Same H1 H → rp K (Fr M' H) u x →
      (∀ w H4, Same H H4 → rp K (Fr M' H4) w (f x) → C w H4) → g u (wipe σ vs) H fun σ2 H2 => wipe σ2 vs = wipe σ vs ∧ tt σ2 H2 fun b H3 => if b = true then te σ2 H3 C else C0 H3)
    (k : ∀ D H', H1 D = none → Same H1 H' → rp K (Fr M H') (.ref D) (xs.map f) → Q D H') : ∀ D, H1 D = none → LcW J H1 g tt te vs σ D (Q D) := fun D hD =>
  have e : (fun H' => H1 D = none → Q D H') = Q D := funext fun H' => propext ⟨fun z => z hD, fun q _ => q⟩
  e ▸ lc_mapF (Q := fun D' H' => H1 D' = none → Q D' H') f T al hz step (fun D' H' s r n => k D' H' n s r) D hD
end
section
variable {K : Frag} {H1 : Hp} {M0 : Addr → Prop} {I : Nat → Hp → Prop} {Q : Addr → Hp → Prop} {α β : Type} [Rep α] [Rep β] {J : It} {n : Nat} {G : Hp → Prop} {Y : Nat → Hp → V → Hp → Prop} {g : TG} {tt : TT} {te : TE} {vs : List Nat} {σ : L2.St}
theorem lc_repR (wk : Walk J n G Y) (p : Nat → β → Prop) (al : Alloc M0 H1) (hG : ∀ H, Same (Fr M0 H1) H → G H) (hz : n ≤ 1000000) (i0 : I 0 H1) (iup : ∀ i H D o, ¬ M0 D → I i H → I i (upd H D o)) (iAl : ∀ i H, I i H → Alloc M0 H)
    (step : ∀ (i : Nat) (x : V) (H H' : Hp) (M' : Addr → Prop) (C : V → Hp → Prop) (C0 : Hp → Prop), i < n → Same (Fr M0 H1) (Fr M' H) → Alloc M' H → (∀ p, M0 p → M' p) → Ext M0 H1 H → I i H → Y i H x H' →
      (∀ w y H4, Ext M0 H H4 → I (i + 1) H4 → p i y → rp K (Fr M' H4) w y → C w H4) →
      g x (wipe σ vs) H' fun σ2 H2 => wipe σ2 vs = wipe σ vs ∧ tt σ2 H2 fun b H3 => if b = true then te σ2 H3 C else C0 H3)
    (k : ∀ D H' (ys : List β), Ext M0 H1 H' → I n H' → H1 D = none → ys.length = n → (∀ j y, ys[j]? = some y → p j y) → rp K (Fr M0 H') (.ref D) ys → Q D H') :
    ∀ D, H1 D = none → LcW J H1 g tt te vs σ D (Q D) := by
  intro D hD
  have nM : ¬ M0 D := al.new hD
  have al4 : ∀ H H4, Alloc (Ad D M0) H → Ext M0 H H4 → Alloc M0 H4 → Alloc (Ad D M0) H4 := fun H H4 a x a0 p m => by
    by_cases q : M0 p
    · exact a0 p q
    · obtain ⟨xs, e, hz9⟩ := a p m
      exact ⟨xs, x p _ q e, hz9⟩
  refine lc_it wk (fun i H => ∃ acc, ∃ ys : List β, H D = some (.lst acc) ∧ ys.length = i ∧ (∀ j y, ys[j]? = some y → p j y) ∧ Paired (fun v x => rp K (Fr (Ad D M0) H) v x) acc ys ∧ Ext M0 H1 H ∧ I i H ∧ Same (Fr M0 H1) (Fr (Ad D M0) H) ∧ Alloc (Ad D M0) H)
    ⟨[], [], upd_same, rfl, (fun j y z => by rw [List.getElem?_nil] at z; cases z), .nil, Ext.new hD, iup _ _ _ _ nM i0, Fr.put hD, al.put⟩ (fun i H _ h => ?_) ?_ (fun H h => ?_)
  · obtain ⟨_, _, _, _, _, _, _, _, s, _⟩ := h
    exact hG H (s.trans Fr.sub)
  · rintro i x H H' hi ⟨acc, ys, e1, e2, ep, e3, e4, e5, e6, e7⟩ hY
    have zz : acc.length < sizeLine := by
      rw [e3.length, e2]
      exact Nat.lt_of_lt_of_le (show i < 1000001 by omega) (by decide)
    refine step i x H H' (Ad D M0) _ _ hi e6 e7 (fun p m => .inr m) e4 e5 hY (fun w y H4 x4 i4 hy r4 => ?_)
    have f4 := x4 _ _ nM e1
    have m1 : Same (Fr (Ad D M0) H) (Fr (Ad D M0) H4) := Fr.ext (fun b o nb e => x4 b o (fun z => nb (.inr z)) e)
    have m2 : Same (Fr (Ad D M0) H4) (Fr (Ad D M0) (upd H4 D (.lst (acc ++ [w])))) := Fr.wr (.inl rfl)
    refine ⟨acc, f4, zz, acc ++ [w], ys ++ [y], upd_same, by rw [List.length_append, e2]; rfl, (fun j z hz => by
      by_cases c : j < ys.length
      · rw [List.getElem?_append_left c] at hz
        exact ep j z hz
      · rw [List.getElem?_append_right (by omega)] at hz
        have c0 : j - ys.length = 0 := by
          by_cases q : j - ys.length = 0
          · exact q
          · rw [List.getElem?_eq_none (by simp; omega)] at hz
            cases hz
        rw [c0] at hz
        cases hz
        rw [show j = i by omega]
        exact hy), ?_, (fun b o nb e => by rw [upd_ne (ne_of_none e hD)]; exact x4 b o nb (e4 b o nb e)), iup _ _ _ _ nM i4, e6.trans (m1.trans m2), (al4 H H4 e7 x4 (iAl _ _ i4)).wr⟩
    exact Paired.snoc (L2.Paired.mapP e3 fun _ _ q => Rep.up (m1.trans m2) q) (Rep.up m2 r4)
  · obtain ⟨acc, ys, e1, e2, ep, e3, e4, e5, e6, e7⟩ := h
    exact k D H ys e4 e5 hD e2 ep ⟨D, acc, rfl, Fr.get nM e1, L2.Paired.mapP e3 fun _ _ q => Rep.up Fr.free q⟩
theorem tp_upd {a D : Addr} {N : Nat} {H : Hp} {o : HO} (t : Tp a N H) (n : ¬ fdM a D) : Tp a N (upd H D o) := by
  obtain ⟨d, m, n2, e, h⟩ := t
  exact ⟨d, m, n2, by rw [upd_ne (fun z => n z.symm)]; exact e, h⟩
/-- items that are found on the way, by their places -/
theorem lc_tapeR {a : Addr} {c N : Nat} {xs : List α} (p : Nat → β → Prop) (T : TW K (fdM a) H1 J xs) (hT : Tp a (N + c * xs.length) H1) (hz : xs.length ≤ 1000000)
    (step : ∀ (i : Nat) (x : α) (u : V) (H : Hp) (M' : Addr → Prop) (C : V → Hp → Prop) (C0 : Hp → Prop), xs[i]? = some x → Same (Fr (fdM a) H1) (Fr M' H) → Alloc M' H → (∀ b, fdM a b → M' b) → Ext (fdM a) H1 H → Tp a (N + c * (xs.length - (i + 1)) + c) H → rp K (Fr M' H) u x →
      (∀ w y H4, Ext (fdM a) H H4 → Tp a (N + c * (xs.length - (i + 1))) H4 → p i y → rp K (Fr M' H4) w y → C w H4) → g u (wipe σ vs) H fun σ2 H2 => wipe σ2 vs = wipe σ vs ∧ tt σ2 H2 fun b H3 => if b = true then te σ2 H3 C else C0 H3)
    (k : ∀ D H' (ys : List β), Ext (fdM a) H1 H' → Tp a N H' → ys.length = xs.length → (∀ j y, ys[j]? = some y → p j y) → rp K (Fr (fdM a) H') (.ref D) ys → Q D H') : ∀ D, H1 D = none → LcW J H1 g tt te vs σ D (Q D) := by
  obtain ⟨G, Y, wk, hG, hY⟩ := T.ex
  refine lc_repR (M0 := fdM a) (I := fun i H => Tp a (N + c * (xs.length - i)) H) wk p hT.alloc hG hz hT (fun i H D o n t => tp_upd t n) (fun _ _ t => t.alloc) ?_ (fun D H' ys x i _ l q r => k D H' ys x (by rw [Nat.sub_self] at i; exact i) l q r)
  rintro i x H H' M' C C0 hi s6 a7 hm s4 t7 y7 hC
  obtain ⟨z, hz2, s8, rz⟩ := hY i x H H' M' hi s6 a7 y7
  have t8 : Tp a (N + c * (xs.length - (i + 1)) + c) H' := by
    have q := t7.same s8
    have e2 : N + c * (xs.length - i) = N + c * (xs.length - (i + 1)) + c := by
      rw [show xs.length - i = (xs.length - (i + 1)) + 1 by omega, Nat.mul_add, Nat.mul_one]
      omega
    rw [e2] at q
    exact q
  exact step i z x H' M' C C0 hz2 (s6.trans (Fr.same s8)) (a7.same s8) hm (s4.trans (Ext.same s8)) t8 rz (fun w y H4 s t hp r => hC w y H4 ((Ext.same s8).trans s) t hp r)
end
/-! ### isinstance of the error in a suite -/
section
variable {X : Cx} {a : Addr} {cls : Value} {d : Option Addr}
def rIsEG (K : Frag) (cls : Value) (d : Option Addr) (a : Addr) : List V → Hp → VK → Prop := fun xs H Q => ∃ D, cls = .ref D ∧ d = none ∧ ExcC K D ∧ rIsE K D a xs H Q
theorem call_isErG (h : Has X a cls d) : CallR X (.builtin "isinstance") (rIsEG X.K cls d a) := by
  intro pins s σ H xs us Q I r q
  obtain ⟨D, rfl, rfl, c, q⟩ := q
  exact call_isEr c h pins s σ H xs us Q I r q
def rIsETG (K : Frag) (cls : Value) (d : Option Addr) (a : Addr) : List V → Hp → VK → Prop := fun xs H Q => ∃ D, cls = .ref D ∧ d = none ∧ ExcC K D ∧ rIsET K D a xs H Q
theorem call_isErTG (h : Has X a cls d) : CallR X (.builtin "isinstance") (rIsETG X.K cls d a) := by
  intro pins s σ H xs us Q I r q
  obtain ⟨D, rfl, rfl, c, q⟩ := q
  exact call_isErT c h pins s σ H xs us Q I r q
end
theorem slot_two {σ : L2.St} {n i j : Nat} {v w : V} (h : σ.length = n) (hi : i < n) (ne : j ≠ i) : ((σ.set i (some v)).set j (some w))[i]? = some (some v) := by
  rw [List.getElem?_set_ne ne, List.getElem?_set_self (by omega)]
theorem slot_at {σ : L2.St} {n i j : Nat} {v w : V} (h : σ.length = n) (hj : j < n) : ((σ.set i (some v)).set j (some w))[j]? = some (some w) := by
  rw [List.getElem?_set_self (by rw [List.length_set]; omega)]
end Fw

/-! Fw, part Tx: words and texts: globals that are texts, numbers as words, the words of legs, split and join. -/
namespace Fw
open PySem PySem.Spec PyProof.Rows L2
open He (ga ma eqO eqO_ok)
open Rep (rp)
/-! ### globals -/
def cStrG (x z : Str) : Ck := fun K => (He.Fa.str x z).ok K
section
variable {ck : List Ck} {fn : List DefM} {K : Frag} {mg : Str → Option Value}
theorem Zs.strG (Z : Zs ck fn K mg) {x z : Str} (c : cStrG x z K = true) : ∃ u, mg x = some u ∧ RelV (.str z) u := let ⟨_, X, G⟩ := Z.ns; let ⟨t, e⟩ := He.str_ok X G c; ⟨_, e, t, rfl⟩
end
/-! ### a text, sign by sign -/
def sgn (c : Nat) : Str := ⟨#[c]⟩
def signs (x : Str) : List Str := (TL.tl x).map sgn
theorem signs_len (x : Str) : (signs x).length = x.length := by
  unfold signs
  rw [List.length_map, TL.len_tl]
section
variable {K : Frag} {M : Addr → Prop} {H1 : Hp}
theorem tw_str {x : Str} : TW K M H1 (Its x) (signs x) := by
  refine ⟨_, _, by rw [signs_len]; exact walk_str (z := x), fun _ _ => trivial, ?_⟩
  rintro i u H H' M' hi s6 a7 ⟨rfl, c, hc, rfl⟩
  refine ⟨sgn c, ?_, Same.refl _, rfl⟩
  unfold signs
  rw [List.getElem?_map, Array.getElem?_toList, hc]
  rfl
end
/-! ### numbers as words -/
abbrev nt (i : Int) : Str := ((toString i : String) : Str)
/-- a number of at most thirty digits -/
structure NumW (i : Int) : Prop where
  lo : 0 ≤ i
  hi : i < 10 ^ 30
theorem tl_nt {i : Int} (h : 0 ≤ i) : TL.tl (nt i) = TL.numL i.toNat := by
  have e : ((i.toNat : Nat) : Int) = i := by omega
  have q := TL.tl_num i.toNat
  rw [e] at q
  exact q
theorem nt_len {i : Int} (h : NumW i) : (nt i).length ≤ 30 := by
  rw [TL.len_tl, tl_nt h.lo]
  refine TL.numL_len (by decide) ?_
  have q := h.hi
  have e : ((10 : Int) ^ 30) = ((10 ^ 30 : Nat) : Int) := by decide +kernel
  rw [e] at q
  have := h.lo
  omega
theorem nt_pos {i : Int} (h : 0 ≤ i) : 1 ≤ (nt i).length := by
  rw [TL.len_tl, tl_nt h]
  exact List.length_pos_iff.mpr (TL.numL_ne _)
theorem nt_digits {i : Int} (h : 0 ≤ i) : ∀ c ∈ TL.tl (nt i), 48 ≤ c ∧ c ≤ 57 := by
  rw [tl_nt h]
  exact TL.numL_digits _
theorem nt_free {i : Int} (h : 0 ≤ i) : 32 ∉ TL.tl (nt i) := fun m => by
  have := nt_digits h 32 m
  omega
theorem numL_zero : ∀ (n : Nat) (r : List Nat), TL.numL n = 48 :: r → n = 0 := by
  intro n
  induction n using Nat.strongRecOn with
  | _ n ih =>
    intro r h
    by_cases c : n < 10
    · rw [TL.numL_lt c] at h
      injection h with h1 h2
      omega
    · rw [TL.numL_step (by omega)] at h
      cases e : TL.numL (n / 10) with
      | nil => exact absurd e (TL.numL_ne _)
      | cons a l =>
        rw [e] at h
        injection h with h1 h2
        have q := ih (n / 10) (by omega) l (by rw [e, h1])
        omega
def DIG : Str := "0123456789"
instance : DecidablePred NumText.AllDigits := fun cs => inferInstanceAs (Decidable (∀ c ∈ cs, 48 ≤ c ∧ c ≤ 57))
/-- the number that a word writes -/
def numIn (x : Str) : Option Int :=
  if (1 ≤ x.length ∧ x.length ≤ 30) ∧ NumText.AllDigits (TL.tl x) then
    if (TL.tl x).head? = some 48 ∧ x ≠ "0" then none else some ((NumText.digitsVal (TL.tl x) : Nat) : Int)
  else none
theorem dig_mem (c : Nat) : c ∈ DIG.cps.toList ↔ 48 ≤ c ∧ c ≤ 57 := by
  have e : DIG.cps.toList = [48, 49, 50, 51, 52, 53, 54, 55, 56, 57] := by decide +kernel
  rw [e]
  simp only [List.mem_cons, List.not_mem_nil, or_false]
  omega
theorem numIn_nt {i : Int} (h : NumW i) : numIn (nt i) = some i := by
  unfold numIn
  rw [if_pos ⟨⟨nt_pos h.lo, nt_len h⟩, nt_digits h.lo⟩]
  have hv : ((NumText.digitsVal (TL.tl (nt i)) : Nat) : Int) = i := by
    rw [tl_nt h.lo, TL.numL_val]
    have := h.lo
    omega
  rw [hv, if_neg]
  rintro ⟨h1, h2⟩
  have e := tl_nt h.lo
  rw [e] at h1
  cases q : TL.numL i.toNat with
  | nil => exact absurd q (TL.numL_ne _)
  | cons a l =>
    rw [q] at h1
    injection h1 with h1
    rw [h1] at q
    have z := numL_zero _ _ q
    refine h2 (TL.ext_tl ?_)
    rw [e, z]
    decide +kernel
/-! ### words of legs -/
def lw : LK → N3 → List Str
  | .line, n => ["every", nt n.e, "from", nt n.a, "ride", nt n.r]
  | .walk, n => ["walk", nt n.r]
  | .stop, n => ["stop", nt n.e, "from", nt n.a]
def tw : List (LK × N3) → List Str
  | [] => []
  | kn :: r => "then" :: (lw kn.1 kn.2 ++ tw r)
def wr : List (LK × N3) → List Str
  | [] => []
  | kn :: r => lw kn.1 kn.2 ++ tw r
def ttl (l : List (LK × N3)) : Str := Txt.join " " (wr l)
theorem sap (a b c : Str) : (a ++ b) ++ c = a ++ (b ++ c) := TL.ext_tl (by rw [TL.tl_append, TL.tl_append, TL.tl_append, TL.tl_append, List.append_assoc])
theorem emp (a : Str) : Str.empty ++ a = a := TL.ext_tl (by rw [TL.tl_append]; rfl)
theorem join_two (y x z : Str) (r : List Str) : Str.join y (x :: z :: r) = x ++ y ++ Str.join y (z :: r) := rfl
theorem join_app (y : Str) (z : Str) (r : List Str) : ∀ {l : List Str}, l ≠ [] → Str.join y (l ++ z :: r) = Str.join y l ++ y ++ Str.join y (z :: r)
  | [], h => absurd rfl h
  | [x], _ => rfl
  | x :: u :: l, _ => by
    show x ++ y ++ Str.join y ((u :: l) ++ z :: r) = (x ++ y ++ Str.join y (u :: l)) ++ y ++ Str.join y (z :: r)
    rw [join_app y z r (l := u :: l) (by simp)]
    simp only [sap]
theorem lw_ne (k : LK) (n : N3) : lw k n ≠ [] := by cases k <;> exact fun h => by cases h
theorem txt_join (k : LK) (n : N3) : Txt.join " " (lw k n) = txt k n := by
  have e1 : ("every " : Str) = "every" ++ " " := by decide +kernel
  have e2 : (" from " : Str) = " " ++ ("from" ++ " ") := by decide +kernel
  have e3 : (" ride " : Str) = " " ++ ("ride" ++ " ") := by decide +kernel
  have e4 : ("walk " : Str) = "walk" ++ " " := by decide +kernel
  have e5 : ("stop " : Str) = "stop" ++ " " := by decide +kernel
  rw [TL.join_eq]
  cases k
  · show Str.join " " ["every", nt n.e, "from", nt n.a, "ride", nt n.r] = (((((Str.empty ++ "every ") ++ nt n.e) ++ " from ") ++ nt n.a) ++ " ride ") ++ nt n.r
    rw [e1, e2, e3]
    simp only [join_two, emp, sap]
    rfl
  · show Str.join " " ["walk", nt n.r] = (Str.empty ++ "walk ") ++ nt n.r
    rw [e4]
    simp only [join_two, emp, sap]
    rfl
  · show Str.join " " ["stop", nt n.e, "from", nt n.a] = (((Str.empty ++ "stop ") ++ nt n.e) ++ " from ") ++ nt n.a
    rw [e5, e2]
    simp only [join_two, emp, sap]
    rfl
theorem wr_ne {l : List (LK × N3)} (h : l ≠ []) : wr l ≠ [] := by
  cases l with
  | nil => exact absurd rfl h
  | cons kn r => exact fun z => lw_ne kn.1 kn.2 (List.append_eq_nil_iff.mp z).1
theorem ttl_is : ∀ {l : List (LK × N3)}, l ≠ [] → Txt.join " then " (l.map fun kn => txt kn.1 kn.2) = ttl l
  | [], h => absurd rfl h
  | [kn], _ => by
    show Txt.join " then " [txt kn.1 kn.2] = Txt.join " " (lw kn.1 kn.2 ++ [])
    rw [List.append_nil, txt_join, TL.join_eq]
    rfl
  | kn :: k2 :: r, _ => by
    have ih := ttl_is (l := k2 :: r) (by simp)
    unfold ttl at ih ⊢
    rw [TL.join_eq] at ih ⊢
    rw [TL.join_eq] at ih ⊢
    have e : (" then " : Str) = " " ++ ("then" ++ " ") := by decide +kernel
    show txt kn.1 kn.2 ++ " then " ++ Str.join " then " ((k2 :: r).map fun kn => txt kn.1 kn.2) = Str.join " " (lw kn.1 kn.2 ++ ("then" : Str) :: wr (k2 :: r))
    rw [ih, join_app " " "then" (wr (k2 :: r)) (lw_ne _ _), ← TL.join_eq " " (lw kn.1 kn.2), txt_join, e]
    cases q : wr (k2 :: r) with
    | nil => exact absurd q (wr_ne (by simp))
    | cons a b =>
      rw [join_two]
      simp only [sap]
/-- numbers that may be written and read -/
structure LegW (n : N3) : Prop where
  e : NumW n.e
  a : NumW n.a
  r : NumW n.r
theorem lw_free {k : LK} {n : N3} (h : LegW n) : ∀ p ∈ lw k n, 32 ∉ TL.tl p := by
  have l1 : 32 ∉ TL.tl "every" := by decide +kernel
  have l2 : 32 ∉ TL.tl "from" := by decide +kernel
  have l3 : 32 ∉ TL.tl "ride" := by decide +kernel
  have l4 : 32 ∉ TL.tl "walk" := by decide +kernel
  have l5 : 32 ∉ TL.tl "stop" := by decide +kernel
  intro p hp
  cases k <;> (simp only [lw, List.mem_cons, List.not_mem_nil, or_false] at hp)
  · rcases hp with e | e | e | e | e | e <;> rw [e] <;> first | exact l1 | exact l2 | exact l3 | exact nt_free h.e.lo | exact nt_free h.a.lo | exact nt_free h.r.lo
  · rcases hp with e | e <;> rw [e] <;> first | exact l4 | exact nt_free h.r.lo
  · rcases hp with e | e | e | e <;> rw [e] <;> first | exact l5 | exact l2 | exact nt_free h.e.lo | exact nt_free h.a.lo
theorem tw_free : ∀ {l : List (LK × N3)}, (∀ kn ∈ l, LegW kn.2) → ∀ p ∈ tw l, 32 ∉ TL.tl p
  | [], _, p, hp => absurd hp (by simp [tw])
  | kn :: r, h, p, hp => by
    have l6 : 32 ∉ TL.tl "then" := by decide +kernel
    simp only [tw, List.mem_cons, List.mem_append] at hp
    rcases hp with e | e | e
    · rw [e]
      exact l6
    · exact lw_free (h kn List.mem_cons_self) p e
    · exact tw_free (fun z hz => h z (List.mem_cons_of_mem _ hz)) p e
theorem ttl_split {l : List (LK × N3)} (ne : l ≠ []) (h : ∀ kn ∈ l, LegW kn.2) : Txt.split (ttl l) " " = wr l := by
  unfold ttl
  refine TL.split_join (s := 32) (S := []) (by decide +kernel) (by decide +kernel) (wr_ne ne) fun p hp => ?_
  cases l with
  | nil => exact absurd rfl ne
  | cons kn r =>
    rcases List.mem_append.mp hp with e | e
    · exact lw_free (h kn List.mem_cons_self) p e
    · exact tw_free (fun z hz => h z (List.mem_cons_of_mem _ hz)) p e
/-! ### lengths -/
theorem join_len (y : Str) {B : Nat} : ∀ {l : List Str}, (∀ p ∈ l, p.length ≤ B) → (Txt.join y l).length ≤ l.length * (B + y.length)
  | [], _ => Nat.zero_le _
  | [x], h => by
    rw [TL.join_eq]
    show x.length ≤ 1 * _
    have := h x List.mem_cons_self
    omega
  | x :: z :: r, h => by
    have ih := join_len y (l := z :: r) fun p hp => h p (List.mem_cons_of_mem _ hp)
    rw [TL.join_eq] at ih ⊢
    rw [join_two, Str.length_append, Str.length_append, List.length_cons, Nat.add_mul, Nat.one_mul]
    have := h x List.mem_cons_self
    omega
theorem sum_len {B : Nat} : ∀ {l : List Str}, (∀ p ∈ l, p.length ≤ B) → (l.map (·.length)).sum ≤ l.length * B
  | [], _ => Nat.zero_le _
  | x :: r, h => by
    have ih := sum_len (l := r) fun p hp => h p (List.mem_cons_of_mem _ hp)
    rw [List.map_cons, List.sum_cons, List.length_cons, Nat.add_mul, Nat.one_mul]
    have := h x List.mem_cons_self
    omega
theorem lw_len (k : LK) (n : N3) : (lw k n).length ≤ 6 := match k with
  | .line => Nat.le_refl 6
  | .walk => show 2 ≤ 6 by decide
  | .stop => show 4 ≤ 6 by decide
theorem lw_word {k : LK} {n : N3} (h : LegW n) : ∀ p ∈ lw k n, p.length ≤ 30 := by
  intro p hp
  have l1 : ("every" : Str).length ≤ 30 := by decide +kernel
  have l2 : ("from" : Str).length ≤ 30 := by decide +kernel
  have l3 : ("ride" : Str).length ≤ 30 := by decide +kernel
  have l4 : ("walk" : Str).length ≤ 30 := by decide +kernel
  have l5 : ("stop" : Str).length ≤ 30 := by decide +kernel
  cases k <;> (simp only [lw, List.mem_cons, List.not_mem_nil, or_false] at hp)
  · rcases hp with e | e | e | e | e | e <;> rw [e] <;> first | exact l1 | exact l2 | exact l3 | exact nt_len h.e | exact nt_len h.a | exact nt_len h.r
  · rcases hp with e | e <;> rw [e] <;> first | exact l4 | exact nt_len h.r
  · rcases hp with e | e | e | e <;> rw [e] <;> first | exact l5 | exact l2 | exact nt_len h.e | exact nt_len h.a
theorem txt_len2 {k : LK} {n : N3} (h : LegW n) : (txt k n).length ≤ 186 := by
  rw [← txt_join]
  have a := join_len " " (lw_word (k := k) h)
  have b := lw_len k n
  have c : (" " : Str).length = 1 := by decide +kernel
  rw [c] at a
  omega
theorem ttl_len {l : List (LK × N3)} (ne : l ≠ []) (h : ∀ kn ∈ l, LegW kn.2) : (ttl l).length ≤ l.length * 192 := by
  rw [← ttl_is ne]
  have a := join_len " then " (l := l.map fun kn => txt kn.1 kn.2) (B := 186) fun p hp => by
    obtain ⟨kn, hk, rfl⟩ := List.mem_map.mp hp
    exact txt_len2 (h kn hk)
  have c : (" then " : Str).length = 6 := by decide +kernel
  rw [c, List.length_map] at a
  exact a
theorem so_ttl : ∀ {l : List (LK × N3)}, l ≠ [] → PyData.strOk (ttl l) = true
  | [], h => absurd rfl h
  | kn :: r, _ => by
    rw [← ttl_is (by simp), TL.join_eq]
    generalize hm : ((kn :: r).map fun kn : LK × N3 => txt kn.1 kn.2) = m
    have hz : ∀ p ∈ m, PyData.strOk p = true := fun p hp => by
      rw [← hm] at hp
      obtain ⟨z, _, rfl⟩ := List.mem_map.mp hp
      exact so_txt _ _
    have go : ∀ {q : List Str}, (∀ p ∈ q, PyData.strOk p = true) → PyData.strOk (Str.join " then " q) = true := by
      intro q
      induction q with
      | nil => exact fun _ => by decide +kernel
      | cons x q ih =>
        intro hq
        cases q with
        | nil => exact hq x List.mem_cons_self
        | cons z q => exact so_app (so_app (hq x List.mem_cons_self) (so_str _)) (ih fun p hp => hq p (List.mem_cons_of_mem _ hp))
    exact go hz
/-! ### Words -/
theorem lkh (f : Str) (x : V) (r : List (Str × V)) : List.lookup f ((f, x) :: r) = some x := List.lookup_cons_self
theorem lkn {f g : Str} (x : V) (r : List (Str × V)) (h : ¬ f = g) : List.lookup f ((g, x) :: r) = List.lookup f r := by
  rw [List.lookup_cons]
  rw [show (f == g) = false from beq_false_of_ne h]
theorem pfh (f : Str) (v x : V) (r : List (Str × V)) : putF f v ((f, x) :: r) = (f, v) :: r := by
  unfold putF
  rw [if_pos rfl]
theorem pfn {f g : Str} (v x : V) (r : List (Str × V)) (h : ¬ g = f) : putF f v ((g, x) :: r) = (g, x) :: putF f v r := by
  conv => lhs; unfold putF
  rw [if_neg h]
def wdF (p : Addr) (i : Int) : List (Str × V) := [("parts", .ref p), ("spot", .int i)]
section
variable {p : Addr} {i j : Int}
theorem wd_p : (wdF p i).lookup ("parts" : Str) = some (.ref p) := lkh _ _ _
theorem wd_s : (wdF p i).lookup ("spot" : Str) = some (.int i) := by
  unfold wdF
  rw [lkn _ _ (by decide +kernel), lkh]
theorem wd_no {m : Str} (h1 : ¬ m = "parts" := by decide +kernel) (h2 : ¬ m = "spot" := by decide +kernel) : (wdF p i).lookup m = none := by
  unfold wdF
  rw [lkn _ _ h1, lkn _ _ h2]
  rfl
theorem wd_put : putF "spot" (.int j) (wdF p i) = wdF p j := by
  unfold wdF
  rw [pfn _ _ _ (by decide +kernel), pfh]
theorem wd_one : (putF "parts" (.ref p) [] : List (Str × V)) = [(("parts" : Str), V.ref p)] := rfl
theorem wd_new : putF "spot" (.int i) (putF "parts" (.ref p) []) = wdF p i := by
  rw [wd_one, pfn _ _ _ (by decide +kernel)]
  rfl
end
/-- all but one object stay -/
def Wx (W : Addr) (H H' : Hp) : Prop := ∀ q o, q ≠ W → H q = some o → H' q = some o
theorem Wx.refl {W : Addr} {H : Hp} : Wx W H H := fun _ _ _ e => e
theorem Wx.trans {p : Addr} {H H1 H2 : Hp} (x : Wx p H H1) (y : Wx p H1 H2) : Wx p H H2 := fun q o n e => y q o n (x q o n e)
theorem Wx.of {p : Addr} {H H' : Hp} (s : Same H H') : Wx p H H' := fun q o _ e => s q o e
theorem Wx.put {p : Addr} {H : Hp} {o : HO} : Wx p H (upd H p o) := fun q u n e => by rw [upd_ne n]; exact e
theorem Wx.same {p : Addr} {H H' : Hp} (x : Wx p H H') (h : H p = none) : Same H H' := fun q o e => x q o (fun z => by rw [z, h] at e; cases e) e
structure Wd (K : Frag) (H : Hp) (W dx p : Addr) (a b : List Str) : Prop where
  o : H W = some (.ins (ga K "Words") dx (wdF p a.length))
  l : H p = some (.lst ((a ++ b).map V.str))
section
variable {K : Frag} {H H' : Hp} {W dx p l x : Addr} {a b : List Str} {k : LK} {n : N3} {xs : List V} {w : Str}
theorem Wd.same (h : Wd K H W dx p a b) (s : Same H H') : Wd K H' W dx p a b := ⟨s _ _ h.o, s _ _ h.l⟩
theorem Wd.lst (h : Wd K H W dx p a b) (e : H l = some (.lst xs)) : l ≠ W := fun z => by
  rw [z, h.o] at e
  cases e
theorem Wd.ln (h : Wd K H W dx p a b) (e : LnAt K H x k n) : x ≠ W := by
  rintro rfl
  obtain ⟨d, e⟩ := e
  have q := e.symm.trans h.o
  injection q with q
  injection q with _ _ q
  have z := lf_e n
  rw [q, wd_no] at z
  cases z
theorem Wx.ln (x9 : Wx W H H') (h : Wd K H W dx p a b) (e : LnAt K H x k n) : LnAt K H' x k n := let ⟨d, q⟩ := id e; ⟨d, x9 _ _ (h.ln e) q⟩
theorem Wx.lst (x9 : Wx W H H') (h : Wd K H W dx p a b) (e : H l = some (.lst xs)) : H' l = some (.lst xs) := x9 _ _ (h.lst e) e
/-- a word is taken -/
theorem Wd.step (h : Wd K H W dx p a (w :: b)) (hH : H' = upd H W (.ins (ga K "Words") dx (wdF p ((a.length : Int) + 1)))) : Wx W H H' ∧ Wd K H' W dx p (a ++ [w]) b := by
  subst hH
  refine ⟨Wx.put, ?_, ?_⟩
  · rw [upd_same, List.length_append]
    rfl
  · rw [upd_ne (h.lst h.l), h.l, List.append_assoc]
    rfl
theorem Wd.at (a : List Str) (w : Str) (b : List Str) : atI ((a ++ w :: b).map V.str) (a.length : Nat) = some (.str w) := by
  refine atI_nat ?_
  rw [List.getElem?_map, List.getElem?_append_right (Nat.le_refl _), Nat.sub_self]
  rfl
theorem Wd.bk (a : List Str) (w : Str) (b : List Str) : atI (((a ++ [w]) ++ b).map V.str) ((a.length : Int) + 1 - 1) = some (.str w) := by
  rw [show (a.length : Int) + 1 - 1 = ((a.length : Nat) : Int) by omega, List.append_assoc]
  exact Wd.at a w b
theorem in_strs (w : Str) (ws : List Str) : inV (.str w) (ws.map V.str) = decide (w ∈ ws) := by
  unfold inV
  rw [Bool.eq_iff_iff, List.any_eq_true, decide_eq_true_iff]
  constructor
  · rintro ⟨y, hy, e⟩
    obtain ⟨z, hz, rfl⟩ := List.mem_map.mp hy
    have q : z = w := by
      simpa [eqV] using e
    rw [← q]
    exact hz
  · intro h
    exact ⟨.str w, List.mem_map.mpr ⟨w, h, rfl⟩, by simp [eqV]⟩
end
/-- what a kind asks of its numbers -/
def KOk : LK → N3 → Prop
  | .line, _ => True
  | .walk, n => n.e = 1 ∧ n.a = 0
  | .stop, n => n.r = 0
end Fw
namespace Fw
open PySem PySem.Spec PyProof.Rows L2
open He (ga ma eqO eqO_ok)
theorem NumW.log {i : Int} (h : NumW i) : i.natAbs.log2 < 1920 := by
  have n : i.natAbs < 2 ^ 300 := by
    have e : ((i.natAbs : Nat) : Int) = i := by have := h.lo; omega
    have w : ((i.natAbs : Nat) : Int) < ((2 ^ 300 : Nat) : Int) := by
      rw [e]
      exact Int.lt_trans h.hi (by decide +kernel)
    exact Int.ofNat_lt.mp w
  by_cases h2 : i.natAbs = 0
  · rw [h2]
    decide
  · exact Nat.lt_trans ((Nat.log2_lt h2).mpr n) (by decide)
theorem LegW.tx {n : N3} (h : LegW n) : TxOk n := ⟨h.e.log, h.a.log, h.r.log⟩
theorem txs_sum {l : List (LK × N3)} (h60 : l.length ≤ 60) (h : ∀ kn ∈ l, LegW kn.2) {y : Str} (hy : y.length ≤ 100) : ((l.map fun kn => txt kn.1 kn.2).map (·.length)).sum + (l.map fun kn => txt kn.1 kn.2).length * y.length ≤ 16777216 := by
  have a := sum_len (l := l.map fun kn => txt kn.1 kn.2) (B := 186) fun p hp => by
    obtain ⟨kn, hk, rfl⟩ := List.mem_map.mp hp
    exact txt_len2 (h kn hk)
  rw [List.length_map] at a ⊢
  have b : l.length * y.length ≤ 60 * 100 := Nat.mul_le_mul h60 hy
  have c : l.length * 186 ≤ 60 * 186 := Nat.mul_le_mul_right _ h60
  omega
end Fw
namespace Fw
open PySem PySem.Spec PyProof.Rows L2
open He (ga ma eqO eqO_ok)
section
variable {K : Frag} {H H' : Hp} {W dx p l L y : Addr} {a b : List Str} {k : LK} {n : N3} {xs ys : List V} {rs : List Addr} {kns : List (LK × N3)}
theorem Wx.lg (x9 : Wx W H H') (h : Wd K H W dx p a b) (g : LgAt K H rs kns) : LgAt K H' rs kns := ⟨g.1, fun i r kn a b => x9.ln h (g.2 i r kn a b)⟩
theorem ln_put (eL : H L = some (.lst xs)) (g : LnAt K H y k n) : LnAt K (upd H L (.lst ys)) y k n := by
  obtain ⟨d, e⟩ := g
  refine ⟨d, ?_⟩
  rw [upd_ne (fun z => by rw [z, eL] at e; cases e)]
  exact e
theorem lgt_put (eL : H L = some (.lst xs)) (g : LgAt K H rs kns) (g1 : LnAt K H y k n) : LgAt K (upd H L (.lst ys)) (rs ++ [y]) (kns ++ [(k, n)]) := by
  refine ⟨by rw [List.length_append, List.length_append, g.1]; rfl, fun i r kn hr hk => ?_⟩
  by_cases c : i < rs.length
  · rw [List.getElem?_append_left c] at hr
    rw [List.getElem?_append_left (by rw [← g.1]; exact c)] at hk
    exact ln_put eL (g.2 i r kn hr hk)
  · have e : i = rs.length := by
      have := (List.getElem?_eq_some_iff.mp hr).1
      rw [List.length_append] at this
      simp at this
      omega
    subst e
    rw [List.getElem?_append_right (Nat.le_refl _), Nat.sub_self] at hr
    rw [g.1, List.getElem?_append_right (Nat.le_refl _), Nat.sub_self] at hk
    cases hr
    cases hk
    exact ln_put eL g1
end
theorem tw_nil {l : List (LK × N3)} (h : tw l = []) : l = [] := by
  cases l with
  | nil => rfl
  | cons a b => cases h
end Fw
namespace Fw
open PySem PySem.Spec PyProof.Rows L2
open He (ga ma eqO eqO_ok)
open Rep (rp)
/-! ### a leg as a tuple: its kind, headway, departure, ride -/
structure K4 where
  k : LK
  n : N3
instance : Rep K4 := ⟨fun _ F v x => ∃ p : Addr, v = .ref p ∧ F p = some (.tup [.str (kn x.k), .int x.n.e, .int x.n.a, .int x.n.r]), fun s h => let ⟨p, e, h⟩ := h; ⟨p, e, s _ _ h⟩⟩
section
variable {K : Frag} {F H H1 : Hp} {M : Addr → Prop} {v w : V} {Q : VK}
theorem rd_tupK {a b c : Int} {k : LK} (al : Alloc M H) (q : ∀ v H', Same H H' → rp K (Fr M H') v (⟨k, ⟨a, b, c⟩⟩ : K4) → Q v H') : sqc rTupD [.str (kn k), .int a, .int b, .int c] H Q := by
  rw [sqc_eq]
  exact ⟨by show 4 ≤ sizeLine; decide, fun p hp => q _ _ (Same.new hp) ⟨p, rfl, Fr.new al hp⟩⟩
theorem ix2 {a b : Int} {p : Prop} [Decidable p] : atI [a, b] (if decide p = true then 1 else 0) = some (if p then b else a) := by
  by_cases c : p
  · rw [if_pos (decide_eq_true c), if_pos c]
    rfl
  · rw [if_neg (by rw [decide_eq_false c]; exact Bool.false_ne_true), if_neg c]
    rfl
end
section
variable {K : Frag} {H1 : Hp} {Q : Addr → Hp → Prop} {α β : Type} [Rep α] [Rep β] {J : It} {g : TG} {tt : TT} {te : TE} {vs : List Nat} {σ : L2.St}
/-- items that are found on the way, by their places -/
theorem lc_tankR {a tc : Addr} {c N : Nat} {xs : List α} (p : Nat → β → Prop) (T : TW K (tkM a tc) H1 J xs) (hT : Tk a tc (N + c * xs.length) H1) (hz : xs.length ≤ 1000000)
    (step : ∀ (i : Nat) (x : α) (u : V) (H : Hp) (M' : Addr → Prop) (C : V → Hp → Prop) (C0 : Hp → Prop), xs[i]? = some x → Same (Fr (tkM a tc) H1) (Fr M' H) → Alloc M' H → (∀ b, tkM a tc b → M' b) → Ext (tkM a tc) H1 H → Tk a tc (N + c * (xs.length - (i + 1)) + c) H → rp K (Fr M' H) u x →
      (∀ w y H4, Ext (tkM a tc) H H4 → Tk a tc (N + c * (xs.length - (i + 1))) H4 → p i y → rp K (Fr M' H4) w y → C w H4) → g u (wipe σ vs) H fun σ2 H2 => wipe σ2 vs = wipe σ vs ∧ tt σ2 H2 fun b H3 => if b = true then te σ2 H3 C else C0 H3)
    (k : ∀ D H' (ys : List β), Ext (tkM a tc) H1 H' → Tk a tc N H' → ys.length = xs.length → (∀ j y, ys[j]? = some y → p j y) → rp K (Fr (tkM a tc) H') (.ref D) ys → Q D H') : ∀ D, H1 D = none → LcW J H1 g tt te vs σ D (Q D) := by
  obtain ⟨G, Y, wk, hG, hY⟩ := T.ex
  refine lc_repR (M0 := tkM a tc) (I := fun i H => Tk a tc (N + c * (xs.length - i)) H) wk p hT.alloc hG hz hT (fun i H D o n t => t.upd n) (fun _ _ t => t.alloc) ?_ (fun D H' ys x i _ l q r => k D H' ys x (by rw [Nat.sub_self] at i; exact i) l q r)
  rintro i x H H' M' C C0 hi s6 a7 hm s4 t7 y7 hC
  obtain ⟨z, hz2, s8, rz⟩ := hY i x H H' M' hi s6 a7 y7
  have t8 : Tk a tc (N + c * (xs.length - (i + 1)) + c) H' := by
    have q := t7.same s8
    have e2 : N + c * (xs.length - i) = N + c * (xs.length - (i + 1)) + c := by
      rw [show xs.length - i = (xs.length - (i + 1)) + 1 by omega, Nat.mul_add, Nat.mul_one]
      omega
    rw [e2] at q
    exact q
  exact step i z x H' M' C C0 hz2 (s6.trans (Fr.same s8)) (a7.same s8) hm (s4.trans (Ext.same s8)) t8 rz (fun w y H4 s t hp r => hC w y H4 ((Ext.same s8).trans s) t hp r)
end
end Fw

/-! Fw, part Ex: own errors with an __init__ that asks the base class's. -/
namespace Fw
open PySem PySem.Spec PyProof.Rows L2
open He (ga ma eqO eqO_ok)
/-- the class at C0 has ValueError's __init__ -/
structure HInit (K : Frag) (C0 : Addr) : Prop where
  rd : ClX.CRead K C0 (.type "type")
  at_ : PySem.W.findCls K (.ref C0) (.type "type") "__init__" = some (.val (.builtin "ValueError.__init__"))
def tHI (K : Frag) (C0 : Addr) (to : TE) (ta : TA) : TE := fun σ H Q => to σ H fun x H1 => x = .ref C0 ∧ tVeI K ta σ H1 Q
section
variable {X : Cx} {C0 : Addr} {o e : Expr} {es : List Expr} {to : TE} {ta : TA} {pos apos : Pos} {pl : Sem Bool}
theorem pe_hinit (ho : PE X o to) (F : HInit X.K C0) (ha : PA X (e :: es) ta)
    (he : starEach (e :: es) X.env = (false, eval e X.env) :: starEach es X.env := by rfl) (hpl : (backTo pos (starEach es X.env)).any (·.1) = false := by rfl)
    (ht : eval (.Call (.Attribute o "__init__" apos) (e :: es) [] pos) X.env = (do
      let ov ← eval o X.env
      standAt apos.atName
      let (f, first) ← holding [ov] (getMethod ov "__init__" pl)
      callWith pos f first (backTo pos (starEach (e :: es) X.env)) (backToKw pos (keywordEach [] X.env))) := by rfl) : PE X (.Call (.Attribute o "__init__" apos) (e :: es) [] pos) (tHI X.K C0 to ta) := by
  refine ⟨fun pins s σ H Q I h => ?_⟩
  refine PySem.W.methodCall_KW (pl := pl) (thn (ho.run pins s σ H _ I h) fun u s1 ⟨x, H1, I1, rx, ex, q⟩ => ?_) ht
  subst ex
  obtain rfl : u = Value.ref C0 := rx
  refine PySem.W.method_cls I1.kIn F.rd.ga (PySem.W.cls_value I1.kIn F.rd.rd F.at_ (by decide +kernel) ?_)
  show wpAny _ _ (callWith pos (Value.builtin "ValueError.__init__") [] (backTo pos (starEach (e :: es) X.env)) []) _ _ _
  refine PyProof.Rows.callWith_method1 (thn (ha.run pos pins _ σ H1 _ (I1.tok _) q) fun us s2 ⟨vs, H2, I2, r1, a, C, ws, ev, hl, T, ea, q2⟩ => ?_) he hpl
  subst ev
  cases r1 with
  | @cons _ u0 _ ur ra rw' =>
    obtain rfl : u0 = Value.ref a := ra
    have hlen : ur.length ≤ sizeLine := by
      rw [← Paired.length rw', sizeLine_eq]
      omega
    exact oinit_ok T I2 ea hlen fun s' J => ⟨.non, H2, J, rfl, q2⟩
end
/-! ### facts of an own error with an __init__ and a field -/
def oexB (K : Frag) (C : Addr) : Bool := match K.lookup C with
  | some ⟨.type "type", _, .cls cd, sl⟩ => (match cd.mro, sl.toList with
    | .ref C' :: bm, [_, _, _, _, some (.builtin n), _] => C' == C && n == "ValueError.__new__" && cd.hasDict && !cd.hasDel && PySem.HandSPX.refsVE bm
    | _, _ => false)
  | _ => false
theorem oex_cls {K : Frag} {C : Addr} (q : oexB K C = true) : ∃ nm q N bs bm sn sub ab col dd k0 k1 k2 k3 k5, K.lookup C = some (excClassObj nm q C N bs bm true sn sub ab col dd k0 k1 k2 k3 k5 "ValueError.__new__") ∧ PySem.HandSPX.refsVE bm = true := by
  unfold oexB at q
  split at q
  · rename_i dd cd sl ho
    split at q
    · rename_i C' bm k0 k1 k2 k3 n k5 hm hs
      simp only [Bool.and_eq_true, beq_iff_eq, Bool.not_eq_true'] at q
      obtain ⟨⟨⟨⟨rfl, rfl⟩, hd⟩, hdel⟩, ht⟩ := q
      obtain ⟨nm, bs, mro, ns, qn, hdd, sn, sub, ab, col, del⟩ := cd
      dsimp only at hm hdel hd
      subst hm hdel hd
      have hsl : sl = #[k0, k1, k2, k3, some (.builtin "ValueError.__new__"), k5] := by
        obtain ⟨l⟩ := sl
        simp only at hs
        rw [hs]
      subst hsl
      exact ⟨nm, qn, ns, bs, bm, sn, sub, ab, col, dd, k0, k1, k2, k3, k5, ho, ht⟩
    · cases q
  · cases q
structure ErrI (K : Frag) (C fI : Addr) (f : Str) : Prop where
  o : OexC K C
  i : PySem.W.findIn K (.ref C) "__init__" = some (some (.ref fI))
  t : PySem.W.typeIn K (.ref fI) = some (.type "function")
  w : PySem.W.findIn K (.ref C) f = some none
  xf : XfC K C
  c : ExcC K C
def cErrI (x f : Str) : Ck := fun K => oexB K (ga K x) && (eqO (PySem.W.findIn K (.ref (ga K x)) "__setattr__") (some (some (.builtin "object.__setattr__"))) && (decide (PySem.W.subIn K (.ref (ga K x)) (.type "BaseException") = some true) && (decide (PySem.W.typeIn K (.ref (ga K x)) = some (.type "type")) &&
  (PySem.W.keepIn K (.ref (ga K x)) && (eqO (PySem.W.findIn K (.ref (ga K x)) "__init__") (some (some (.ref (ma K (ga K x) "__init__")))) && (decide (PySem.W.typeIn K (.ref (ma K (ga K x) "__init__")) = some (.type "function")) && (eqO (PySem.W.findIn K (.ref (ga K x)) f) (some none) &&
  (decide (PySem.W.findIn K (.ref (ga K x)) "__getattribute__" = some (some (.builtin "BaseException.__getattribute__"))) && (decide (PySem.W.findIn K (.ref (ga K x)) "__getattr__" = some none) && (PySem.W.hasDictIn K (ga K x) &&
  (decide (PySem.W.findIn K (.ref (ga K x)) "__class__" = some (some (.builtin "object.__class__"))) && (decide (PySem.W.specialIn K (.builtin "object.__class__") "__get__" = some (some (.builtin "getset_descriptor.__get__"))) &&
  (decide (PySem.W.takesIn K (.builtin "object.__class__") = some true) && decide (PySem.W.mroIn K (ga K x) (.type "object") = some true))))))))))))))
theorem errI_of {K : Frag} {x f : Str} (c : cErrI x f K = true) : ErrI K (ga K x) (ma K (ga K x) "__init__") f := by
  unfold cErrI at c
  simp only [Bool.and_eq_true, decide_eq_true_eq] at c
  obtain ⟨c1, c2, c3, c4, c5, c6, c7, c8, c9, c10, c11, c12, c13, c14, c15⟩ := c
  exact ⟨⟨oex_cls c1, eqO_ok c2, c3, c4, c5⟩, eqO_ok c6, c7, eqO_ok c8, ⟨c9, c10, c3, c11⟩, ⟨c9, c10, c3, c11, c12, c13, c14, c15⟩⟩
def cHInit (x : Str) : Ck := fun K => PySem.W.readsIn K (ga K x) (.type "type") && (eqO (PySem.W.specialIn K (.ref (ga K x)) "__getattribute__") (some (some (.builtin "type.__getattribute__"))) &&
  (match PySem.W.findCls K (.ref (ga K x)) (.type "type") "__init__" with
  | some (.val (.builtin y)) => decide (y = "ValueError.__init__")
  | _ => false))
theorem hInit_of {K : Frag} {x : Str} (c : cHInit x K = true) : HInit K (ga K x) := by
  obtain ⟨c1, c⟩ := Bool.and_eq_true_iff.mp c
  obtain ⟨c2, c3⟩ := Bool.and_eq_true_iff.mp c
  split at c3
  · rename_i y e
    obtain rfl := of_decide_eq_true c3
    exact ⟨⟨c1, eqO_ok c2⟩, e⟩
  · cases c3
/-! ### its __init__, and the error made -/
def spErrI (C : Addr) (f : Str) : Sp := fun vs H Q _ => ∃ (a : Addr) (i : Int), vs = [.ref a, .int i] ∧ H a = some (exo a C none) ∧ ∀ dx, H dx = none → dx ≠ a → Q .non (upd (upd H dx (exd dx [(f, .int i)])) a (exo a C (some dx)))
theorem mk_errI {C : Addr} {f : Str} {i : Int} {H : Hp} {Q : XK} {E : XK} (q : ∀ d, H d = none → Q (.ref C) (some d) (upd H d (.xd [(f, .int i)]))) : ∀ a, H a = none → spErrI C f [.ref a, .int i] (upd H a (exo a C none))
    (fun v H2 => v = .non ∧ ∃ (d : Addr) (fs : List (Str × V)), H2 a = some (exo a C (some d)) ∧ H2 d = some (exd d fs) ∧ H d = none ∧ Q (.ref C) (some d) (upd (del H2 a) d (.xd fs))) E := fun a ha => by
  refine ⟨a, i, rfl, upd_same, fun dx hdx ne => ⟨rfl, dx, [(f, .int i)], upd_same, ?_, ?_, ?_⟩⟩
  · rw [upd_ne ne, upd_same]
  · rw [upd_ne ne] at hdx
    exact hdx
  · have h0 : H dx = none := by
      rw [upd_ne ne] at hdx
      exact hdx
    have e : upd (del (upd (upd (upd H a (exo a C none)) dx (exd dx [(f, .int i)])) a (exo a C (some dx))) a) dx (.xd [(f, .int i)]) = upd H dx (.xd [(f, .int i)]) := by
      funext b
      by_cases hb : b = dx
      · rw [hb, upd_same, upd_same]
      · rw [upd_ne hb, upd_ne hb]
        by_cases c : b = a
        · rw [c, del_same, ha]
        · rw [del_ne c, upd_ne c, upd_ne hb, upd_ne c]
    rw [e]
    exact q dx h0
end Fw
namespace Fw
open PySem PySem.Spec PyProof.Rows L2
/-! ### try .. except x as n: suite; more clauses that are not come to -/
def wFirst (K : Frag) (c : Value) (i : Nat) (ts : Addr → Value → Option Addr → TS) (D : Ends) : WX := fun cls d σ H =>
  PySem.W.exmOne K cls c = some true ∧ ∀ a, H a = none → ts a cls d { nx := fun τ G => D.nx (τ.set i none) G, rt := D.rt, bk := fun τ G => D.bk (τ.set i none) G, ct := fun τ G => D.ct (τ.set i none) G } (σ.set i (some (.ref a))) H
section
variable {X : Cx} {x n : Str} {c : Value} {i : Nat} {body suite : List Stmt} {hds : List ExceptHandler} {b₀ : Stmt} {np pos pos' : Pos} {tb : WX → TS} {ts : Addr → Value → Option Addr → TS}
theorem ps_try_first (eS : X.stack = X.env :: X.outer) (eF : X.env.frame = some X.env.locals) (nd : X.N.Nodup) (at_ : X.N[i]? = some n) (kl : X.env.kindOf n = some .local) (nm : Names X x c)
    (hb : ∀ (W : WX) (l : List (Addr × Obj)) (xe : Value → Shared → Prop), Takes (X.tr l xe) W → PassesOwn (model X.prog X.w) X.A X.env xe → PSs (X.tr l xe) body (tb W))
    (hs : ∀ (a : Addr) (o : Obj) (cls : Value) (d : Option Addr) (l : List (Addr × Obj)), Zc cls d o → (∃ vs, o.data = .fields vs) → PSs (X.suite a ((a, o) :: l)) (b₀ :: suite) (ts a cls d)) :
    PS X (.Try body (.ExceptHandler (some (.Name x np)) (some n) (b₀ :: suite) pos' :: hds) [] [] pos) (fun D σ H => tb (wFirst X.K c i ts D) D σ H) := by
  refine ⟨fun pins s σ H D I0 want => ?_⟩
  have ok := I0.ok
  have frames : X.A.frames = some (X.env :: X.outer) := ok.frames.trans (congrArg some eS)
  have lc : Loc X.env.scope n := Or.inl kl
  apply wpAny_Try_except
  apply wpAny_mono (M := model X.prog X.w) ((hb (wFirst X.K c i ts D) (X.pn ++ pins) (fun e t1 => wpAny (model X.prog X.w) X.A (noteFrame e X.env) (fun _ t2 => wpAny (model X.prog X.w) X.A (setFlight e none) (fun _ t3 =>
    wpAny (model X.prog X.w) X.A (handleBy e X.env (.ExceptHandler (some (.Name x np)) (some n) (b₀ :: suite) pos' :: hds)) (SP X pins D) X.xe t3) X.xe t2) X.xe t1) (fun u s9 caught => ?_) PassesOwn.looking).run [] s σ H D (I0.toTry _) want)
  · intro f t1 z
    cases f with
    | next => exact let ⟨τ, G, J, q⟩ := z; wpAny_execs_nil ⟨τ, G, J.ofTry ok, q⟩
    | brk => exact let ⟨τ, G, J, q⟩ := z; ⟨τ, G, J.ofTry ok, q⟩
    | cont => exact let ⟨τ, G, J, q⟩ := z; ⟨τ, G, J.ofTry ok, q⟩
    | ret u => exact let ⟨v, τ, G, J, r, q⟩ := z; ⟨v, τ, G, J.ofTry ok, r, q⟩
  · exact fun e t1 z => z
  obtain ⟨a, B, sI, pins', τ, G, cls, d, rfl, J', keep, higher, sky, fresh, eos, bare, exm, yes⟩ := caught
  have J0 : Inv X pins τ G sI := J'.ofTry ok
  have sky1 : Sky B (X.env :: X.outer) a (Zc cls d) X.env.locals s9.heap := eS ▸ sky
  show wpAny (model X.prog X.w) X.A (noteFrame (.ref a) X.env) _ _ s9
  apply Sky.land Zc.steady frames eF sky1
  intro h3 fly3 rise3
  have J3 : Inv X pins τ G { s9 with heap := h3 } := J0.landed keep fly3.1 (higher.trans rise3) eos bare
  obtain ⟨o3, w3, at3, zc3, da3⟩ := fly3.there
  have off : a ∉ frs (X.env :: X.outer) := by
    intro m
    obtain ⟨_, o2, e2, nf2⟩ := fly3.2.2.1.mem m
    rw [at3] at e2
    cases e2
    exact nf2 _ da3
  have offL : a ≠ X.env.locals := fun z => off (List.mem_filterMap.mpr ⟨X.env, List.mem_cons_self, eF.trans (by rw [z])⟩)
  have offF : a ∉ X.fs := by
    intro m
    obtain ⟨e, me, q⟩ := List.mem_filterMap.mp m
    exact off (List.mem_filterMap.mpr ⟨e, List.mem_cons_of_mem X.env me, q⟩)
  have S3 := J3.suite at3 da3 fresh offL offF
  apply wpAny_handleBy_cons (codeAny_handlers_test ?_) (fun q => by cases q)
  have tyA : PySem.W.Looks (model X.prog X.w) h3 (typeOf (.ref a)) cls := fun A Q E s k q => wpAny_typeOf_ref (k a o3 at3) (zc3.1 ▸ q)
  have mt := PySem.W.exm_one (M := model X.prog X.w) J3.kIn tyA exm
  have named : ∀ {Q E : Value → Shared → Prop}, Q c { s9 with heap := h3 } → wpAny (model X.prog X.w) (X.A.mark (some (.ref a))) (eval (.Name x np) X.env) Q E { s9 with heap := h3 } := by
    intro Q E q
    obtain ⟨g1, g2, g3⟩ := nm
    rcases g3 with g3 | ⟨g3, g4, g5⟩
    · exact ld_glob (X := X.suite a ((a, o3) :: (X.pn ++ pins))) S3 g1 g3 q g2
    · exact ld_blt (X := X.suite a ((a, o3) :: (X.pn ++ pins))) S3 g1 g3 g4 q g5 g2
  apply named
  refine mt.here ?_
  apply codeAny_handlers_suite_as
  apply HandSPX.lands_againZ fly3
  intro h4 fly4 rise4
  have J4 : Inv X pins τ G { s9 with heap := h4 } := J0.landed keep fly4.1 ((higher.trans rise3).trans rise4) eos bare
  obtain ⟨o4, w4, at4, zc4, da4⟩ := fly4.there
  have S4 := J4.suite at4 da4 fresh offL offF
  apply store_ok (X := X.suite a ((a, o4) :: (X.pn ++ pins))) (v := .ref a) S4 nd at_ lc rfl (fun t5 S5 => ?_) (Or.inr kl)
  apply wpAny_mono ((hs a o4 cls d (X.pn ++ pins) zc4 ⟨w4, da4⟩).run [] t5 _ G _ S5 (yes a fresh)) (fun f t6 z => ?_) (fun _ _ z => z.elim)
  have gone : ∀ {τ6 : L2.St} {G6 : Hp} {Q : Shared → Prop}, Inv (X.suite a ((a, o4) :: (X.pn ++ pins))) [] τ6 G6 t6 → (∀ t7, Inv (keepX X a o4 (X.pn ++ pins)) [] (τ6.set i none) G6 t7 → Q t7) →
      wpAny (model X.prog X.w) X.A (do bindName X.env n .none; unbindBehindTheSuite X.env n pos') (fun _ t7 => Q t7) X.xe t6 := fun S6 q => gone_ok (X := keepX X a o4 (X.pn ++ pins)) (Inv.held S6 ok) nd at_ kl q
  cases f with
  | next => exact let ⟨τ6, G6, S6, q6⟩ := z; gone S6 fun t7 J7 => ⟨_, _, Inv.drop J7 ok, q6⟩
  | brk => exact let ⟨τ6, G6, S6, q6⟩ := z; gone S6 fun t7 J7 => ⟨_, _, Inv.drop J7 ok, q6⟩
  | cont => exact let ⟨τ6, G6, S6, q6⟩ := z; gone S6 fun t7 J7 => ⟨_, _, Inv.drop J7 ok, q6⟩
  | ret u => exact let ⟨v6, τ6, G6, S6, r6, q6⟩ := z; gone S6 fun t7 J7 => ⟨_, _, _, Inv.drop J7 ok, r6, q6⟩
end
end Fw
namespace Fw
open PySem PySem.Spec PyProof.Rows L2
/-! ### list(a text) -/
theorem vals_of {acc : List Value} {vs : List V} (h : acc.length = vs.length) (g : ∀ (j : Nat) (v : Value), acc[j]? = some v → ∃ u, vs[j]? = some u ∧ RelV u v) : Vals vs acc := by
  induction vs generalizing acc with
  | nil => cases acc with
    | nil => exact .nil
    | cons a b => cases h
  | cons u vs ih => cases acc with
    | nil => cases h
    | cons a b =>
      obtain ⟨u2, e, r⟩ := g 0 a rfl
      cases e
      exact .cons r (ih (by simpa using h) fun j v hj => g (j + 1) v (by simpa using hj))
theorem call_list_sgn {X : Cx} (hc : X.calm = true) : CallR X (.type "list") (fun xs H Q => ∃ x, xs = [.str x] ∧ x.length ≤ sizeLine ∧ ∀ p, H p = none → Q (.ref p) (upd H p (.lst ((Fw.signs x).map V.str)))) := by
  intro pins s σ H xs us Q I rs h
  obtain ⟨x, rfl, hz, h⟩ := h
  cases rs with
  | cons r1 rs =>
    cases rs
    obtain ⟨t, rfl⟩ := r1
    have hp := I.hok.fresh (Nat.le_refl _)
    refine call_list_str (I.ok.hd hc) x t (fun h' tk acc' c' hk hS' hacc => ?_) hz
    refine ⟨.ref s.heap.objs.size, upd H s.heap.objs.size (.lst ((Fw.signs x).map V.str)), I.laid hk (Nat.le_refl _) ⟨by rw [List.length_map, signs_len]; exact hz, acc'.toList, c', ?_, by simpa using hS'⟩, rfl, h _ hp⟩
    refine vals_of ?_ fun j v hj => ?_
    · rw [List.length_map, signs_len, Array.length_toList, hacc.1]
      rfl
    · obtain ⟨c, u, hcx, rfl⟩ := hacc.2 j v (by simpa using hj)
      refine ⟨.str ⟨#[c]⟩, ?_, ⟨u, rfl⟩⟩
      unfold Fw.signs
      rw [List.getElem?_map, List.getElem?_map, Array.getElem?_toList, hcx]
      rfl
end Fw
namespace Fw
open PySem PySem.Spec PyProof.Rows L2
/-! ### isinstance of an error that has its own dict -/
section
variable {X : Cx} {a D dd : Addr}
theorem Has.instD {pins : List (Addr × Obj)} {σ : L2.St} {H : Hp} {s : Shared} {fs : List (Str × V)} (h : Has X a (.ref D) (some dd)) (I : Inv X pins σ H s) (hd : H dd = some (.xd fs)) : ∃ oe od, PySem.W.InstAt s.heap a oe D od := by
  obtain ⟨oe, hp, z, f⟩ := h.ex
  have g := (I.pin (a, oe) (List.mem_append_left _ hp)).1
  obtain ⟨vs, hv⟩ := f
  have hx : ObjOk X.prog X.w H s.heap dd (.xd fs) := I.hok dd _ hd
  obtain ⟨mA, hns, hr⟩ := hx
  obtain ⟨od, ho, hl⟩ := lookIn_ns hns
  exact ⟨oe, some od, g, z.1, by unfold PySem.W.notCls; rw [hv] <;> rfl, by rw [z.2]; exact ho⟩
theorem cls_some {K : Frag} {D : Addr} (h : PySem.W.hasDictIn K D = true) : (PySem.W.clsIn K D).isSome = true := by
  unfold PySem.W.hasDictIn at h
  cases e : PySem.W.clsIn K D with
  | none => rw [e] at h; cases h
  | some c => rfl
def rIsED (K : Frag) (cls : Value) (d : Option Addr) (a : Addr) : List V → Hp → VK → Prop := fun xs H Q => ∃ D dd fs, cls = .ref D ∧ d = some dd ∧ H dd = some (.xd fs) ∧ ExcC K D ∧ rIsE K D a xs H Q
def rIsETD (K : Frag) (cls : Value) (d : Option Addr) (a : Addr) : List V → Hp → VK → Prop := fun xs H Q => ∃ D dd fs, cls = .ref D ∧ d = some dd ∧ H dd = some (.xd fs) ∧ ExcC K D ∧ rIsET K D a xs H Q
variable {cls : Value} {d : Option Addr}
theorem call_isErD (h : Has X a cls d) : CallR X (.builtin "isinstance") (rIsED X.K cls d a) := by
  intro pins s σ H xs us Q I r q
  obtain ⟨D, dd, fs, rfl, rfl, hd, C, q⟩ := q
  obtain ⟨c, cv, b, rfl, only, e, q⟩ := q
  obtain ⟨u1, u2, rfl, r1, r2⟩ := vals2 r
  cases (show u1 = Value.ref a from r1)
  have isc := only u2 r2
  subst isc
  obtain ⟨oe, od, J⟩ := h.instD I hd
  exact PySem.W.kia_one (PySem.W.kitx_exc (cls_some C.hd) C.hg C.hk C.hs C.ha C.hn C.ht C.hm) I.kIn J e (fun z => nomatch z) fun tk => ⟨.bl b, H, I.tok tk, rfl, q⟩
theorem call_isErTD (h : Has X a cls d) : CallR X (.builtin "isinstance") (rIsETD X.K cls d a) := by
  intro pins s σ H xs us Q I r q
  obtain ⟨D, dd, fs, rfl, rfl, hd, C, q⟩ := q
  obtain ⟨t, zs, ws, b, rfl, hT, k, e, q⟩ := q
  obtain ⟨u1, u2, rfl, r1, r2⟩ := vals2 r
  cases (show u1 = Value.ref a from r1)
  cases (show u2 = Value.ref t from r2)
  have ot : ObjOk X.prog X.w H s.heap t (.tup zs) := I.hok t (.tup zs) hT
  obtain ⟨_, ys, vals, o, g1, g2, m, g3⟩ := ot
  have same := ClsV.all k vals
  subst same
  cases o with
  | mk c1 c2 c3 c4 =>
    dsimp only at g2 g3
    subst g2
    subst g3
    obtain ⟨oe, od, J⟩ := h.instD I hd
    exact PySem.W.kia_tup (PySem.W.kitx_exc (cls_some C.hd) C.hg C.hk C.hs C.ha C.hn C.ht C.hm) I.kIn J g1 e (fun z => nomatch z) fun tk => ⟨.bl b, H, I.tok tk, rfl, q⟩
end
end Fw

/-! Fw, part Be: texts that are cut and joined anew; text * number; repr of a number or a list. -/
namespace Fw
open PySem PySem.Spec PyProof.Rows L2
open He (ga ma eqO eqO_ok)
open Rep (rp)
open Dat (toD)
section
variable {X : Cx}
/-- a text times a number -/
theorem op_mul_str : OpR X (binaryOp .Mult) (fun x y H Q => ∃ z i, x = .str z ∧ y = .int i ∧ MulOk z i ∧ Q (.str (Txt.mul z i)) H) := by
  intro pins s σ H x y v u Q I rx ry h
  obtain ⟨z, i, rfl, rfl, hz, q⟩ := h
  obtain ⟨t, rfl⟩ := rx
  obtain ⟨t', rfl⟩ := ry
  exact SB.mul hz fun t' k => ⟨.str (Txt.mul z i), H, I.tok _, ⟨_, rfl⟩, q⟩
/-- repr of a number or a list -/
def rReprS (K : Frag) : List V → Hp → VK → Prop := fun xs H Q => (∃ i : Int, xs = [.int i] ∧ i.natAbs.log2 < 1920 ∧ Q (.str (toString i)) H) ∨ (∃ a d, xs = [.ref a] ∧ Dp K H (.ref a) d ∧ Fit d ∧ Q (.str d.shown) H)
theorem call_reprS (hg : X.A.guards = some []) (hu : X.A.units + 64 < cLine) : CallR X (.builtin "repr") (rReprS X.K) := by
  intro pins s σ H xs us Q I r h
  rcases h with h | h
  · exact SkE.call_repr_int pins s σ H xs us Q I r h
  · exact call_reprD hg hu pins s σ H xs us Q I r h
end
section
variable {K : Frag} {H : Hp} {Q : VK} {lo hi : Option Int}
theorem rd_slS {z : Str} (hz : z.length ≤ 1000000) (k : Q (.str (cutS z lo hi)) H) : sqs rSlS (.str z) lo hi H Q := by
  rw [sqs_eq]
  exact ⟨z, rfl, Nat.le_trans hz (by decide), k⟩
end
instance : Rep (Nat ⊕ List N3) := ⟨fun K F v x => match x with
  | .inl i => v = .int (i : Nat)
  | .inr l => rp K F v l, fun {_ _ _ _ x} s h => match x, h with
  | .inl _, h => h
  | .inr _, h => Rep.up s h⟩
theorem szw {i : Int} (h : NumW i) : Sz 1800 i := Sz.le h.lo (Int.le_of_lt h.hi) (Sz.of (by decide +kernel) (by decide +kernel))
def shS : Nat ⊕ List N3 → Str
  | .inl i => ((toString ((i : Nat) : Int) : String) : Str)
  | .inr l => (toD l).shown
def fitS : Nat ⊕ List N3 → Prop
  | .inl i => i ≤ 10000000
  | .inr l => l.length ≤ 100 ∧ ∀ n ∈ l, LegW n
theorem rd_reprS {K : Frag} {F H : Hp} {v : V} {Q : VK} {x : Nat ⊕ List N3} (h : rp K F v x) (hF : Same F H) (f : fitS x) (k : Q (.str (shS x)) H) : sqc (rReprS K) [v] H Q := by
  rw [sqc_eq]
  cases x with
  | inl i =>
    obtain rfl : v = .int (i : Nat) := h
    refine .inl ⟨_, rfl, ?_, k⟩
    have q : i ≤ 10000000 := f
    show (((i : Nat) : Int).natAbs).log2 < 1920
    rw [Int.natAbs_natCast]
    by_cases z : i = 0
    · rw [z]
      decide
    · have := (Nat.log2_lt z (k := 24)).mpr (by omega)
      omega
  | inr l =>
    have h : rp K F v l := h
    obtain ⟨p, e⟩ := rp_ref h
    subst e
    refine .inr ?_
    have w : ∀ n : N3, LegW n → Dat.fit 2000 n := fun n g => ⟨szw g.e, szw g.a, szw g.r, Nat.le_refl _⟩
    have q := rd_repr (W := 1000000) h hF (show Dat.fit 1000000 l from ⟨2000, fun n hn => w n (f.2 n hn), by have := f.1; omega⟩) k
    rw [sqc_eq] at q
    exact q
/-! ### signs of a text's parts -/
theorem spl_mem (S : List Nat) : ∀ (l : List Nat) (k : Nat) (acc : List Nat), ∀ p ∈ TL.spl S k acc l, ∀ c ∈ p, c ∈ acc ∨ c ∈ l
  | [], k, acc => by
    rw [TL.spl_nil]
    exact fun p hp c hc => by rw [List.mem_singleton.mp hp] at hc; exact .inl hc
  | d :: r, 0, acc => by
    cases h : TL.pre S (d :: r) with
    | true =>
      rw [TL.spl_hit h]
      intro p hp c hc
      rcases List.mem_cons.mp hp with e | e
      · rw [e] at hc
        exact .inl hc
      · rcases spl_mem S r (S.length - 1) [] p e c hc with q | q
        · cases q
        · exact .inr (List.mem_cons_of_mem _ q)
    | false =>
      rw [TL.spl_miss h]
      intro p hp c hc
      rcases spl_mem S r 0 (acc ++ [d]) p hp c hc with q | q
      · rcases List.mem_append.mp q with q | q
        · exact .inl q
        · rw [List.mem_singleton.mp q]
          exact .inr List.mem_cons_self
      · exact .inr (List.mem_cons_of_mem _ q)
  | d :: r, k + 1, acc => by
    have e : TL.spl S (k + 1) acc (d :: r) = TL.spl S k acc r := rfl
    rw [e]
    intro p hp c hc
    rcases spl_mem S r k acc p hp c hc with q | q
    · exact .inl q
    · exact .inr (List.mem_cons_of_mem _ q)
theorem so_mem {x y : Str} (h : PyData.strOk x = true) (g : ∀ c ∈ TL.tl y, c ∈ TL.tl x) : PyData.strOk y = true := by
  unfold PyData.strOk at h ⊢
  rw [Array.all_eq_true'] at h ⊢
  exact fun c hc => h c (Array.mem_toList_iff.mp (g c (Array.mem_toList_iff.mpr hc)))
theorem so_split {x y : Str} (hy : TL.tl y ≠ []) (hk : y.cps.all (· < 256) = true) (h : PyData.strOk x = true) : ∀ p ∈ Txt.split x y, PyData.strOk p = true := fun p hp => by
  refine so_mem h fun c hc => ?_
  have e := TL.split_spl x y hy (TL.kind_ok hk)
  have q := spl_mem (TL.tl y) (TL.tl x) 0 [] (TL.tl p) (by rw [← e]; exact List.mem_map.mpr ⟨p, hp, rfl⟩) c hc
  exact q.elim (fun z => by cases z) id
theorem atI_1 {a b c : V} : atI [a, b, c] 1 = some b := rfl
theorem atI_2 {a b c : V} : atI [a, b, c] 2 = some c := rfl
/-! ### words cut and joined -/
def tot (l : List Str) : Nat := (l.map (·.length)).sum + l.length
theorem tot_app (a b : List Str) : tot (a ++ b) = tot a + tot b := by
  unfold tot
  rw [List.map_append, List.sum_append, List.length_append]
  omega
theorem tot_cons (x : Str) (b : List Str) : tot (x :: b) = x.length + 1 + tot b := by
  unfold tot
  rw [List.map_cons, List.sum_cons, List.length_cons]
  omega
theorem tot_take (l : List Str) (n : Nat) : tot (l.take n) ≤ tot l := by
  have h := congrArg tot (List.take_append_drop n l)
  rw [tot_app] at h
  omega
theorem tot_drop (l : List Str) (n : Nat) : tot (l.drop n) ≤ tot l := by
  have h := congrArg tot (List.take_append_drop n l)
  rw [tot_app] at h
  omega
theorem tot_cut (l : List Str) (lo hi : Option Int) : tot (cutX l lo hi) ≤ tot l := Nat.le_trans (tot_take _ _) (tot_drop _ _)
theorem cut_mem {α : Type} {l : List α} {lo hi : Option Int} {z : α} (h : z ∈ cutX l lo hi) : z ∈ l := List.mem_of_mem_drop (List.mem_of_mem_take h)
theorem sp1 : (" " : Str).length = 1 := by decide +kernel
theorem join_tot : ∀ {l : List Str}, l ≠ [] → (Txt.join " " l).length + 1 = tot l
  | [], h => absurd rfl h
  | [x], _ => by
    rw [TL.join_eq]
    show x.length + 1 = x.length + 0 + 1
    omega
  | x :: z :: r, _ => by
    have ih := join_tot (l := z :: r) (by simp)
    rw [TL.join_eq] at ih ⊢
    rw [join_two, Str.length_append, Str.length_append, sp1, tot_cons]
    omega
theorem join_le (l : List Str) : (Txt.join " " l).length ≤ tot l := by
  cases l with
  | nil => exact Nat.zero_le _
  | cons x r =>
    have := join_tot (l := x :: r) (by simp)
    omega
theorem so_joins (y : Str) (hy : PyData.strOk y = true) : ∀ {l : List Str}, (∀ p ∈ l, PyData.strOk p = true) → PyData.strOk (Txt.join y l) = true
  | [], _ => by
    rw [TL.join_eq]
    exact (show PyData.strOk Str.empty = true by decide +kernel)
  | [x], h => by
    rw [TL.join_eq]
    exact h x List.mem_cons_self
  | x :: z :: r, h => by
    have ih := so_joins y hy (l := z :: r) fun p hp => h p (List.mem_cons_of_mem _ hp)
    rw [TL.join_eq] at ih ⊢
    rw [join_two]
    exact so_app (so_app (h x List.mem_cons_self) hy) ih
theorem spl_ne (S : List Nat) : ∀ (l : List Nat) (k : Nat) (acc : List Nat), TL.spl S k acc l ≠ []
  | [], k, acc => by
    rw [TL.spl_nil]
    simp
  | c :: r, 0, acc => by
    cases h : TL.pre S (c :: r) with
    | true =>
      rw [TL.spl_hit h]
      simp
    | false =>
      rw [TL.spl_miss h]
      exact spl_ne S r 0 _
  | c :: r, k + 1, acc => spl_ne S r k acc
theorem split_ne (x : Str) : Txt.split x " " ≠ [] := fun z => by
  have e := TL.split_spl x " " (by decide +kernel) (TL.kind_ok (by decide +kernel))
  rw [z] at e
  exact spl_ne _ _ _ _ e.symm
theorem split_tot (x : Str) : tot (Txt.split x " ") = x.length + 1 := by
  rw [← join_tot (split_ne x), TL.join_eq, PySem.StrLaws.join_split]
/-- words of a fit length and of fit signs -/
structure BOk (B : Nat) (l : List Str) : Prop where
  t : tot l ≤ B
  o : ∀ p ∈ l, PyData.strOk p = true
theorem BOk.cut {B : Nat} {l : List Str} (h : BOk B l) {lo hi : Option Int} : BOk B (cutX l lo hi) := ⟨Nat.le_trans (tot_cut _ _ _) h.t, fun p hp => h.o p (cut_mem hp)⟩
theorem BOk.app {B C : Nat} {a b : List Str} (h : BOk B a) (g : BOk C b) : BOk (B + C) (a ++ b) := ⟨by rw [tot_app]; exact Nat.add_le_add h.t g.t, fun p hp => (List.mem_append.mp hp).elim (h.o p) (g.o p)⟩
theorem BOk.one {C : Nat} {z : Str} (h : z.length ≤ C) (o : PyData.strOk z = true) : BOk (C + 1) [z] := ⟨by rw [tot_cons]; show z.length + 1 + 0 ≤ _; omega, fun p hp => by rw [List.mem_singleton.mp hp]; exact o⟩
theorem BOk.len {B : Nat} {l : List Str} (h : BOk B l) : l.length ≤ B := by
  have := h.t
  unfold tot at this
  omega
theorem BOk.sum {B : Nat} {l : List Str} (h : BOk B l) (b : B ≤ 16777216) : (l.map (·.length)).sum + l.length * (" " : Str).length ≤ 16777216 := by
  have := h.t
  unfold tot at this
  rw [sp1]
  omega
theorem BOk.join {B : Nat} {l : List Str} (h : BOk B l) : (Txt.join " " l).length ≤ B ∧ PyData.strOk (Txt.join " " l) = true := ⟨Nat.le_trans (join_le l) h.t, so_joins _ (by decide +kernel) h.o⟩
theorem BOk.cat {B C : Nat} {a b : List Str} (h : BOk B a) (g : BOk C b) (l : B + C ≤ 100000) : a.length + b.length ≤ 100000 := by
  have := h.len
  have := g.len
  omega
theorem BOk.fin {B C : Nat} {l : List Str} (h : BOk B l) (l2 : B ≤ C) : (Txt.join " " l).length ≤ C ∧ PyData.strOk (Txt.join " " l) = true := ⟨Nat.le_trans h.join.1 l2, h.join.2⟩
theorem BOk.split {x : Str} (h : PyData.strOk x = true) : BOk (x.length + 1) (Txt.split x " ") := ⟨Nat.le_of_eq (split_tot x), so_split (by decide +kernel) (by decide +kernel) h⟩
theorem so_cutS {z : Str} {lo hi : Option Int} (h : PyData.strOk z = true) : PyData.strOk (cutS z lo hi) = true := by
  unfold PyData.strOk at h ⊢
  rw [Array.all_eq_true'] at h ⊢
  intro c hc
  refine h c ?_
  unfold cutS at hc
  have hc : c ∈ ((z.cps.toList.drop (HT.sIx z.length 0 lo)).take (HT.sIx z.length z.length hi - HT.sIx z.length 0 lo)) := List.mem_toArray.mp hc
  exact Array.mem_toList_iff.mp (List.mem_of_mem_drop (List.mem_of_mem_take hc))
theorem so_sgn {z : Str} {i : Int} {c : Nat} (h : PyData.strOk z = true) (e : atI z.cps.toList i = some c) : PyData.strOk ⟨#[c]⟩ = true := by
  unfold PyData.strOk at h ⊢
  rw [Array.all_eq_true'] at h ⊢
  intro d hd
  have hd : d = c := by simpa using hd
  rw [hd]
  refine h c (Array.mem_toList_iff.mp ?_)
  unfold atI at e
  cases q : ixN z.cps.toList.length i with
  | none => rw [q] at e; cases e
  | some j => rw [q] at e; exact List.mem_of_getElem? e
/-- three pieces: cut, a sign, cut -/
theorem cs_len {z : Str} {lo hi : Option Int} {c : Nat} (h : z.length ≤ 40000) : (cutS z lo hi).length + (⟨#[c]⟩ : Str).length ≤ sizeLine := by
  have a := cutS_length z lo hi
  have b : (⟨#[c]⟩ : Str).length = 1 := rfl
  exact Nat.le_trans (show _ ≤ 1000000 by omega) (by decide)
theorem csc_len {z : Str} {lo hi lo2 hi2 : Option Int} {c : Nat} (h : z.length ≤ 40000) : (cutS z lo hi ++ (⟨#[c]⟩ : Str)).length + (cutS z lo2 hi2).length ≤ sizeLine := by
  have a := cutS_length z lo hi
  have d := cutS_length z lo2 hi2
  have b : (⟨#[c]⟩ : Str).length = 1 := rfl
  rw [Str.length_append]
  exact Nat.le_trans (show _ ≤ 1000000 by omega) (by decide)
theorem csc_fin {z s : Str} {lo hi lo2 hi2 : Option Int} {c : Nat} {i : Int} (h : PyData.strOk z = true) (hs : PyData.strOk s = true) (e : atI s.cps.toList i = some c) : ((cutS z lo hi ++ (⟨#[c]⟩ : Str)) ++ cutS z lo2 hi2).length ≤ 2 * z.length + 100 ∧ PyData.strOk ((cutS z lo hi ++ (⟨#[c]⟩ : Str)) ++ cutS z lo2 hi2) = true := by
  have a := cutS_length z lo hi
  have d := cutS_length z lo2 hi2
  have b : (⟨#[c]⟩ : Str).length = 1 := rfl
  refine ⟨?_, so_app (so_app (so_cutS h) (so_sgn hs e)) (so_cutS h)⟩
  rw [Str.length_append, Str.length_append]
  omega
theorem Mu.drawM {α : Type} [Rep α] {K : Frag} {T M : Addr → Prop} {H H' : Hp} {D : Addr} {xs : List α} (m : Mu K M H D xs) (x : Ext T H H') (h : ∀ b, T b → M b) (n : ¬ T D) : Mu K M H' D xs := m.ext (Fr.ext (Ext.sub h x)) fun o e => x _ _ n e
end Fw

/-! Fw, part Nt: nets, their states, the law's own nets. -/
namespace Fw
open PySem PySem.Spec PyProof.Rows L2
open He (ga ma eqO eqO_ok)
open Rep (rp)
open Dat (toD)
/-! ### a list against the empty one -/
section
variable {X : Cx}
def rEqE (K : Frag) (neg : Bool) : R2 := fun x y H Q => ∃ p q xs, x = .ref p ∧ y = .ref q ∧ SqL K H p xs ∧ SqL K H q [] ∧ Q (.bl (if neg then !xs.isEmpty else xs.isEmpty)) H
theorem op_eqE (hu : X.A.units + 64 < cLine) : OpR X (compareOp .Eq) (rEqE X.K false) := by
  intro pins s σ H x y v u Q I rx ry h
  obtain ⟨p, q, xs, rfl, rfl, h1, h2, k⟩ := h
  obtain rfl : v = Value.ref p := rx
  obtain rfl : u = Value.ref q := ry
  obtain ⟨us, r1, p1, _⟩ := I.list h1
  obtain ⟨ws, r2, p2, _⟩ := I.list h2
  have w0 : ws.length = 0 := (r2.length).symm
  have hu' : X.A.units < cLine := by omega
  cases xs with
  | nil =>
    have u0 : us.length = 0 := (r1.length).symm
    refine SeqAt.eq_listAt (e := fun _ => true) p1.isList p2.isList (by simp; omega) hu' (fun j j1 j2 => ?_) ?_
    · simp at j1
      omega
    · rw [show ((List.range us.toArray.size).all fun _ => true) = true from List.all_eq_true.mpr fun _ _ => rfl]
      exact ⟨.bl true, H, I, rfl, k⟩
  | cons x xs =>
    have u1 : us.length = xs.length + 1 := (r1.length).symm
    exact SeqAt.eq_list_lengthsAt p1.isList p2.isList (by simp; omega) hu' ⟨.bl false, H, I, rfl, k⟩
theorem op_neE (hu : X.A.units + 64 < cLine) : OpR X (compareOp .NotEq) (rEqE X.K true) := by
  intro pins s σ H x y v u Q I rx ry h
  obtain ⟨p, q, xs, rfl, rfl, h1, h2, k⟩ := h
  obtain rfl : v = Value.ref p := rx
  obtain rfl : u = Value.ref q := ry
  obtain ⟨us, r1, p1, _⟩ := I.list h1
  obtain ⟨ws, r2, p2, _⟩ := I.list h2
  have w0 : ws.length = 0 := (r2.length).symm
  have hu' : X.A.units < cLine := by omega
  cases xs with
  | nil =>
    have u0 : us.length = 0 := (r1.length).symm
    refine SeqAt.RcNeAt.lists (e := fun _ => true) p1.isList p2.isList (by simp; omega) hu' (fun j j1 j2 => ?_) _ _ _ _ ?_
    · simp at j1
      omega
    · rw [show ((List.range us.toArray.size).all fun _ => true) = true from List.all_eq_true.mpr fun _ _ => rfl]
      exact ⟨.bl false, H, I, rfl, k⟩
  | cons x xs =>
    have u1 : us.length = xs.length + 1 := (r1.length).symm
    exact SeqAt.RcNeAt.lists_lengths p1.isList p2.isList (by simp; omega) hu' _ _ _ _ ⟨.bl true, H, I, rfl, k⟩
end
/-! ### states and nets -/
abbrev TD : Type := P3 (List (Int × Int)) (List N3) (List (Int × Int))
structure SO where
  t : TD
def soF (a b c : V) : List (Str × V) := [("all_lines", a), ("all_wishes", b), ("all_fixed", c)]
theorem so_l {a b c : V} : (soF a b c).lookup ("all_lines" : Str) = some a := lkh _ _ _
theorem so_w {a b c : V} : (soF a b c).lookup ("all_wishes" : Str) = some b := by
  unfold soF
  rw [lkn _ _ (by decide +kernel), lkh]
theorem so_f {a b c : V} : (soF a b c).lookup ("all_fixed" : Str) = some c := by
  unfold soF
  rw [lkn _ _ (by decide +kernel), lkn _ _ (by decide +kernel), lkh]
theorem so_new {a b c : V} : putF "all_fixed" c (putF "all_wishes" b (putF "all_lines" a [])) = soF a b c := by
  rw [show (putF "all_lines" a [] : List (Str × V)) = [(("all_lines" : Str), a)] from rfl, pfn _ _ _ (by decide +kernel)]
  rw [show (putF "all_wishes" b [] : List (Str × V)) = [(("all_wishes" : Str), b)] from rfl, pfn _ _ _ (by decide +kernel), pfn _ _ _ (by decide +kernel)]
  rfl
instance : Rep SO := ⟨fun K F v x => ∃ (p dx : Addr) (a b c : V), v = .ref p ∧ F p = some (.ins (ga K "State") dx (soF a b c)) ∧ rp K F a x.t.a ∧ rp K F b x.t.b ∧ rp K F c x.t.c,
  fun s h => let ⟨p, dx, a, b, c, e, h, ra, rb, rc⟩ := h; ⟨p, dx, a, b, c, e, s _ _ h, Rep.up s ra, Rep.up s rb, Rep.up s rc⟩⟩
/-- where a net lies -/
structure NA where
  W : Addr
  dx : Addr
  S : Addr
  Mk : Addr
def nM (X : NA) (b : Addr) : Prop := b = X.W ∨ b = X.S ∨ b = X.Mk
def ntF (S Mk : V) : List (Str × V) := [("states", S), ("marks", Mk)]
section
variable {S Mk v : V}
theorem nt_s : (ntF S Mk).lookup ("states" : Str) = some S := lkh _ _ _
theorem nt_m : (ntF S Mk).lookup ("marks" : Str) = some Mk := by
  unfold ntF
  rw [lkn _ _ (by decide +kernel), lkh]
theorem nt_no {m : Str} (h1 : ¬ m = "states" := by decide +kernel) (h2 : ¬ m = "marks" := by decide +kernel) : (ntF S Mk).lookup m = none := by
  unfold ntF
  rw [lkn _ _ h1, lkn _ _ h2]
  rfl
theorem nt_ps : putF "states" v (ntF S Mk) = ntF v Mk := pfh _ _ _ _
theorem nt_pm : putF "marks" v (ntF S Mk) = ntF S v := by
  unfold ntF
  rw [pfn _ _ _ (by decide +kernel), pfh]
theorem nt_new : putF "marks" Mk (putF "states" S []) = ntF S Mk := by
  rw [show (putF "states" S [] : List (Str × V)) = [(("states" : Str), S)] from rfl, pfn _ _ _ (by decide +kernel)]
  rfl
end
theorem putF_len (f : Str) (v : V) : ∀ fs : List (Str × V), (putF f v fs).length ≤ fs.length + 1
  | [] => Nat.le_refl _
  | (g, w) :: r => by
    by_cases c : g = f
    · rw [c, pfh]
      exact Nat.le_succ _
    · rw [pfn _ _ _ c]
      exact Nat.succ_le_succ (putF_len f v r)
theorem pl0 : ([] : List (Str × V)).length < 1000 := by decide
theorem pl1 {f : Str} {v : V} : (putF f v []).length < 1000 := Nat.lt_of_le_of_lt (putF_len _ _ _) (by decide)
theorem pl2 {f g : Str} {v w : V} : (putF f v (putF g w [])).length < 1000 := Nat.lt_of_le_of_lt (putF_len _ _ _) (Nat.lt_of_le_of_lt (Nat.succ_le_succ (putF_len _ _ _)) (by decide))
theorem plN {S Mk : V} : (ntF S Mk).length < 1000 := show (2 : Nat) < 1000 by decide
structure Nt (K : Frag) (M : Addr → Prop) (H : Hp) (X : NA) (sts : List SO) (ms : List Int) : Prop where
  o : H X.W = some (.ins (ga K "Net") X.dx (ntF (.ref X.S) (.ref X.Mk)))
  s : ∃ vs, H X.S = some (.lst vs) ∧ Paired (fun v x => rp K (Fr M H) v x) vs sts
  m : H X.Mk = some (.lst (ms.map V.int))
  ne : X.S ≠ X.Mk
  sub : ∀ b, nM X b → M b
/-- the state now -/
def topS (sts : List SO) : SO := sts.getLast?.getD ⟨⟨[], [], []⟩⟩
theorem topS_app (sts : List SO) (s : SO) : topS (sts ++ [s]) = s := by
  unfold topS
  rw [List.getLast?_concat]
  rfl
section
variable {K : Frag} {M M' T : Addr → Prop} {H H' : Hp} {X : NA} {sts : List SO} {ms : List Int}
/-- what stands still, seen from a heap where more may change -/
structure Gw (M M' : Addr → Prop) (H H' : Hp) : Prop where
  up : ∀ b, M b → M' b
  new : ∀ b, M' b → M b ∨ H b = none
  x : Ext M H H'
theorem Gw.fr (g : Gw M M' H H') : Same (Fr M H) (Fr M' H') := fun b o e => by
  have n := Fr.no e
  have e := Fr.sub _ _ e
  refine Fr.get (fun z => ?_) (g.x _ _ n e)
  rcases g.new b z with q | q
  · exact n q
  · rw [q] at e
    cases e
theorem Gw.refl : Gw M M H H := ⟨fun _ m => m, fun _ m => .inl m, Ext.refl⟩
theorem Gw.of (x : Ext M H H') : Gw M M H H' := ⟨fun _ m => m, fun _ m => .inl m, x⟩
theorem Gw.trans {M'' : Addr → Prop} {H'' : Hp} (g : Gw M M' H H') (k : Gw M' M'' H' H'') : Gw M M'' H H'' := by
  have ne : ∀ b, ¬ M b → H b ≠ none → H' b ≠ none := fun b n e z => by
    cases q : H b with
    | none => exact e q
    | some o =>
      rw [g.x _ _ n q] at z
      cases z
  refine ⟨fun b m => k.up b (g.up b m), fun b m => ?_, fun b o n e => ?_⟩
  · rcases k.new b m with q | q
    · exact g.new b q
    · by_cases c : M b
      · exact .inl c
      · by_cases d : H b = none
        · exact .inr d
        · exact absurd q (ne b c d)
  · refine k.x _ _ (fun z => ?_) (g.x _ _ n e)
    rcases g.new b z with q | q
    · exact n q
    · rw [q] at e
      cases e
theorem Gw.alloc_new {p : Addr} (g : Gw M M' H H') (al : Alloc M H) (h : H' p = none) (h2 : Alloc M' H') : H p = none := by
  cases e : H p with
  | none => rfl
  | some o =>
    by_cases c : M p
    · exact absurd (g.up p c) (h2.new h)
    · rw [g.x _ _ c e] at h
      cases h
theorem Nt.same (h : Nt K M H X sts ms) (s : Same H H') : Nt K M H' X sts ms := ⟨s _ _ h.o, let ⟨vs, a, b⟩ := h.s; ⟨vs, s _ _ a, Paired.mapP b fun _ _ r => Rep.up (Fr.same s) r⟩, s _ _ h.m, h.ne, h.sub⟩
/-- another net stays -/
theorem Nt.keep (h : Nt K M H X sts ms) (g : Gw M M' H H') (x : Ext T H H') (d : ∀ b, nM X b → ¬ T b) : Nt K M' H' X sts ms :=
  ⟨x _ _ (d _ (.inl rfl)) h.o, let ⟨vs, a, b⟩ := h.s; ⟨vs, x _ _ (d _ (.inr (.inl rfl))) a, Paired.mapP b fun _ _ r => Rep.up g.fr r⟩, x _ _ (d _ (.inr (.inr rfl))) h.m, h.ne, fun b m => g.up b (h.sub b m)⟩
theorem Nt.WS (h : Nt K M H X sts ms) : X.W ≠ X.S := fun z => by
  obtain ⟨vs, a, _⟩ := h.s
  have := h.o
  rw [z, a] at this
  cases this
theorem Nt.WM (h : Nt K M H X sts ms) : X.W ≠ X.Mk := fun z => by
  have := h.o
  rw [z, h.m] at this
  cases this
/-- a state more -/
theorem Nt.push {v : V} {s : SO} {vs : List V} (h : Nt K M H X sts ms) (e : H X.S = some (.lst vs)) (r : rp K (Fr M H) v s) : Nt K M (upd H X.S (.lst (vs ++ [v]))) X (sts ++ [s]) ms ∧ Ext (fun b => b = X.S) H (upd H X.S (.lst (vs ++ [v]))) ∧ Same (Fr M H) (Fr M (upd H X.S (.lst (vs ++ [v])))) := by
  have sm : Same (Fr M H) (Fr M (upd H X.S (.lst (vs ++ [v])))) := Fr.wr (h.sub _ (.inr (.inl rfl)))
  obtain ⟨vs', a, b⟩ := h.s
  rw [e] at a
  cases a
  refine ⟨⟨by rw [upd_ne h.WS]; exact h.o, ⟨_, upd_same, pd_app (Paired.mapP b fun _ _ q => Rep.up sm q) (.cons (Rep.up sm r) .nil)⟩, by rw [upd_ne h.ne.symm]; exact h.m, h.ne, h.sub⟩, fun b o n e => by rw [upd_ne n]; exact e, sm⟩
/-- a mark more -/
theorem Nt.mark {i : Int} (h : Nt K M H X sts ms) : Nt K M (upd H X.Mk (.lst (ms.map V.int ++ [.int i]))) X sts (ms ++ [i]) ∧ Ext (fun b => b = X.Mk) H (upd H X.Mk (.lst (ms.map V.int ++ [.int i]))) := by
  have sm : Same (Fr M H) (Fr M (upd H X.Mk (.lst (ms.map V.int ++ [.int i])))) := Fr.wr (h.sub _ (.inr (.inr rfl)))
  obtain ⟨vs, a, b⟩ := h.s
  refine ⟨⟨by rw [upd_ne h.WM]; exact h.o, ⟨_, by rw [upd_ne h.ne]; exact a, Paired.mapP b fun _ _ q => Rep.up sm q⟩, by rw [upd_same, List.map_append]; rfl, h.ne, h.sub⟩, fun b o n e => by rw [upd_ne n]; exact e⟩
theorem Alloc.wrM {D : Addr} {o : HO} (al : Alloc M H) (q : MutO o) : Alloc M (upd H D o) := fun p m => by
  by_cases e : p = D
  · rw [e, upd_same]
    exact ⟨o, rfl, q⟩
  · rw [upd_ne e]
    exact al p m
end
/-! ### the law's own net -/
structure Ow (K : Frag) (M : Addr → Prop) (H : Hp) (O : Addr) (ost : List TD) (om : List Int) : Prop where
  o : ∃ v w, H O = some (.lst [v, w]) ∧ rp K (Fr M H) v ost ∧ rp K (Fr M H) w om
  sub : M O
section
variable {K : Frag} {M M' T : Addr → Prop} {H H' : Hp} {O : Addr} {ost ost' : List TD} {om om' : List Int}
theorem Ow.same (h : Ow K M H O ost om) (s : Same H H') : Ow K M H' O ost om := ⟨let ⟨v, w, e, a, b⟩ := h.o; ⟨v, w, s _ _ e, Rep.up (Fr.same s) a, Rep.up (Fr.same s) b⟩, h.sub⟩
theorem Ow.keep (h : Ow K M H O ost om) (g : Gw M M' H H') (x : Ext T H H') (d : ¬ T O) : Ow K M' H' O ost om := ⟨let ⟨v, w, e, a, b⟩ := h.o; ⟨v, w, x _ _ d e, Rep.up g.fr a, Rep.up g.fr b⟩, g.up _ h.sub⟩
theorem Ow.set0 {v w u : V} (h : Ow K M H O ost om) (e : H O = some (.lst [v, w])) (r : rp K (Fr M H) u ost') : Ow K M (upd H O (.lst [u, w])) O ost' om ∧ Ext (fun b => b = O) H (upd H O (.lst [u, w])) := by
  have sm : Same (Fr M H) (Fr M (upd H O (.lst [u, w]))) := Fr.wr h.sub
  obtain ⟨v', w', e', a, b⟩ := h.o
  rw [e] at e'
  cases e'
  exact ⟨⟨⟨_, _, upd_same, Rep.up sm r, Rep.up sm b⟩, h.sub⟩, fun b o n e => by rw [upd_ne n]; exact e⟩
theorem Ow.set1 {v w u : V} (h : Ow K M H O ost om) (e : H O = some (.lst [v, w])) (r : rp K (Fr M H) u om') : Ow K M (upd H O (.lst [v, u])) O ost om' ∧ Ext (fun b => b = O) H (upd H O (.lst [v, u])) := by
  have sm : Same (Fr M H) (Fr M (upd H O (.lst [v, u]))) := Fr.wr h.sub
  obtain ⟨v', w', e', a, b⟩ := h.o
  rw [e] at e'
  cases e'
  exact ⟨⟨⟨_, _, upd_same, Rep.up sm a, Rep.up sm r⟩, h.sub⟩, fun b o n e => by rw [upd_ne n]; exact e⟩
end
/-! ### tank, net and own net together -/
def opM (a tc : Addr) (X : NA) (O : Addr) (b : Addr) : Prop := tkM a tc b ∨ nM X b ∨ b = O
structure Nw (K : Frag) (M : Addr → Prop) (a tc : Addr) (N : Nat) (H : Hp) (X : NA) (O : Addr) (sts : List SO) (ms : List Int) (ost : List TD) (om : List Int) : Prop where
  t : Tk a tc N H
  n : Nt K M H X sts ms
  w : Ow K M H O ost om
  al : Alloc M H
  subt : ∀ b, tkM a tc b → M b
  d1 : ∀ b, tkM a tc b → ¬ nM X b
  d2 : ¬ tkM a tc O
  d3 : ¬ nM X O
section
variable {K : Frag} {M M' : Addr → Prop} {H H' : Hp} {a tc O : Addr} {X : NA} {N N' : Nat} {sts sts' : List SO} {ms ms' : List Int} {ost ost' : List TD} {om om' : List Int}
theorem Nw.same (h : Nw K M a tc N H X O sts ms ost om) (s : Same H H') : Nw K M a tc N H' X O sts ms ost om := ⟨h.t.same s, h.n.same s, h.w.same s, h.al.same s, h.subt, h.d1, h.d2, h.d3⟩
theorem Nw.less (h : Nw K M a tc N H X O sts ms ost om) (l : N' ≤ N) : Nw K M a tc N' H X O sts ms ost om := ⟨h.t.less l, h.n, h.w, h.al, h.subt, h.d1, h.d2, h.d3⟩
theorem Nw.sub (h : Nw K M a tc N H X O sts ms ost om) : ∀ b, opM a tc X O b → M b := fun b z => z.elim (h.subt b) fun z => z.elim (h.n.sub b) fun z => z ▸ h.w.sub
theorem Nw.draw (al : Alloc M H) (x : Ext (opM a tc X O) H H') (h : Nw K M a tc N H' X O sts ms ost om) : Alloc M H' := h.al
theorem Nw.fin (h : Nw K M a tc N H X O sts ms ost om) {p : Addr} (e : H p = none) : ¬ opM a tc X O p := fun z => h.al.new e (h.sub p z)
/-- after a draw -/
theorem Nw.tk (h : Nw K M a tc N H X O sts ms ost om) (x : Ext (tkM a tc) H H') (t : Tk a tc N' H') : Nw K M a tc N' H' X O sts ms ost om ∧ Ext (opM a tc X O) H H' := by
  have g : Gw M M H H' := Gw.of (Ext.sub h.subt x)
  refine ⟨⟨t, h.n.keep g x (fun b n m => h.d1 b m n), h.w.keep g x h.d2, fun p m => ?_, h.subt, h.d1, h.d2, h.d3⟩, Ext.sub (fun _ m => .inl m) x⟩
  by_cases c : tkM a tc p
  · exact t.alloc p c
  · obtain ⟨o, e, q⟩ := h.al p m
    exact ⟨o, x _ _ c e, q⟩
/-- after a change of the net alone -/
theorem Nw.nt (h : Nw K M a tc N H X O sts ms ost om) (x : Ext (nM X) H H') (n : Nt K M H' X sts' ms') (al : Alloc M H') : Nw K M a tc N H' X O sts' ms' ost om ∧ Ext (opM a tc X O) H H' := by
  have g : Gw M M H H' := Gw.of (Ext.sub h.n.sub x)
  obtain ⟨ds, m, k, e1, e2, r⟩ := h.t
  exact ⟨⟨⟨ds, m, k, x _ _ (h.d1 _ (.inl rfl)) e1, x _ _ (h.d1 _ (.inr rfl)) e2, r⟩, n, h.w.keep g x h.d3, al, h.subt, h.d1, h.d2, h.d3⟩, Ext.sub (fun _ m => .inr (.inl m)) x⟩
/-- after a change of the own net alone -/
theorem Nw.ow (h : Nw K M a tc N H X O sts ms ost om) (x : Ext (fun b => b = O) H H') (w : Ow K M H' O ost' om') (al : Alloc M H') : Nw K M a tc N H' X O sts ms ost' om' ∧ Ext (opM a tc X O) H H' := by
  have g : Gw M M H H' := Gw.of (Ext.sub (fun b (z : b = O) => by rw [z]; exact h.w.sub) x)
  obtain ⟨ds, m, k, e1, e2, r⟩ := h.t
  exact ⟨⟨⟨ds, m, k, x _ _ (fun z => h.d2 (z ▸ .inl rfl)) e1, x _ _ (fun z => h.d2 (z ▸ .inr rfl)) e2, r⟩, h.n.keep g x (fun b n z => h.d3 (z ▸ n)), w, al, h.subt, h.d1, h.d2, h.d3⟩, Ext.sub (fun _ m => .inr (.inr m)) x⟩
end
/-! ### new nets, nets whose lists are exchanged -/
section
variable {K : Frag} {M M' T : Addr → Prop} {H H0 H' : Hp} {X : NA} {sts sts' : List SO} {ms ms' : List Int} {p : Addr} {vs' : List V}
def MX (M : Addr → Prop) (X : NA) : Addr → Prop := fun b => M b ∨ nM X b
theorem Nt.mk2 {vs : List V} (al : Alloc M H) (s : Same H H') (fr : ∀ b, nM X b → H b = none) (o : H' X.W = some (.ins (ga K "Net") X.dx (ntF (.ref X.S) (.ref X.Mk)))) (es : H' X.S = some (.lst vs)) (pd : Paired (fun v x => rp K (Fr M H) v x) vs sts)
    (em : H' X.Mk = some (.lst (ms.map V.int))) (ne : X.S ≠ X.Mk) : Nt K (MX M X) H' X sts ms ∧ Gw M (MX M X) H H' ∧ Alloc (MX M X) H' := by
  have g : Gw M (MX M X) H H' := ⟨fun b m => .inl m, fun b m => m.elim .inl fun z => .inr (fr b z), Ext.same s⟩
  refine ⟨⟨o, ⟨vs, es, Paired.mapP pd fun _ _ r => Rep.up g.fr r⟩, em, ne, fun b z => .inr z⟩, g, fun b m => ?_⟩
  rcases m with m | m | m | m
  · exact al.same s b m
  · rw [m]
    exact ⟨_, o, .inl (by show (2 : Nat) ≠ 3; decide)⟩
  · rw [m]
    exact ⟨_, es, trivial⟩
  · rw [m]
    exact ⟨_, em, trivial⟩
theorem Nt.setS (h : Nt K M H0 X sts ms) (al : Alloc M H0) (s : Same H0 H) (p0 : H0 p = none) (hp : H p = some (.lst vs')) (pd : Paired (fun v x => rp K (Fr M H0) v x) vs' sts')
    (eH : H' = upd H X.W (.ins (ga K "Net") X.dx (ntF (.ref p) (.ref X.Mk)))) : Nt K (Ad p M) H' ⟨X.W, X.dx, p, X.Mk⟩ sts' ms ∧ Gw M (Ad p M) H0 H' ∧ Alloc (Ad p M) H' ∧ Ext (fun b => b = X.W) H0 H' := by
  subst eH
  have nW : p ≠ X.W := fun z => by rw [z, h.o] at p0; cases p0
  have nM' : p ≠ X.Mk := fun z => by rw [z, h.m] at p0; cases p0
  have x : Ext (fun b => b = X.W) H0 (upd H X.W (.ins (ga K "Net") X.dx (ntF (.ref p) (.ref X.Mk)))) := fun b o n e => by rw [upd_ne n]; exact s _ _ e
  have g : Gw M (Ad p M) H0 (upd H X.W (.ins (ga K "Net") X.dx (ntF (.ref p) (.ref X.Mk)))) := ⟨fun b m => .inr m, fun b m => m.elim (fun z => .inr (by rw [z]; exact p0)) .inl, Ext.sub (fun b (z : b = X.W) => by rw [z]; exact h.sub _ (.inl rfl)) x⟩
  refine ⟨⟨upd_same, ⟨vs', by show upd _ _ _ p = _; rw [upd_ne nW]; exact hp, Paired.mapP pd fun _ _ r => Rep.up g.fr r⟩, by show upd _ _ _ X.Mk = _; rw [upd_ne h.WM.symm]; exact s _ _ h.m, nM', fun b z => ?_⟩, g, fun b m => ?_, x⟩
  · rcases z with z | z | z
    · exact .inr (h.sub _ (.inl z))
    · exact .inl z
    · exact .inr (h.sub _ (.inr (.inr z)))
  · by_cases c : b = X.W
    · rw [c, upd_same]
      exact ⟨_, rfl, .inl (by show (2 : Nat) ≠ 3; decide)⟩
    · rw [upd_ne c]
      rcases m with m | m
      · rw [m]
        exact ⟨_, hp, trivial⟩
      · exact al.same s b m
theorem Nt.setM (h : Nt K M H0 X sts ms) (al : Alloc M H0) (s : Same H0 H) (p0 : H0 p = none) (hp : H p = some (.lst (ms'.map V.int)))
    (eH : H' = upd H X.W (.ins (ga K "Net") X.dx (ntF (.ref X.S) (.ref p)))) : Nt K (Ad p M) H' ⟨X.W, X.dx, X.S, p⟩ sts ms' ∧ Gw M (Ad p M) H0 H' ∧ Alloc (Ad p M) H' ∧ Ext (fun b => b = X.W) H0 H' := by
  subst eH
  obtain ⟨vs, eS, pd⟩ := h.s
  have nW : p ≠ X.W := fun z => by rw [z, h.o] at p0; cases p0
  have nS : X.S ≠ p := fun z => by rw [← z, eS] at p0; cases p0
  have x : Ext (fun b => b = X.W) H0 (upd H X.W (.ins (ga K "Net") X.dx (ntF (.ref X.S) (.ref p)))) := fun b o n e => by rw [upd_ne n]; exact s _ _ e
  have g : Gw M (Ad p M) H0 (upd H X.W (.ins (ga K "Net") X.dx (ntF (.ref X.S) (.ref p)))) := ⟨fun b m => .inr m, fun b m => m.elim (fun z => .inr (by rw [z]; exact p0)) .inl, Ext.sub (fun b (z : b = X.W) => by rw [z]; exact h.sub _ (.inl rfl)) x⟩
  refine ⟨⟨upd_same, ⟨vs, by show upd _ _ _ X.S = _; rw [upd_ne h.WS.symm]; exact s _ _ eS, Paired.mapP pd fun _ _ r => Rep.up g.fr r⟩, by show upd _ _ _ p = _; rw [upd_ne nW]; exact hp, nS, fun b z => ?_⟩, g, fun b m => ?_, x⟩
  · rcases z with z | z | z
    · exact .inr (h.sub _ (.inl z))
    · exact .inr (h.sub _ (.inr (.inl z)))
    · exact .inl z
  · by_cases c : b = X.W
    · rw [c, upd_same]
      exact ⟨_, rfl, .inl (by show (2 : Nat) ≠ 3; decide)⟩
    · rw [upd_ne c]
      rcases m with m | m
      · rw [m]
        exact ⟨_, hp, trivial⟩
      · exact al.same s b m
end
section
variable {K : Frag} {H1 : Hp} {M : Addr → Prop} {Q : Addr → Hp → Prop} {α β : Type} [Rep α] [Rep β] {J : It} {g : TG} {tt : TT} {te : TE} {vs : List Nat} {σ : L2.St}
/-- a comprehension that picks; its list is a new one -/
theorem lc_filtD {xs : List α} (p : α → Bool) (f : α → β) (T : TW K M H1 J xs) (al : Alloc M H1) (hz : xs.length ≤ 1000000)
    (step : ∀ (i : Nat) (x : α) (u : V) (H : Hp) (M' : Addr → Prop) (C : V → Hp → Prop) (C0 : Hp → Prop), xs[i]? = some x → Same (Fr M H1) (Fr M' H) → Alloc M' H → Same H1 H → rp K (Fr M' H) u x →
      (p x = true → ∀ w H4, Same H H4 → rp K (Fr M' H4) w (f x) → C w H4) → (p x = false → ∀ H4, Same H H4 → C0 H4) → g u (wipe σ vs) H fun σ2 H2 => wipe σ2 vs = wipe σ vs ∧ tt σ2 H2 fun b H3 => if b = true then te σ2 H3 C else C0 H3)
    (k : ∀ D H', H1 D = none → Same H1 H' → rp K (Fr M H') (.ref D) ((xs.filter p).map f) → Q D H') : ∀ D, H1 D = none → LcW J H1 g tt te vs σ D (Q D) := fun D hD =>
  have e : (fun H' => H1 D = none → Q D H') = Q D := funext fun H' => propext ⟨fun z => z hD, fun q _ => q⟩
  e ▸ lc_filt (Q := fun D' H' => H1 D' = none → Q D' H') p f T al hz step (fun D' H' s r n => k D' H' n s r) D hD
end
/-! ### pieces of lists -/
section
variable {α β : Type} {F : α → β → Prop}
theorem cutX_len {α : Type} (xs : List α) (lo hi : Option Int) : (cutX xs lo hi).length ≤ xs.length := by
  unfold cutX
  rw [List.length_take, List.length_drop]
  omega
theorem pd_last {α β : Type} {F : α → β → Prop} : ∀ {l₁ : List α} {l₂ : List β}, Paired F l₁ l₂ → ∀ {x : β}, l₂.getLast? = some x → ∃ u, l₁.getLast? = some u ∧ F u x
  | _, _, .nil, _, h => by cases h
  | [a], [b], .cons h .nil, x, e => by
    cases e
    exact ⟨a, rfl, h⟩
  | a :: a2 :: l, b :: b2 :: m, .cons _ (.cons h t), x, e => by
    rw [List.getLast?_cons_cons] at e ⊢
    exact pd_last (.cons h t) e
theorem atI_last {α : Type} {xs : List α} {x : α} (h : xs.getLast? = some x) : atI xs (-1) = some x := by
  have n : xs ≠ [] := fun z => by rw [z] at h; cases h
  have l := List.length_pos_iff.mpr n
  unfold atI ixN
  rw [if_neg (by decide), if_pos (by omega)]
  show xs[((-1 : Int) + xs.length).toNat]? = _
  rw [show ((-1 : Int) + xs.length).toNat = xs.length - 1 by omega, ← List.getLast?_eq_getElem?]
  exact h
/-- all but the last -/
theorem cutX_init {α : Type} (xs : List α) : cutX xs none (some (-1)) = xs.dropLast := by
  unfold cutX
  show (xs.drop (HT.sIx xs.length 0 none)).take (HT.sIx xs.length xs.length (some (-1)) - HT.sIx xs.length 0 none) = _
  rw [show HT.sIx xs.length 0 none = 0 from rfl, List.drop_zero, Nat.sub_zero, List.dropLast_eq_take]
  congr 1
  unfold HT.sIx
  simp
  omega
theorem pd_cut {lo hi : Option Int} {l₁ : List α} {l₂ : List β} (h : Paired F l₁ l₂) : Paired F (cutX l₁ lo hi) (cutX l₂ lo hi) := by
  unfold cutX
  rw [h.length]
  exact pd_take (pd_drop h _) _
end
section
variable {K : Frag} {M : Addr → Prop} {H F : Hp} {O : Addr} {ost : List TD} {om : List Int} {Q : VK} {v : V} {x : Int} {xs : List Int}
theorem ow_0 (h : Ow K M H O ost om) (k : ∀ u, rp K (Fr M H) u ost → Q u H) : sq2 (rIxL K) (.ref O) (.int 0) H Q := by
  rw [sq2_eq]
  obtain ⟨v, w, e, a, b⟩ := h.o
  exact ⟨O, _, 0, v, rfl, rfl, SqL.of e, at0, k v a⟩
theorem ow_1 (h : Ow K M H O ost om) (k : ∀ u, rp K (Fr M H) u om → Q u H) : sq2 (rIxL K) (.ref O) (.int 1) H Q := by
  rw [sq2_eq]
  obtain ⟨v, w, e, a, b⟩ := h.o
  exact ⟨O, _, 1, w, rfl, rfl, SqL.of e, rfl, k w b⟩
theorem rd_nin (h : rp K F v xs) (hF : Same F H) (k : Q (.bl (!decide (x ∈ xs))) H) : sq2 (rIn K true) (.int x) v H Q := by
  rw [sq2_eq]
  obtain ⟨p, rfl, e⟩ := rp_ints h
  exact ⟨p, _, rfl, .inl (SqL.of (hF _ _ e)), rfl, flat_ints xs, by rw [show (if true = true then !inV (.int x) (xs.map V.int) else inV (.int x) (xs.map V.int)) = !inV (.int x) (xs.map V.int) from rfl, inV_ints]; exact k⟩
end
end Fw

/-! Fw, part Ht: defs that are called while an error is handled. -/
namespace Fw
open PySem PySem.Spec PyProof.Rows L2
open He (ga ma eqO eqO_ok)
section
variable {X : Cx} {k : Nat} {f C : Addr} {fd : FuncData} {ps : List Str} {sp : SpE} {E : XK} {x m : Str} {p pos apos : Pos} {e o : Expr} {es : List Expr} {t : TA} {ta : TE} {a0 : Addr} {cls : Value} {d : Option Addr}
theorem Has.get {pins : List (Addr × Obj)} {σ : L2.St} {H : Hp} {s : Shared} (h : Has X a0 cls d) (I : Inv X pins σ H s) : ∃ oe, L2H.PinOk X.stack H s (a0, oe) ∧ ErrOf (a0, oe) cls d := by
  obtain ⟨oe, hp, err⟩ := h.ex
  have P1 := I.pin (a0, oe) (List.mem_append_left _ hp)
  exact ⟨oe, ⟨P1.1, P1.2.1, fun m => (List.mem_cons.mp (I.stkSub _ m)).elim P1.2.2.1 P1.2.2.2.1, P1.2.2.2.2⟩, err⟩
theorem run_fnE {pins : List (Addr × Obj)} {σ : L2.St} {H : Hp} {s : Shared} {Q : VK} {us : List Value} {vs : List V} (F : FnE X.prog X.w X.K X.mg X.base (L2.CX X.prog X.w) k f fd ps sp) (hr : L2H.RoomH k X.A) (hc : Has X a0 cls d) (hb : L2.Binds X.K fd ps []) (hx : Passes (L2.CX X.prog X.w) X E)
    (I : Inv X pins σ H s) (r : Vals vs us) (q : sp a0 cls d vs H Q E) : wpAny (model X.prog X.w) X.A (call (.ref f) us) (EP X pins σ Q) X.xe s := by
  have len : us.length = ps.length := by rw [← r.length]; exact F.count _ _ _ _ _ _ _ q
  obtain ⟨oe, pin, err⟩ := hc.get I
  refine wpAny_call (codeAny_mono (F.go X.A X.stack s H ⟨us, []⟩ us vs Q E (a0, oe) cls d hr pin err I.env0 (by have b := hb s us I.kIn (by rw [List.append_nil]; exact len); rw [List.append_nil] at b; exact b) r q) fun z s' q => ?_)
  match z, q with
  | .error e, q => exact hx pins σ H s e s' I q
  | .ok (.ret u), q => exact I.after q
theorem run_fnE1 {pins : List (Addr × Obj)} {σ : L2.St} {H : Hp} {s : Shared} {Q : VK} {us : List Value} {vs : List V} (F : FnE X.prog X.w X.K X.mg X.base (L2.CX X.prog X.w) k f fd ps sp) (hr : L2H.RoomH (k + 1) X.A) (hc : Has X a0 cls d) (hb : L2.Binds X.K fd ps []) (hx : Passes (L2.CX X.prog X.w) X E)
    (I : Inv X pins σ H s) (r : Vals vs us) (q : sp a0 cls d vs H Q E) : wpAny (model X.prog X.w) X.A.in1 (call (.ref f) us) (EP X pins σ Q) X.xe s := by
  have len : us.length = ps.length := by rw [← r.length]; exact F.count _ _ _ _ _ _ _ q
  obtain ⟨oe, pin, err⟩ := hc.get I
  have r1 : L2H.RoomH k X.A.in1 := ⟨by have := hr.dp; simp; omega, by have := hr.un; simp; omega⟩
  have e0 : Env0 X.prog X.w X.K X.mg X.base X.A.in1 X.stack s H := by
    have e := I.env0
    exact ⟨e.frames, e.mod, e.bs, e.bsz, e.funs, e.frf, e.hok, e.bare⟩
  refine wpAny_call (codeAny_mono (F.go X.A.in1 X.stack s H ⟨us, []⟩ us vs Q E (a0, oe) cls d r1 pin err e0 (by have b := hb s us I.kIn (by rw [List.append_nil]; exact len); rw [List.append_nil] at b; exact b) r q) fun z s' q => ?_)
  match z, q with
  | .error e, q => exact hx pins σ H s e s' I q
  | .ok (.ret u), q => exact I.after q
/-- o.m() in a try: the slots at the raise are those at the call -/
def tMeth0S (C : Addr) (m : Str) (sp : Sp) (E : L2.St → XK) (ta : TE) : TE := fun σ H Q => ta σ H fun x H1 => ∃ a dx fs, x = .ref a ∧ H1 a = some (.ins C dx fs) ∧ fs.lookup m = none ∧ sp [x] H1 Q (E σ)
theorem pe_meth0S {sp : Sp} {E : L2.St → XK} {pl : Sem Bool} (he : PE X o ta) (c : Cls X.K C) (hm : Meth X.K C m f) (F : FnOk X.prog X.w X.K X.mg X.base (L2.CX X.prog X.w) k f fd ps sp) (hr : Room k X.A) (hb : L2.Binds X.K fd ps []) (hx : ∀ σ, L2.PassesAt (L2.CX X.prog X.w) X σ (E σ))
    (ht : eval (.Call (.Attribute o m apos) [] [] pos) X.env = (do
      let ov ← eval o X.env
      standAt apos.atName
      let (f, first) ← holding [ov] (getMethod ov m pl)
      callWith pos f first (backTo pos (starEach [] X.env)) (backToKw pos (keywordEach [] X.env))) := by rfl) :
    PE X (.Call (.Attribute o m apos) [] [] pos) (tMeth0S C m sp E ta) := by
  refine ⟨fun pins s σ H Q I h => ?_⟩
  refine PySem.W.methodCall_KW (pl := pl) (thn (he.run pins s σ H _ I h) fun u s1 ⟨x, H1, I1, rx, a, dx, fs, ex, ea, l, q⟩ => ?_) ht
  subst ex
  obtain rfl : u = Value.ref a := rx
  refine getmeth_ok I1 ea c hm l ?_
  exact PySem.W.callWith_K0 (first := [.ref a]) I1.kIn hm.kp (L2.run_fnS (us := [.ref a]) (vs := [.ref a]) F hr hb (hx σ) I1 (.cons rfl .nil) q)
/-- o.m() while an error is handled -/
theorem pe_meth0E {pl : Sem Bool} (he : PE X o ta) (c : Cls X.K C) (hm : Meth X.K C m f) (F : FnE X.prog X.w X.K X.mg X.base (L2.CX X.prog X.w) k f fd ps sp) (hr : L2H.RoomH k X.A) (hc : Has X a0 cls d) (hb : L2.Binds X.K fd ps []) (hx : Passes (L2.CX X.prog X.w) X E)
    (ht : eval (.Call (.Attribute o m apos) [] [] pos) X.env = (do
      let ov ← eval o X.env
      standAt apos.atName
      let (f, first) ← holding [ov] (getMethod ov m pl)
      callWith pos f first (backTo pos (starEach [] X.env)) (backToKw pos (keywordEach [] X.env))) := by rfl) :
    PE X (.Call (.Attribute o m apos) [] [] pos) (tMeth C m (sp a0 cls d) [] E ta tNil) := by
  refine ⟨fun pins s σ H Q I h => ?_⟩
  refine PySem.W.methodCall_KW (pl := pl) (thn (he.run pins s σ H _ I h) fun u s1 ⟨x, H1, I1, rx, a, dx, fs, ex, ea, l, q⟩ => ?_) ht
  subst ex
  obtain rfl : u = Value.ref a := rx
  refine getmeth_ok I1 ea c hm l ?_
  exact PySem.W.callWith_K0 (first := [.ref a]) I1.kIn hm.kp (run_fnE (us := [.ref a]) (vs := [.ref a]) F hr hc hb hx I1 (.cons rfl .nil) q)
theorem run_makeE {pins : List (Addr × Obj)} {σ : L2.St} {H : Hp} {s : Shared} {Q : VK} {us : List Value} {vs : List V} (M : Mk X.K C f) (F : FnE X.prog X.w X.K X.mg X.base (L2.CX X.prog X.w) k f fd ps sp) (hr : L2H.RoomH (k + 1) X.A) (hc : Has X a0 cls d) (hb : L2.Binds X.K fd ps [])
    (hx : Passes (L2.CX X.prog X.w) X E) (I : Inv X pins σ H s) (r : Vals vs us)
    (h : ∀ x dx, H x = none → H dx = none → dx ≠ x → sp a0 cls d (.ref x :: (vs ++ [])) (upd (upd H dx (.own x)) x (.ins C dx [])) (fun v H2 => v = .non ∧ Q (.ref x) H2) E) :
    wpAny (model X.prog X.w) X.A (call (.ref C) us) (EP X pins σ Q) X.xe s := by
  have hq := h (s.heap.objs.size + 1) s.heap.objs.size (I.hok.fresh (Nat.le_succ _)) (I.hok.fresh (Nat.le_refl _)) (Nat.ne_of_lt (Nat.lt_succ_self _))
  have I2 := Inv.made (C := C) I
  have r2 : Vals (V.ref (s.heap.objs.size + 1) :: (vs ++ [])) (Value.ref (s.heap.objs.size + 1) :: (us ++ [])) := .cons rfl (r.append .nil)
  have hl : (Value.ref (s.heap.objs.size + 1) :: us ++ []).length = ps.length := by
    have e := r2.length
    rw [F.count _ _ _ _ _ _ _ hq] at e
    exact e.symm
  obtain ⟨oe, pin, err⟩ := hc.get I2
  refine wpAny_call (make_map (f := f) I.kIn M.makes M.init (beq_iff_eq.mp M.fn) (codeAny_mono (F.go _ X.stack _ _ ⟨Value.ref (s.heap.objs.size + 1) :: us, []⟩ (Value.ref (s.heap.objs.size + 1) :: (us ++ [])) _ _ E (a0, oe) cls d (hr.make C us []) pin err
    (I2.env0.make C us []) (by have b := hb _ (Value.ref (s.heap.objs.size + 1) :: us) I2.kIn hl; rw [List.append_nil] at b ⊢; exact b) r2 hq) fun r s' hq' => ?_))
  match r, hq' with
  | .error e, q => exact hx pins σ _ _ e s' I2 q
  | .ok (.ret u), q =>
    obtain ⟨v, H', I3, rv, ev, q3⟩ := I2.after q
    subst ev
    exact ⟨rv, ⟨V.ref (s.heap.objs.size + 1), H', I3, rfl, q3⟩⟩
theorem pe_makeE (M : Mk X.K C f) (F : FnE X.prog X.w X.K X.mg X.base (L2.CX X.prog X.w) k f fd ps sp) (hr : L2H.RoomH (k + 1) X.A) (hc : Has X a0 cls d) (hg : Gl X x) (hm : X.mg x = some (.ref C)) (hb : L2.Binds X.K fd ps []) (hx : Passes (L2.CX X.prog X.w) X E)
    (ha : PA X (e :: es) t) (hdb : (x == ("__debug__" : Str)) = false := by decide) (he : starEach (e :: es) X.env = (false, eval e X.env) :: starEach es X.env := by rfl) (hpl : (backTo pos (starEach es X.env)).any (fun q => q.1) = false := by rfl) :
    PE X (.Call (.Name x p) (e :: es) [] pos) (tMake C (sp a0 cls d) [] E t) := by
  refine ⟨fun pins s σ H Q I h => ?_⟩
  refine wpAny_Call_Name_kw (ld_glob I hg hm ?_ hdb)
  refine PySem.W.callWith_K (h₀ := X.base) I.ok.mod.kin M.kp (thn (ha.run pos pins s σ H _ I h) fun us s1 ⟨vs, H1, I1, r, q⟩ => ⟨I1.kIn, ?_⟩) he hpl
  exact run_makeE M F hr hc hb hx I1 r q
theorem call_lenOE (c : LenOf X.K C f) (F : FnE X.prog X.w X.K X.mg X.base (L2.CX X.prog X.w) k f fd ps sp) (hr : L2H.RoomH (k + 1) X.A) (hc : Has X a0 cls d) (hb : L2.Binds X.K fd ps []) (hx : Passes (L2.CX X.prog X.w) X E) :
    CallR X (.builtin "len") (fun xs H Q => ∃ a dx fs, xs = [.ref a] ∧ H a = some (.ins C dx fs) ∧ sp a0 cls d [.ref a] H (fun v H' => (∃ i : Int, v = .int i ∧ 0 ≤ i ∧ i < 2 ^ 63) ∧ Q v H') E) := by
  intro pins s σ H xs us Q I r h
  obtain ⟨a, dx, fs, rfl, ha, q⟩ := h
  obtain ⟨u, rfl, ru⟩ := vals1 r
  obtain rfl : u = Value.ref a := ru
  obtain ⟨mA, OA, _⟩ := ins_get I.hok ha
  obtain ⟨od, JA, _⟩ := OA.look
  obtain ⟨mm, fr⟩ := I.fr
  refine PySem.W.len_K fr I.ok.mod.kin JA c.at_ c.fn ?_
  have w := run_fnE1 (us := [.ref a]) (vs := [.ref a]) F hr hc hb hx I (.cons rfl .nil) q
  refine wpAny_mono w (fun v s' hv => ?_) fun _ _ z => z
  obtain ⟨y, H', I', rv, ⟨i, rfl, h0, h1⟩, q2⟩ := hv
  obtain ⟨t, rfl⟩ := rv
  exact ⟨⟨h0, h1⟩, .int i, H', I'.tok _, ⟨_, rfl⟩, q2⟩
theorem roomU {k : Nat} {A : Around} (r : L2H.RoomH k A) : A.units + 64 < cLine := by
  have := r.un
  omega
theorem okqE {sp : Sp} {P : Program} {w : World} {K : PySem.W.Frag} {mg : Str → Option Value} {base : Heap} {CX : CXT} (h : FnE P w K mg base CX k f fd ps (fun _ _ _ => sp)) : FnE P w K mg base CX k f fd ps (fun _ _ _ => sq sp) := by
  rw [sq_eq]
  exact h
end
end Fw

/-! Ranges whose ends may lie anywhere. Own work. -/
namespace L2
open PySem PySem.Spec PyProof.Rows
theorem turn_long {P : Program} {w : World} {K : PySem.W.Frag} {tg : Expr} (it : Addr) (lo : Int) (n : Nat) : Turn P w K tg (Itr lo n) [it] it (fun i h => IsLongIter h it (lo + (i : Nat) * 1) ((n : Int) - (i : Nat)) 1) where
  mem := by simp
  obj := fun i h st b hb => by
    have e : b = it := by simpa using hb
    subst e
    exact ⟨_, st, fun v z => by
      have z' : Data.fields _ = Data.cell v := z
      cases z'⟩
  keep := fun i h h' st k => k it (by simp) _ st
  item := by
    intro X hP hw hK hc i pins s σ H E I hf st hg
    subst hP hw hK
    obtain ⟨f0, f1, f2, f3, f4, f5⟩ := hf it (by simp)
    have W := Walks.longrange (prog := X.prog) (w := X.w) (I.ok.hd hc) it lo 1 n
    refine W.item i s _ _ hg st fun v h' tk hv st' kk => ?_
    obtain ⟨t, rfl⟩ := hv
    have I1 : Inv X pins σ H { s with heap := h', toks := tk } := I.turned (fun b o hb e => kk b o (by simpa using hb) e) f0 f1 f3 f4 f5
    refine ⟨_, rfl, go_of (s := { s with heap := h', toks := tk }) (n := "longrange_iterator") st' rfl rfl (by decide) ⟨.int (lo + i), H, I1, ⟨t, ?_⟩, ⟨rfl, rfl⟩, st', fun b hb => (hf b hb).1⟩⟩
    rw [Int.mul_one]
  done := by
    intro X hP hw hK hc i pins s σ H E I hf st hg
    subst hP hw hK
    obtain ⟨f0, f1, f2, f3, f4, f5⟩ := hf it (by simp)
    exact wpAny_pyNext_long_end (I.ok.hd hc) st (by have : n ≤ i := hg; omega) fun h' eb => ⟨rfl, I.turned (t' := s.toks) (fun b o hb e => eb b o hb e) f0 f1 f3 f4 f5⟩
  self := fun _ _ _ _ _ st h => wpAny_pyIter_longiter st h
section
variable {X : Cx} {tg : Expr}
theorem range_itW {pins : List (Addr × Obj)} {σ : St} {H : Hp} {s : Shared} {R : It → Hp → Prop} {E : Value → Shared → Prop} {lo hi : Int} {t u v : Tok} {tk : Nat} (I : Inv X pins σ H s)
    (q : R (Itr lo (hi - lo).toNat) H) : wpAny (model X.prog X.w) X.A (pyIter (.ref s.heap.objs.size)) (PIE X pins σ tg R) E { s with heap := s.heap.push { cls := .type "range", data := .fields #[.int lo t, .int hi u, .int 1 v] }, toks := tk } := by
  have I1 : Inv X pins σ H { s with heap := s.heap.push { cls := .type "range", data := .fields #[.int lo t, .int hi u, .int 1 v] }, toks := tk } := I.kept fun b o e => Heap.get?_push_of_some _ e
  have e1 : lo + ((0 : Nat) : Int) * 1 = lo := by simp
  have e2 : (((hi - lo).toNat : Nat) : Int) - ((0 : Nat) : Int) = Builtin.Range.rangeSize lo hi 1 := by rw [rangeSize_one]; split <;> omega
  have fp : ∀ b ∈ [(s.heap.push { cls := .type "range", data := .fields #[.int lo t, .int hi u, .int 1 v] }).objs.size], FpOk X pins H b := fun b hb => by
    have e : b = (s.heap.push { cls := .type "range", data := .fields #[.int lo t, .int hi u, .int 1 v] }).objs.size := by simpa using hb
    subst e
    exact I1.fpOk (Nat.le_refl _) (I1.hok.fresh (Nat.le_refl _))
  by_cases hs : Builtin.Range.small lo hi 1 = true
  · refine wpAny_pyIter_range (IsRange.new ..) hs ?_
    refine ⟨(s.heap.push { cls := .type "range", data := .fields #[.int lo t, .int hi u, .int 1 v] }).objs.size, [(s.heap.push { cls := .type "range", data := .fields #[.int lo t, .int hi u, .int 1 v] }).objs.size], _, _, H, rfl,
      I1.kept (t' := tk) fun b o e => Heap.get?_push_of_some _ e, turn_range _ lo (hi - lo).toNat, ?_, fp, q⟩
    show IsRangeIter _ _ (lo + ((0 : Nat) : Int) * 1) ((((hi - lo).toNat : Nat) : Int) - ((0 : Nat) : Int)) 1
    rw [e1, e2]
    exact Heap.get?_push_size _ rfl
  · refine wpAny_pyIter_longrange (IsRange.new ..) (by simpa using hs) ?_
    refine ⟨(s.heap.push { cls := .type "range", data := .fields #[.int lo t, .int hi u, .int 1 v] }).objs.size, [(s.heap.push { cls := .type "range", data := .fields #[.int lo t, .int hi u, .int 1 v] }).objs.size], _, _, H, rfl,
      I1.kept (t' := tk) fun b o e => Heap.get?_push_of_some _ e, turn_long _ lo (hi - lo).toNat, ?_, fp, q⟩
    show IsLongIter _ _ (lo + ((0 : Nat) : Int) * 1) ((((hi - lo).toNat : Nat) : Int) - ((0 : Nat) : Int)) 1
    rw [e1, e2]
    exact Heap.get?_push_size _ rfl
def iRng2W (ta : TA) : TI := fun σ H R => ta σ H fun vs H1 => ∃ i j : Int, vs = [.int i, .int j] ∧ R (Itr i (j - i).toNat) H1
theorem pi_range2W {a b : Expr} {ta : TA} {p pos : Pos} (hg : Gl X "range") (hm : X.mg "range" = none) (ha : PA X [a, b] ta) (hs : starEach [a, b] X.env = [(false, eval a X.env), (false, eval b X.env)] := by rfl) (hs2 : starEach [b] X.env = [(false, eval b X.env)] := by rfl) :
    PI X tg (.Call (.Name "range" p) [a, b] [] pos) (iRng2W ta) := by
  refine ⟨fun pins s σ H R I h => ?_⟩
  refine Call_ (ld_blt I hg hm boot_range (PyProof.Rows.callWith_type1 (thn (ha.run pos pins s σ H _ I h) fun us s1 ⟨vs, H1, I1, r1, q1⟩ => ?_) (by rw [hs, hs2]) (by rw [hs2]; rfl)))
  obtain ⟨i, j, e, q⟩ := q1
  subst e
  cases r1 with
  | cons r rr =>
    cases rr with
    | cons r' rr =>
      cases rr
      obtain ⟨t, rfl⟩ := r
      obtain ⟨t', rfl⟩ := r'
      exact call_range_2 (range_itW I1 q)
end
end L2

/-! sorted(l, key=lambda x: ..): lambdas of one parameter, whose keys are ints. Own work. -/
namespace Fw
open PySem PySem.Spec PyProof.Rows L2 LamX Srt SrtO
/-! ### the order, stable -/
section
variable {α β : Type}
def ltk (p q : Int × α) : Bool := decide (p.1 < q.1)
def insK (p : Int × α) : List (Int × α) → List (Int × α)
  | [] => [p]
  | q :: l => if q.1 < p.1 then q :: insK p l else p :: q :: l
def stabK : List (Int × α) → List (Int × α)
  | [] => []
  | p :: l => insK p (stabK l)
theorem insK_mem {p x : Int × α} : ∀ {l : List (Int × α)}, x ∈ insK p l ↔ x = p ∨ x ∈ l
  | [] => by simp [insK]
  | q :: l => by
    unfold insK
    split
    · rw [List.mem_cons, insK_mem (l := l), List.mem_cons]
      constructor
      · rintro (h | h | h)
        · exact .inr (.inl h)
        · exact .inl h
        · exact .inr (.inr h)
      · rintro (h | h | h)
        · exact .inr (.inl h)
        · exact .inl h
        · exact .inr (.inr h)
    · rw [List.mem_cons]
theorem insK_srtd {p : Int × α} : ∀ {l : List (Int × α)}, Srtd ltk l → Srtd ltk (insK p l)
  | [], _ => List.pairwise_singleton _ _
  | q :: l, h => by
    obtain ⟨h1, h2⟩ := List.pairwise_cons.mp h
    unfold insK
    split
    · rename_i c
      refine List.pairwise_cons.mpr ⟨fun x hx => ?_, insK_srtd h2⟩
      rcases insK_mem.mp hx with e | e
      · rw [e]
        exact decide_eq_false (by omega)
      · exact h1 x e
    · rename_i c
      refine List.pairwise_cons.mpr ⟨fun x hx => ?_, h⟩
      rcases List.mem_cons.mp hx with e | e
      · rw [e]
        exact decide_eq_false c
      · have := of_decide_eq_false (h1 x e)
        exact decide_eq_false (by omega)
theorem stabK_srtd : ∀ l : List (Int × α), Srtd ltk (stabK l)
  | [] => List.Pairwise.nil
  | _ :: l => insK_srtd (stabK_srtd l)
theorem eqk {p q : Int × α} : eqv ltk p q = true ↔ p.1 = q.1 := by
  unfold eqv ltk
  simp only [Bool.and_eq_true, Bool.not_eq_true', decide_eq_false_iff_not]
  omega
theorem insK_cls (x p : Int × α) : ∀ l : List (Int × α), (insK p l).filter (eqv ltk x) = (p :: l).filter (eqv ltk x)
  | [] => rfl
  | q :: l => by
    unfold insK
    split
    · rename_i c
      rw [List.filter_cons, insK_cls x p l, List.filter_cons, List.filter_cons, List.filter_cons]
      by_cases hq : eqv ltk x q = true
      · have hp : ¬ eqv ltk x p = true := fun z => by have a := eqk.mp hq; have b := eqk.mp z; omega
        simp only [if_pos hq, if_neg hp]
      · simp only [if_neg hq]
    · rfl
theorem stabK_cls (x : Int × α) : ∀ l : List (Int × α), (stabK l).filter (eqv ltk x) = l.filter (eqv ltk x)
  | [] => rfl
  | p :: l => by
    show (insK p (stabK l)).filter _ = _
    rw [insK_cls, List.filter_cons, List.filter_cons, stabK_cls x l]
/-- sorted and of the same classes: the same -/
theorem srtd_cls_eq : ∀ {l m : List (Int × α)}, Srtd ltk l → Srtd ltk m → (∀ x, l.filter (eqv ltk x) = m.filter (eqv ltk x)) → l = m
  | [], [], _, _, _ => rfl
  | [], b :: m, _, _, h => by
    have := h b
    rw [List.filter_nil, List.filter_cons, if_pos (eqk.mpr rfl)] at this
    cases this
  | a :: l, [], _, _, h => by
    have := h a
    rw [List.filter_nil, List.filter_cons, if_pos (eqk.mpr rfl)] at this
    cases this
  | a :: l, b :: m, hl, hm, h => by
    have mem : ∀ {x : Int × α} {l : List (Int × α)}, x ∈ l → x ∈ l.filter (eqv ltk x) := fun hx => List.mem_filter.mpr ⟨hx, eqk.mpr rfl⟩
    have a1 : a ∈ b :: m := (List.mem_filter.mp (h a ▸ mem List.mem_cons_self)).1
    have b1 : b ∈ a :: l := (List.mem_filter.mp ((h b).symm ▸ mem List.mem_cons_self)).1
    obtain ⟨hl1, hl2⟩ := List.pairwise_cons.mp hl
    obtain ⟨hm1, hm2⟩ := List.pairwise_cons.mp hm
    have k1 : b.1 ≤ a.1 := by
      rcases List.mem_cons.mp a1 with e | e
      · rw [e]; exact Int.le_refl _
      · have := of_decide_eq_false (hm1 a e)
        omega
    have k2 : a.1 ≤ b.1 := by
      rcases List.mem_cons.mp b1 with e | e
      · rw [e]; exact Int.le_refl _
      · have := of_decide_eq_false (hl1 b e)
        omega
    have hab := h a
    rw [List.filter_cons, List.filter_cons, if_pos (eqk.mpr rfl), if_pos (eqk.mpr (show a.1 = b.1 by omega))] at hab
    have e : a = b := (List.cons.inj hab).1
    subst e
    rw [srtd_cls_eq hl2 hm2 fun x => ?_]
    have := h x
    rw [List.filter_cons, List.filter_cons] at this
    by_cases c : eqv ltk x a = true
    · rw [if_pos c, if_pos c] at this
      exact (List.cons.inj this).2
    · rw [if_neg c, if_neg c] at this
      exact this
theorem stabK_of {l m : List (Int × α)} (h1 : Srtd ltk l) (h2 : Stb ltk l m) : l = stabK m :=
  srtd_cls_eq h1 (stabK_srtd m) fun x => (h2.cls x).trans (stabK_cls x m).symm
theorem stabK_perm : ∀ l : List (Int × α), (stabK l).Perm l
  | [] => List.Perm.refl _
  | p :: l => by
    have ins : ∀ (l : List (Int × α)), (insK p l).Perm (p :: l) := fun l => by
      induction l with
      | nil => exact List.Perm.refl _
      | cons q l ih =>
        unfold insK
        split
        · exact (ih.cons q).trans (List.Perm.swap p q l)
        · exact List.Perm.refl _
    exact (ins _).trans ((stabK_perm l).cons p)
theorem stabK_len (l : List (Int × α)) : (stabK l).length = l.length := (stabK_perm l).length_eq
/-- the second parts may be told otherwise -/
theorem stabK_map (f : α → β) : ∀ l : List (Int × α), stabK (l.map fun p => (p.1, f p.2)) = (stabK l).map fun p => (p.1, f p.2)
  | [] => rfl
  | p :: l => by
    have ins : ∀ (l : List (Int × α)), insK (p.1, f p.2) (l.map fun p => (p.1, f p.2)) = (insK p l).map fun p => (p.1, f p.2) := fun l => by
      induction l with
      | nil => rfl
      | cons q l ih =>
        rw [List.map_cons]
        unfold insK
        by_cases c : q.1 < p.1
        · rw [if_pos c, if_pos c, List.map_cons, ih]
        · rw [if_neg c, if_neg c]
          rfl
    show insK (p.1, f p.2) (stabK (l.map fun p => (p.1, f p.2))) = _
    rw [stabK_map f l, ins]
    rfl
end
/-- in step -/
inductive PairR {α β : Type} (R : α → β → Prop) : List (Int × α) → List (Int × β) → Prop
  | nil : PairR R [] []
  | cons {k : Int} {a : α} {b : β} {l : List (Int × α)} {m : List (Int × β)} (h : R a b) (t : PairR R l m) : PairR R ((k, a) :: l) ((k, b) :: m)
theorem PairR.ins {α β : Type} {R : α → β → Prop} {k : Int} {a : α} {b : β} (h : R a b) {l : List (Int × α)} {m : List (Int × β)} (t : PairR R l m) : PairR R (insK (k, a) l) (insK (k, b) m) := by
  induction t with
  | nil => exact .cons h .nil
  | @cons j c d l m h' t ih =>
    unfold insK
    by_cases c : j < k
    · rw [if_pos (show (j, _).1 < (k, _).1 from c), if_pos (show (j, _).1 < (k, _).1 from c)]
      exact .cons h' ih
    · rw [if_neg (show ¬ (j, _).1 < (k, _).1 from c), if_neg (show ¬ (j, _).1 < (k, _).1 from c)]
      exact .cons h (.cons h' t)
theorem PairR.stab {α β : Type} {R : α → β → Prop} {l : List (Int × α)} {m : List (Int × β)} (t : PairR R l m) : PairR R (stabK l) (stabK m) := by
  induction t with
  | nil => exact .nil
  | cons h _ ih => exact ih.ins h
theorem pairR_zip {vs : List V} {us : List Value} (r : Vals vs us) : ∀ ks : List Int, PairR RelV (ks.zip vs) (ks.zip us) := by
  induction r with
  | nil => intro ks; cases ks <;> exact .nil
  | cons h _ ih =>
    intro ks
    cases ks with
    | nil => exact .nil
    | cons k ks => exact .cons h (ih ks)
theorem PairR.vals {l : List (Int × V)} {m : List (Int × Value)} (t : PairR RelV l m) : Vals (l.map (·.2)) (m.map (·.2)) := by
  induction t with
  | nil => exact .nil
  | cons h _ ih => exact .cons h ih
/-! ### list.sort by a key -/
section
variable {X : Cx} {pins : List (Addr × Obj)} {σ : L2.St} {H : Hp} {n : Nat} {fv : Value} {us : List Value} {ks : List Int}
/-- the key of each item is an int, and its call leaves all as it is told -/
def KeyRun (X : Cx) (n : Nat) (pins : List (Addr × Obj)) (σ : L2.St) (H : Hp) (fv : Value) (us : List Value) (ks : List Int) : Prop :=
  ∀ (A : Around) (more : List (Addr × Obj)) (s : Shared) (i : Nat) (u : Value) (k : Int), Sub X n A → Inv X (pins ++ more) σ H s → us[i]? = some u → ks[i]? = some k →
    wpAny (model X.prog X.w) A (call fv [u]) (fun r s' => (∃ t, r = .int k t) ∧ Inv X (pins ++ more) σ H s') (fun _ _ => False) s
/-- an object of ours is written: what is pinned beside it stays -/
theorem Inv.wr {s : Shared} {a : Addr} {f : Obj → Obj} {o o' : Obj} (I : Inv X pins σ H s) (fp : FpOk X pins H a) (e : (s.heap.update a f).get? a = some o') :
    Inv X pins σ H { s with heap := s.heap.update a f } := by
  obtain ⟨f0, f1, f2, f3, f4, f5⟩ := fp
  exact I.turned (it := a) (t' := s.toks) (fun b o hb q => (Heap.get?_update_ne _ _ _ _ hb).trans q) f0 f1 f3 f4 f5
theorem Inv.pinTwo {s : Shared} {a b : Addr} {o o' : Obj} (I : Inv X pins σ H s) (fa : FpOk X pins H a) (fb : FpOk X pins H b) (ea : s.heap.get? a = some o) (eb : s.heap.get? b = some o') (ha : ∀ v, o.data ≠ .cell v) (hb : ∀ v, o'.data ≠ .cell v) : Inv X (pins ++ [(a, o), (b, o')]) σ H s :=
  I.pins_of fun p hp => by
    rcases List.mem_append.mp hp with z | z
    · exact I.pin p (List.mem_append_right _ z)
    · rcases List.mem_cons.mp z with z | z
      · rw [z]
        exact ⟨ea, fa.1, fa.2.1, fa.2.2.1, ha⟩
      · rw [List.mem_singleton.mp z]
        exact ⟨eb, fb.1, fb.2.1, fb.2.2.1, hb⟩
theorem seq_nocell {c : String} {xs : Array Value} {m : Nat} : ∀ v, (seqObj c xs m).data ≠ .cell v := fun v z => by cases z
theorem key_turns {A : Around} {s : Shared} {a kS : Addr} {e1 : Nat} {E : Value → Shared → Prop} {Q : PUnit → Shared → Prop} {body : Value → PUnit → Sem (ForInStep PUnit)} (KR : KeyRun X n pins σ H fv us ks) (sb : Sub X n A) (hl : ks.length = us.length) (hz : us.length ≤ sizeLine)
    (fa : FpOk X pins H a) (fk : FpOk X pins H kS) (hne : kS ≠ a) (hb : ∀ x Q' s', wpAny (model X.prog X.w) A (call fv [x]) (fun r s'' => ∃ k t, r = .int k t ∧ wpAny (model X.prog X.w) A (Builtin.List.listUpdate (.ref kS) (·.push (.int k t))) (fun _ s3 => Q' (.yield ⟨⟩) s3) E s'') (fun _ _ => False) s' → wpAny (model X.prog X.w) A (body x ⟨⟩) Q' E s')
    (I : Inv X (pins ++ [(kS, seqObj "list" #[] 0), (a, seqObj "list" #[] e1)]) σ H s)
    (done : ∀ s' kA e, Inv X (pins ++ [(kS, seqObj "list" kA e), (a, seqObj "list" #[] e1)]) σ H s' → IntsAre kA.toList ks → Q ⟨⟩ s') :
    wpAny (model X.prog X.w) A (forIn us PUnit.unit body) Q E s := by
  refine ksk_fold (fun i s' => ∃ kA e, Inv X (pins ++ [(kS, seqObj "list" kA e), (a, seqObj "list" #[] e1)]) σ H s' ∧ IntsAre kA.toList (ks.take i)) us 0 s ⟨#[], 0, I, by simpa using IntsAre.nil⟩ ?_ ?_
  · rintro j x s' hx ⟨kA, e, I', hk⟩
    rw [Nat.zero_add] at hk ⊢
    have hj : j < us.length := (List.getElem?_eq_some_iff.mp hx).1
    obtain ⟨k, hkj⟩ : ∃ k, ks[j]? = some k := ⟨_, List.getElem?_eq_getElem (by omega)⟩
    have hz' : kA.size ≤ us.length := by
      have h1 := hk.length
      rw [Array.length_toList, List.length_take] at h1
      omega
    refine hb _ _ _ (wpAny_mono (KR A _ s' j x k sb I' hx hkj) (fun v s'' hv => ?_) fun _ _ z => z)
    obtain ⟨⟨t, rfl⟩, I2⟩ := hv
    have nk := (I2.pin (kS, seqObj "list" kA e) (List.mem_append_right _ (List.mem_append_right _ (.head _)))).1
    have na := (I2.pin (a, seqObj "list" #[] e1) (List.mem_append_right _ (List.mem_append_right _ (.tail _ (.head _))))).1
    refine ⟨k, t, rfl, listUpdate_at nk rfl ?_ (by omega) (Nat.le_trans (Nat.le_of_eq (Array.size_push ..)) (by omega))⟩
    have hc := get?_update_seq nk (·.push (.int k t))
    have ek : ks.take (j + 1) = ks.take j ++ [k] := by rw [List.take_add_one, hkj]; simp
    refine ⟨rfl, kA.push (.int k t), _, Inv.pinTwo (Inv.wr (I2.unpinned) fk hc (o := seqObj "list" kA e)) fk fa hc ((Heap.get?_update_ne _ _ _ _ hne.symm).trans na) seq_nocell seq_nocell, ?_⟩
    rw [ek, Array.toList_push]
    exact ksk_snoc hk
  · rintro s' ⟨kA, e, I', hk⟩
    rw [List.take_of_length_le (by omega)] at hk
    exact done s' kA e I' hk
/-- the keys beside the items -/
theorem pairs_is {kA : Array Value} {us : List Value} (hk : IntsAre kA.toList ks) (hl : ks.length = us.length) : ((kA.zip us.toArray).toList).map (fun p : Keyed => (iv p.1, p.2)) = ks.zip us := by
  have e : (kA.zip us.toArray).toList = kA.toList.zip us := by simp
  rw [e, show (fun p : Keyed => (iv p.1, p.2)) = Prod.map iv id from rfl, ← List.zip_map_left, iv_ints hk]
theorem key_end {A : Around} {s : Shared} {a kS : Addr} {e e1 : Nat} {kA : Array Value} {E : Value → Shared → Prop} {P : PySem.Fin → Shared → Prop} (hl : ks.length = us.length) (hz : us.length ≤ sizeLine) (hk : IntsAre kA.toList ks)
    (fa : FpOk X pins H a) (fk : FpOk X pins H kS) (hne : kS ≠ a) (I : Inv X (pins ++ [(kS, seqObj "list" kA e), (a, seqObj "list" #[] e1)]) σ H s)
    (h : ∀ s' c, Inv X pins σ H s' → s'.heap.get? a = some (seqObj "list" ((stabK (ks.zip us)).map (·.2)).toArray c) → P (.done (.ret .none)) s') :
    wpAny (model X.prog X.w) A (ksk_end a false us.toArray e1 (.ref kS) kA) P E s := by
  have nk := (I.pin (kS, seqObj "list" kA e) (List.mem_append_right _ (List.mem_append_right _ (.head _)))).1
  have na := (I.pin (a, seqObj "list" #[] e1) (List.mem_append_right _ (List.mem_append_right _ (.tail _ (.head _))))).1
  have hsz : kA.size = us.length := by
    have h1 := hk.length
    rw [Array.length_toList] at h1
    omega
  have hzs : (kA.zip us.toArray).size = us.length := by rw [Array.size_zip, hsz, List.size_toArray, Nat.min_self]
  have tail : ∀ st : SortSt, Srtd (lt2 ltIv) (arrOf st).toList → Stb (lt2 ltIv) (arrOf st).toList (kA.zip us.toArray).toList → failedOf st = none →
      wpAny (model X.prog X.w) A (ksk_tail a false e1 (.ref kS) st) P E s := fun st hs hb hf => by
    have pq : ∀ l : List Keyed, Srtd (lt2 ltIv) l → Srtd ltk (l.map fun p : Keyed => (iv p.1, p.2)) := fun l q => List.pairwise_map.mpr (q.imp fun {x y} z => z)
    have same : (arrOf st).toList.map (fun p : Keyed => (iv p.1, p.2)) = stabK (ks.zip us) := by
      refine srtd_cls_eq (pq _ hs) (stabK_srtd _) fun x => ?_
      rw [stabK_cls, ← pairs_is hk hl, List.filter_map, List.filter_map]
      have c := hb.cls (.int x.1 0, x.2)
      have ee : (eqv ltk x) ∘ (fun p : Keyed => (iv p.1, p.2)) = eqv (lt2 ltIv) ((.int x.1 0, x.2) : Keyed) := by
        funext p
        rfl
      rw [ee, c]
    have out : ((arrOf st).map (·.2)).toList = (stabK (ks.zip us)).map (·.2) := by
      rw [Array.toList_map, ← same, List.map_map]
      rfl
    have osz : ((arrOf st).map (·.2)).size = us.length := by
      have := congrArg List.length out
      rw [Array.length_toList, List.length_map, stabK_len, List.length_zip] at this
      omega
    unfold ksk_tail
    dsimp only
    refine wpAny_bind (listUpdate_at nk rfl ?_ (by omega) (Nat.zero_le _))
    have hc := get?_update_seq nk (fun _ => (#[] : Array Value))
    have I1 := Inv.wr (I.unpinned) fk hc (o := seqObj "list" kA e)
    have na1 : (s.heap.update kS (Obj.mapSeq fun _ => (#[] : Array Value))).get? a = some (seqObj "list" #[] e1) := (Heap.get?_update_ne _ _ _ _ hne.symm).trans na
    refine wpAny_bind (wpAny_letGo ?_)
    refine wpAny_bind (seqEpoch_at na1 rfl ?_)
    refine wpAny_bind (listUpdate_at na1 rfl ?_ (Nat.zero_le _) (by rw [if_neg Bool.false_ne_true, osz]; omega))
    have hd := get?_update_seq na1 (fun _ => if false = true then ((arrOf st).map (·.2)).reverse else (arrOf st).map (·.2))
    have I2 := Inv.wr I1 fa hd (o := seqObj "list" #[] e1)
    rw [hf]
    simp only [Bool.false_eq_true, if_false] at hd I2
    simp only [bne_self_eq_false, Bool.false_eq_true, if_false]
    have eo : ((stabK (ks.zip us)).map (·.2)).toArray = (arrOf st).map (·.2) := by rw [← out, Array.toArray_toList]
    exact wpAny_pure (h _ _ I2 (hd.trans (congrArg (fun z => some (seqObj "list" z _)) eo.symm)))
  unfold ksk_end
  dsimp only
  rw [if_neg Bool.false_ne_true, if_neg Bool.false_ne_true]
  by_cases h2 : us.toArray.size < 2
  · rw [if_pos h2, if_pos h2]
    refine wpAny_bind (wpAny_pure ?_)
    rw [StateT.run_pure]
    refine wpAny_bind (wpAny_pure ?_)
    dsimp only
    refine tail (SortSt.mk' general' (kA.zip us.toArray) #[] 7 none) ?_ (Stb.refl _) rfl
    have hs : (kA.zip us.toArray).toList.length < 2 := by rw [Array.length_toList, hzs]; simpa using h2
    show Srtd (lt2 ltIv) (kA.zip us.toArray).toList
    revert hs
    generalize (kA.zip us.toArray).toList = l
    intro hs
    match l, hs with
    | [], _ => exact List.Pairwise.nil
    | [v], _ => exact List.pairwise_singleton _ _
    | _ :: _ :: l, hs => exact absurd hs (by simp)
  · rw [if_neg h2, if_neg h2]
    rw [List.size_toArray] at h2
    rw [ksk_kind hk (by omega)]
    refine wpAny_bind (wpAny_pure ?_)
    have hall : AllL (fun p : Keyed => p.1 ∈ kA.toList) (kA.zip us.toArray).toList := fun p hm => by
      have e : (kA.zip us.toArray).toList = kA.toList.zip us := by simp
      rw [e] at hm
      exact (List.of_mem_zip (a := p.1) (b := p.2) hm).1
    refine wpAny_bind (wpAny_mono (wpS_sortO (st0 := SortSt.mk' oneType' (kA.zip us.toArray) #[] 7 none)
      (Q := fun _ st' => Srtd (lt2 ltIv) (arrOf st').toList ∧ Stb (lt2 ltIv) (arrOf st').toList (kA.zip us.toArray).toList ∧ failedOf st' = none) (swo2 swo_int) (int_cmp hk) rfl hall rfl rfl fun st' a1 a2 a3 => ⟨a1, a2, a3⟩) ?_ fun _ _ z => z)
    rintro ⟨⟨⟩, st'⟩ s' ⟨rfl, hp1, hp2, hf⟩
    dsimp only
    exact tail st' hp1 hp2 hf
theorem key_tree {A : Around} {s : Shared} {a : Addr} {m : Nat} {E : Value → Shared → Prop} {P : PySem.Fin → Shared → Prop} (KR : KeyRun X n pins σ H fv us ks) (sb : Sub X n A) (hl : ks.length = us.length) (hz : us.length ≤ sizeLine)
    (fa : FpOk X pins H a) (I : Inv X pins σ H s) (ho : s.heap.get? a = some (seqObj "list" us.toArray m))
    (h : ∀ s' c, Inv X pins σ H s' → s'.heap.get? a = some (seqObj "list" ((stabK (ks.zip us)).map (·.2)).toArray c) → P (.done (.ret .none)) s') :
    wpAny (model X.prog X.w) A (ksk_tree a fv false) P E s := by
  unfold ksk_tree
  refine wpAny_bind (listItems_at ho rfl ?_)
  refine wpAny_bind (listUpdate_at ho rfl ?_ (by rw [List.size_toArray]; exact hz) (Nat.zero_le _))
  have ho1 := get?_update_seq ho (fun _ => (#[] : Array Value))
  have I1 := Inv.wr I fa ho1 (o := seqObj "list" us.toArray m)
  refine wpAny_bind (seqEpoch_at ho1 rfl ?_)
  refine wpAny_bind (wpAny_newTuple ?_ hz)
  refine wpAny_bind (wpAny_newList ?_ (Nat.zero_le _))
  refine wpAny_holding ?_
  have I2 := I1.kept (t' := s.toks) (h' := (s.heap.update a (Obj.mapSeq fun _ => (#[] : Array Value))).push { cls := .type "tuple", data := .seq us.toArray }) (fun b o e => Heap.get?_push_of_some _ e)
  have fk : FpOk X pins H ((s.heap.update a (Obj.mapSeq fun _ => (#[] : Array Value))).push { cls := .type "tuple", data := .seq us.toArray }).objs.size := I2.fpOk (Nat.le_refl _) (I2.hok.fresh (Nat.le_refl _))
  have I3 := I2.kept (t' := s.toks) (h' := ((s.heap.update a (Obj.mapSeq fun _ => (#[] : Array Value))).push { cls := .type "tuple", data := .seq us.toArray }).push { cls := .type "list", data := .seq #[] }) (fun b o e => Heap.get?_push_of_some _ e)
  have na := Heap.get?_push_of_some { cls := .type "list", data := .seq #[] } (Heap.get?_push_of_some { cls := .type "tuple", data := .seq us.toArray } ho1)
  have nk : (((s.heap.update a (Obj.mapSeq fun _ => (#[] : Array Value))).push { cls := .type "tuple", data := .seq us.toArray }).push { cls := .type "list", data := .seq #[] }).get? ((s.heap.update a (Obj.mapSeq fun _ => (#[] : Array Value))).push { cls := .type "tuple", data := .seq us.toArray }).objs.size = some (seqObj "list" #[] 0) := Heap.get?_push_size _ rfl
  have hne : ((s.heap.update a (Obj.mapSeq fun _ => (#[] : Array Value))).push { cls := .type "tuple", data := .seq us.toArray }).objs.size ≠ a := fun z => by
    have q := Heap.lt_size (Heap.get?_push_of_some { cls := .type "tuple", data := .seq us.toArray } ho1)
    rw [z] at q
    exact Nat.lt_irrefl _ q
  unfold ksk_rest
  refine wpAny_bind (wpAny_rule ?_)
  first
    | rw [List.forIn_toArray]
    | (rw [← Array.forIn_toList]; simp only [List.toList_toArray])
  refine wpAny_bind (key_turns KR sb hl hz fa fk hne (fun x Q' s' hx => ?_) (Inv.pinTwo I3 fk fa nk na seq_nocell seq_nocell) fun s' kA e I' hk => ?_)
  · refine wpAny_bind (wpAny_attempt (wpAny_mono hx (fun r s'' hr => ?_) fun _ _ z => z.elim))
    obtain ⟨k, t, rfl, hq⟩ := hr
    dsimp only
    exact wpAny_bind (wpAny_mono hq (fun _ _ z => wpAny_pure z) fun _ _ z => z)
  · have nk' := (I'.pin (_, seqObj "list" kA e) (List.mem_append_right _ (List.mem_append_right _ (.head _)))).1
    dsimp only
    refine wpAny_bind (listItems_at nk' rfl ?_)
    exact key_end hl hz hk fa fk hne I' h
/-- a list of ours is told from now on -/
theorem Inv.track {s : Shared} {D : Addr} {ys : List V} {out : List Value} {c : Nat} (I : Inv X pins σ H s) (fa : FpOk X pins H D) (e : s.heap.get? D = some (seqObj "list" out.toArray c)) (r : Vals ys out) (hz : ys.length ≤ sizeLine) : Inv X pins σ (upd H D (.lst ys)) s := by
  obtain ⟨f0, f1, f2, f3, f4, f5⟩ := fa
  have ne : ∀ {b : Addr} {o : HO}, H b = some o → b ≠ D := fun e z => by rw [z, f0] at e; cases e
  obtain ⟨hp, g, d, t, os⟩ := s
  refine I.step (h' := hp) (g' := g) (t' := t) (d' := d) (ch := [D]) (fun b hb => ?_) (fun b o _ _ _ q _ => q) (fun b o _ _ _ q _ => ⟨o.slots, q⟩) (fun b o hb _ n => ?_) (fun b o _ q => ⟨o, q⟩)
    (fun b xs q => by rw [upd_ne (ne q)]; exact q) (fun b o u q => by rw [upd_ne (ne q)]; exact q) (fun b qs q => ⟨#[], by rw [upd_ne (ne q), q]; simp⟩) (fun m hm => hm) (fun b u q => ?_) I.bare
  · rw [List.mem_singleton.mp hb]
    exact ⟨f3, f1, f4, f5⟩
  · rw [upd_ne (fun z => hb (by rw [z]; exact List.mem_singleton.mpr rfl))]
    exact n
  · by_cases hb : b = D
    · subst hb
      rw [upd_same] at q
      cases q
      exact ⟨hz, out, c, r, e⟩
    · rw [upd_ne hb] at q
      exact (I.hok b u q).stay (fun _ _ _ z => z) (fun d z => by rw [upd_ne (ne z)]; exact z) fun d xs z => by rw [upd_ne (ne z)]; exact z
theorem key_sorted {s : Shared} {l : Addr} {f : Addr} {xs : List V} {Q : VK} (KR : KeyRun X n pins σ H (.ref f) us ks) (hr : Room (n + 2) X.A) (I : Inv X pins σ H s) (hs : SqL X.K H l xs) (hv : ∀ its, Vals xs its → s.heap.IsList l its.toArray → its = us) (hl : ks.length = xs.length)
    (q : ∀ D, H D = none → Q (.ref D) (upd H D (.lst ((stabK (ks.zip xs)).map (·.2))))) :
    wpAny (model X.prog X.w) X.A (call (.builtin "sorted") [.ref l] [(Str.ofString "key", .ref f)]) (EP X pins σ Q) X.xe s := by
  obtain ⟨its, rv, hil, hz⟩ := I.list hs
  obtain rfl := hv its rv hil.isList
  have hz' : its.length ≤ sizeLine := by rw [← rv.length]; exact hz
  refine call_function_entry_kw kind_sorted plain_sorted entry_sorted (ksk_s1 _ _) ?_
  unfold Builtin.«sorted»
  refine wpAny_bind (m := checkCount "sorted" 1 1 _) (wpAny_pure ?_)
  refine wpAny_bind (collect_list hil.isList ?_ hz')
  refine wpAny_bind (wpAny_newList ?_ hz')
  have hsz : ((s.heap.push (seqObj "list" #[] 0)).update s.heap.objs.size (Obj.mapSeq (· ++ its.toArray))).objs.size = s.heap.objs.size + 1 := by
    rw [Heap.size_update, size_push']
  have keep : ∀ b o, s.heap.get? b = some o → (((s.heap.push (seqObj "list" #[] 0)).update s.heap.objs.size (Obj.mapSeq (· ++ its.toArray))).push (seqObj "list" its.toArray 0)).get? b = some o := fun b o e => by
    refine Heap.get?_push_of_some _ ?_
    rw [Heap.get?_update_ne _ _ _ _ (Nat.ne_of_lt (Heap.lt_size e))]
    exact Heap.get?_push_of_some _ e
  have ho : (((s.heap.push (seqObj "list" #[] 0)).update s.heap.objs.size (Obj.mapSeq (· ++ its.toArray))).push (seqObj "list" its.toArray 0)).get? (s.heap.objs.size + 1) = some (seqObj "list" its.toArray 0) := by
    rw [← hsz]
    exact Heap.get?_push_size _ rfl
  show wpAny _ _ _ _ _ { s with heap := ((s.heap.push (seqObj "list" #[] 0)).update s.heap.objs.size (Obj.mapSeq (· ++ its.toArray))).push (seqObj "list" its.toArray 0) }
  rw [hsz]
  have I1 := I.kept (t' := s.toks) keep
  have fa : FpOk X pins H (s.heap.objs.size + 1) := I.fpOk (Nat.le_succ _) (I.hok.fresh (Nat.le_succ _))
  refine wpAny_bind (wpAny_holding (wpAny_call_entry_kw slot_list_sort ⟨_, ho, rfl⟩ entry_list_sort ?_ (ksk_l1 _ _)))
  rw [ksk_t1]
  have sb : Sub X n X.A.in1.in1 := (Sub.in1 (Sub.in1 ⟨hr, rfl⟩))
  refine key_tree KR sb (by rw [hl]; exact rv.length) hz' fa I1 ho fun s' c I' e => ⟨_, rfl, wpAny_pure ⟨_, rfl, ?_⟩⟩
  have rz : Vals ((stabK (ks.zip xs)).map (·.2)) ((stabK (ks.zip its)).map (·.2)) := ((pairR_zip rv ks).stab).vals
  refine ⟨.ref _, upd H (s.heap.objs.size + 1) (.lst ((stabK (ks.zip xs)).map (·.2))), ?_, rfl, q _ fa.1⟩
  refine Inv.track I' fa e rz ?_
  rw [List.length_map, stabK_len, List.length_zip]
  omega
end
/-! ### lambdas of parameters, without captured names -/
abbrev LmO (q : Str) (params : Arguments) (body : Expr) (scope : Scope) (pm : Value) (c' : Addr) (ctv : Value) : Obj := PySem.W.kla_obj "<lambda>" q params body scope [] pm c' ctv
theorem clo_nil (cells : List (Str × Addr)) : ∀ (names : List (Str × NameKind)), (∀ y ∈ names, y.2 ≠ .free) → cloFrom cells names [] = []
  | [], _ => rfl
  | (m, k) :: r, h => by
    unfold cloFrom
    have hk : k ≠ .free := h (m, k) List.mem_cons_self
    rw [if_neg (by simpa using hk)]
    exact clo_nil cells r fun y hy => h y (List.mem_cons_of_mem _ hy)
section
variable {X : Cx} {pins : List (Addr × Obj)} {σ : L2.St} {H : Hp} {s : Shared} {q : Str} {params : Arguments} {body : Expr} {scope : Scope}
theorem lam_make {c P : Addr} {pos : Pos} {E Q : Value → Shared → Prop} (I : Inv X pins σ H s) (TB : TabB X.base X.mg c P) (hcode : X.env.code = .ref c) (hq : q = X.env.qual ++ "<lambda>") (hT : TabS H P q)
    (hdef : defaultsOf params X.env = ([], [])) (hfree : ∀ y ∈ scope.names, y.2 ≠ .free)
    (h : ∀ (f c' : Addr) (pm ctv : Value) (H1 : Hp) (s' : Shared), Inv X pins σ H1 s' → (∀ b o, b ≠ P → H b = some o → H1 b = some o) → TabS H1 P q → s'.heap.get? f = some (LmO q params body scope pm c' ctv) → FpOk X pins H1 f → H1 c' = some (CodeO c' q) → Q (.ref f) s') :
    wpAny (model X.prog X.w) X.A (eval (.Lambda params body scope pos) X.env) Q E s := by
  subst hq
  obtain ⟨ps, eP, tri, among⟩ := hT
  have oP : s.heap.get? P = some { cls := .none, data := .fields ps } := I.hok P _ eP
  have bm : s.heap.BuiltinsAt X.mg P := TB.bm.keeps I.bk
  have clos : closureFor scope X.env = pure [] := by
    rw [closure_ok fun y hy e => absurd e (hfree y hy), clo_nil _ _ hfree]
  refine PySem.W.kla_eval hdef ?_
  cases hit : codeAmong pos ps.toList with
  | some cv =>
    obtain ⟨c', rfl, eC⟩ := among pos cv hit
    refine PySem.W.kla_makeFunctionHit (c := c) (P := P) (ps := ps) (mg := X.mg) clos I.ok.glob (I.mod.glob.keeps I.bk) hcode (TB.code.keeps I.bk) oP tri hit bm fun ctv h' tk keep big => ?_
    have J := I.kept (t' := tk) (h' := h'.push (LmO (X.env.qual ++ "<lambda>") params body scope ((X.mg "__name__").getD .none) c' ctv)) fun b o e => Heap.get?_push_of_some _ (keep b o e)
    exact h _ c' _ ctv H _ J (fun _ _ _ e => e) ⟨ps, eP, tri, among⟩ (Heap.get?_push_size _ rfl) (I.fpOk big (I.hok.fresh big)) eC
  | none =>
    refine PySem.W.kla_makeFunction (c := c) (P := P) (ps := ps) (mg := X.mg) clos I.ok.glob (I.mod.glob.keeps I.bk) hcode (TB.code.keeps I.bk) oP tri hit TB.gP bm fun c' ctv h' tk keep big lt rec eT => ?_
    obtain ⟨_, oc, vs, t, ⟨⟩, e1, e2, e3⟩ := rec
    have big2 : s.heap.objs.size ≤ h'.objs.size := Nat.le_trans big (Nat.le_of_lt lt)
    have nc : H c' = none := I.hok.fresh big
    have J := inv_table (t' := tk) (q := X.env.qual ++ "<lambda>") (more := #[rawInt pos.line, rawInt pos.col, .ref c']) (h' := h'.push (LmO (X.env.qual ++ "<lambda>") params body scope ((X.mg "__name__").getD .none) c' ctv)) I eP
      (fun b o hb e => Heap.get?_push_of_some _ (keep b o hb e)) (Heap.get?_push_of_some _ eT) big ⟨oc, vs, t, Heap.get?_push_of_some _ e1, e2, e3⟩
    have up : ∀ b o, b ≠ P → H b = some o → upd (upd H P (.tbl (ps ++ #[rawInt pos.line, rawInt pos.col, .ref c']))) c' (CodeO c' (X.env.qual ++ "<lambda>")) b = some o := fun b o hb e => by
      rw [upd_ne (ne_of_none e nc), upd_ne hb]
      exact e
    have lst : (ps ++ #[rawInt pos.line, rawInt pos.col, .ref c']).toList = ps.toList ++ [rawInt pos.line, rawInt pos.col, .ref c'] := by simp
    refine h _ c' _ ctv _ _ J up ⟨_, by rw [upd_ne (ne_of_none eP nc), upd_same], by rw [lst]; exact TriplesOk_snoc _ _ _ _ tri, fun p' cv hc => ?_⟩ (Heap.get?_push_size _ rfl) (I.fpOk big2 ?_) upd_same
    · rw [lst] at hc
      rcases among_app _ tri hc with z | z
      · obtain ⟨c0, y1, y2⟩ := among p' cv z
        exact ⟨c0, y1, up _ _ (fun w => by rw [w, eP] at y2; exact codeO_ne ps (Option.some.inj y2).symm) y2⟩
      · exact ⟨c', z, upd_same⟩
    · have n1 : h'.objs.size ≠ c' := Nat.ne_of_gt lt
      have n2 : h'.objs.size ≠ P := Nat.ne_of_gt (Nat.lt_of_lt_of_le (Heap.lt_size oP) big2)
      rw [upd_ne n1, upd_ne n2]
      exact I.hok.fresh big2
/-- its call: what its body makes -/
theorem lam_run {A : Around} {f c' : Addr} {pm ctv : Value} {N ps : List Str} {us : List Value} {vs : List V} {tb : TE} {Q : VK} {k : Nat} (sb : Sub X (k + 1) A) (I : Inv X pins σ H s) (of1 : s.heap.get? f = some (LmO q params body scope pm c' ctv)) (hc : H c' = some (CodeO c' q))
    (S : FnScope N ps scope) (hbind : bindArgs (PySem.W.kla_fn "<lambda>" q params body scope [] pm (.ref c') ctv) ⟨us, []⟩ = pure (ps.zip us)) (r : Vals vs us) (hl : vs.length = ps.length)
    (hbody : ∀ (A : Around) (outer : List Env) (s : Shared) (H : Hp), Room k (A.deeper (envOfC q scope s.heap.objs.size f (.ref c'))) → PE (cxOf C8.CX0 X.prog X.w X.K X.mg X.base N q scope f (.ref c') A outer s H C8.E0) body tb)
    (want : tb (L2.start N vs) H Q) : wpAny (model X.prog X.w) A (call (.ref f) us) (EP X pins σ Q) (fun _ _ => False) s := by
  have e0 : Env0 X.prog X.w X.K X.mg X.base A X.stack s H := by
    have e := I.env0
    exact ⟨by rw [sb.fr]; exact e.frames, e.mod, e.bs, e.bsz, e.funs, e.frf, e.hok, e.bare⟩
  obtain ⟨⟨oc, ws, t, y1, y2, y3⟩, _, _⟩ := I.hok c' _ hc
  have kinds : ∀ y ∈ ps.zip us, scope.names.lookup y.1 = some .local ∨ (scope.names.lookup y.1 = some .cell ∧ ((cellsFrom (s.heap.objs.size + 1) scope.names []).lookup y.1).isSome = true) := fun ⟨m, v⟩ hy => by
    rcases S.par m (List.of_mem_zip hy).1 with z | z
    · exact .inl z
    · exact .inr ⟨z, PySem.W.cellsFrom_some _ _ _ (.inl z)⟩
  have rc : codeAny (model X.prog X.w) A (.call (.ref f) ⟨us, []⟩) (CR C8.CX0 X.stack X.prog X.w H s Q C8.E0) s := by
    refine PySem.W.kla_callFunE sb.room.depth of1 rfl S.co S.gen rfl ⟨c', oc, ws, t, rfl, y1, y2, y3⟩ ?_
    rw [hbind]
    refine wpAny_pure (wpAny_newFunctionEnv_cells S.kind kinds fun env he s1 x => ?_)
    subst he
    refine ⟨I.nolimit.keeps x.toInCall.keep, ?_⟩
    have J : Inv (cxOf C8.CX0 X.prog X.w X.K X.mg X.base N q scope f (.ref c') A X.stack s H C8.E0) [] (L2.start N vs) H s1 := inv_start S sb.room.hd e0 hl r x
    refine PySem.W.kla_codeExpr (wpAny_mono ((hbody A X.stack s H (sb.room.deeper _)).run [] s1 (L2.start N vs) H Q J want) (fun v s' hq => ?_) fun e s' hq => hq)
    obtain ⟨w', H', J', rv, hq⟩ := hq
    exact ⟨w', H', J'.os, J'.bare, J'.base, J'.hok, rv, hq⟩
  refine wpAny_call (codeAny_mono rc fun r s' hq => ?_)
  cases r with
  | error e => exact (show False from hq)
  | ok fl =>
    cases fl with
    | ret u => exact I.after hq
    | next => exact False.elim hq
    | brk => exact False.elim hq
    | cont => exact False.elim hq
theorem lam_keys {f c' : Addr} {pm ctv : Value} {N : List Str} {nm : Str} {us : List Value} {vs : List V} {ks : List Int} {tb : TE} {k : Nat} (fp : FpOk X pins H f) (hc : H c' = some (CodeO c' q)) (S : FnScope N [nm] scope)
    (hbind : ∀ (q : Str) (pm cv ctv : Value) (u : Value), bindArgs (PySem.W.kla_fn "<lambda>" q params body scope [] pm cv ctv) ⟨[u], []⟩ = pure [(nm, u)]) (r : Vals vs us)
    (hbody : ∀ (A : Around) (outer : List Env) (s : Shared) (H : Hp), Room k (A.deeper (envOfC q scope s.heap.objs.size f (.ref c'))) → PE (cxOf C8.CX0 X.prog X.w X.K X.mg X.base N q scope f (.ref c') A outer s H C8.E0) body tb)
    (want : ∀ (i : Nat) (x : V) (z : Int), vs[i]? = some x → ks[i]? = some z → tb (L2.start N [x]) H fun v H' => v = .int z ∧ H' = H) : KeyRun X (k + 1) (pins ++ [(f, LmO q params body scope pm c' ctv)]) σ H (.ref f) us ks := by
  intro A more s i u z sb I hu hz
  have of1 := (I.pin (f, LmO q params body scope pm c' ctv) (List.mem_append_right _ (List.mem_append_left _ (List.mem_append_right _ (.head _))))).1
  have hi : i < vs.length := by
    have := (List.getElem?_eq_some_iff.mp hu).1
    rw [r.length]
    exact this
  obtain ⟨x, hx⟩ : ∃ x, vs[i]? = some x := ⟨_, List.getElem?_eq_getElem hi⟩
  obtain ⟨u', hu', rx⟩ := r.get hx
  obtain rfl : u' = u := Option.some.inj (hu'.symm.trans hu)
  refine wpAny_mono (lam_run (ps := [nm]) (us := [u']) (vs := [x]) sb I of1 hc S (hbind _ _ _ _ _) (.cons rx .nil) rfl hbody (want i x z hx hz)) (fun w s' hw => ?_) fun _ _ y => y
  obtain ⟨v, H', I', rv, rfl, rfl⟩ := hw
  obtain ⟨t, rfl⟩ := rv
  exact ⟨⟨t, rfl⟩, I'⟩
end
/-! ### sorted(e, key=lambda x: ..) -/
def rSortL (P : Addr) (q : Str) (N : List Str) (tb : TE) (σ : L2.St) (Q : VK) (x : V) (H1 : Hp) : Prop := ∃ (a : Addr) (xs : List V) (ks : List Int), x = .ref a ∧ H1 a = some (.lst xs) ∧ a ≠ P ∧ ks.length = xs.length ∧ TabS H1 P q ∧
  ∀ H2, (∀ b o, b ≠ P → H1 b = some o → H2 b = some o) → TabS H2 P q → (∀ (i : Nat) (y : V) (z : Int), xs[i]? = some y → ks[i]? = some z → tb (L2.start N [y]) H2 fun v H' => v = .int z ∧ H' = H2) ∧
    ∀ D, H2 D = none → Q (.ref D) (upd H2 D (.lst ((stabK (ks.zip xs)).map (·.2))))
def tSortL (te : TE) (P : Addr) (q : Str) (N : List Str) (tb : TE) : TE := fun σ H Q => te σ H (rSortL P q N tb σ Q)
def oneV (R : V → Hp → Prop) : List V → Hp → Prop := fun vs H1 => match vs with
  | [x] => R x H1
  | _ => False
theorem pe_sortedL {X : Cx} {e : Expr} {te tb : TE} {params : Arguments} {body : Expr} {scope : Scope} {p pos lpos kpos : Pos} {q nm : Str} {N : List Str} {c P : Addr} {k : Nat} (he : PE X e te) (hg : Gl X "sorted") (hm : X.mg "sorted" = none) (hr : Room (k + 3) X.A)
    (TB : TabB X.base X.mg c P) (hcode : X.env.code = .ref c) (hq : q = X.env.qual ++ "<lambda>") (hdef : defaultsOf params X.env = ([], [])) (hfree : ∀ y ∈ scope.names, y.2 ≠ .free) (S : FnScope N [nm] scope)
    (hbind : ∀ (q : Str) (pm cv ctv : Value) (u : Value), bindArgs (PySem.W.kla_fn "<lambda>" q params body scope [] pm cv ctv) ⟨[u], []⟩ = pure [(nm, u)])
    (hbody : ∀ (f c' : Addr) (A : Around) (outer : List Env) (s : Shared) (H : Hp), Room k (A.deeper (envOfC q scope s.heap.objs.size f (.ref c'))) → PE (cxOf C8.CX0 X.prog X.w X.K X.mg X.base N q scope f (.ref c') A outer s H C8.E0) body tb)
    (hs : starEach [e] X.env = (false, eval e X.env) :: starEach [] X.env := by rfl) (hst : backTo pos (starEach [e] X.env) = (false, eval e X.env) :: backTo pos (starEach [] X.env) := by rfl) (hpl : (backTo pos (starEach [e] X.env)).any (·.1) = false := by rfl)
    (hall : (backToKw pos (keywordEach [⟨some (Str.ofString "key"), .Lambda params body scope lpos, kpos⟩] X.env)).all (·.1.isSome) = true := by rfl) (hnone : (backToKw pos (keywordEach [⟨some (Str.ofString "key"), .Lambda params body scope lpos, kpos⟩] X.env)).any (·.1.isNone) = false := by rfl) :
    PE X (.Call (.Name "sorted" p) [e] [⟨some (Str.ofString "key"), .Lambda params body scope lpos, kpos⟩] pos) (tSortL te P q N tb) := by
  refine ⟨fun pins s σ H Q I h => ?_⟩
  refine wpAny_Call_Name_kw (ld_blt I hg hm (u := .builtin "sorted") (by first | rfl | decide +kernel) ?_ (by decide) (by decide))
  refine PyProof.Rows.callWith_kw (thn ((pa_cons he pa_nil hs).run pos pins s σ H (oneV (rSortL P q N tb σ Q)) I h) fun us s1 ⟨vs, H1, I1, r1, q1⟩ => ?_) hst hpl hall hnone
  match vs, r1, q1 with
  | [x], .cons rx .nil, q1 =>
    obtain ⟨a, xs, ks, rfl, ha, hne, hl, hT, q1⟩ := (show rSortL P q N tb σ Q x H1 from q1)
    obtain rfl := (show _ = Value.ref a from rx)
    show wpAny _ _ (evalAll ((do let v ← eval (.Lambda params body scope lpos) X.env; standAt pos; pure v) :: [])) _ _ s1
    refine wpAny_evalAll_cons (wpAny_bind (lam_make I1 TB hcode hq hT hdef hfree fun f c' pm ctv H2 s2 I2 keep hT2 hf fp hc => wpAny_bind (wpAny_standAt (wpAny_pure ?_))))
    refine wpAny_evalAll_nil ?_
    obtain ⟨q2, q3⟩ := q1 H2 keep hT2
    have I3 : Inv X (pins ++ [(f, LmO q params body scope pm c' ctv)]) σ H2 s2 := I2.pins_of fun p hp => by
      rcases List.mem_append.mp hp with z | z
      · exact I2.pin p (List.mem_append_right _ z)
      · rw [List.mem_singleton.mp z]
        exact ⟨hf, fp.1, fp.2.1, fp.2.2.1, fun v y => by cases y⟩
    have eL := keep _ _ hne ha
    obtain ⟨its, rv, hil, hz⟩ := I3.list (SqL.of eL)
    have KR := lam_keys (k := k) (pm := pm) (ctv := ctv) (X := X) (pins := pins) (σ := σ) (us := its) (ks := ks) fp hc S hbind rv (hbody f c') q2
    refine wpAny_mono (key_sorted (n := k + 1) KR hr I3 (SqL.of eL) (fun its' rv' hl' => ?_) hl q3) (fun w s3 hw => ?_) fun _ _ z => z
    · obtain ⟨o, e1, e2, m, e3⟩ := id hl'
      obtain ⟨o', y1, y2, m', y3⟩ := id hil.isList
      rw [y1] at e1
      cases e1
      rw [y3] at e3
      have := (Data.seq.inj e3).1
      simpa using this.symm
    · obtain ⟨v, H', I', rw_, qq⟩ := hw
      exact ⟨v, H', I'.unpinned, rw_, qq⟩
end Fw

/-! {elt for target in iter}, elt an int. Own work. -/
namespace Fw
open PySem PySem.Spec PyProof.Rows L2 PpSet
section
variable {X : Cx}
/-- D is the new set -/
def tScI (w : World) (wi : TI) (g : TG) (te : TE) (vs : List Nat) : TE := fun σ H Q => wi σ H fun J H1 => ∀ D, H1 D = none →
  ∃ W : Nat → Nat → Hp → Prop, (∃ m, W 0 m (upd H1 D (SetO w D (fun _ => false) 0))) ∧ ∀ i m H, W i m H → (J.stop i H ∧ Q (.ref D) H) ∨
    (J.go i H ∧ ∃ N : Hp → Prop, (∀ H', N H' → ∃ m', m' < m ∧ W (i + 1) m' H') ∧ ∀ x H', J.yld i H x H' → g x (wipe σ vs) H' fun σ2 H2 => wipe σ2 vs = wipe σ vs ∧
      te σ2 H2 fun y H4 => ∃ (c : Int) (S : Int → Bool) (n : Nat), y = .int c ∧ H4 D = some (SetO w D S n) ∧ n + 1 < scanBound ∧ N (upd H4 D (SetO w D (fun j => S j || decide (j = c)) (if S c = true then n else n + 1))))
theorem pe_scI {elt tg iter : Expr} {scope : Scope} {own : List (PySem.Str × Nat)} {pos : Pos} {wi : TI} {g : TG} {te : TE} (calm : X.calm = true) (nd : X.N.Nodup) (hi : PI X tg iter wi) (ok : BlkOk X.N X.env.scope scope own)
    (hg : ∀ (s : Shared) (H : Hp) (C : Addr) (cl : List (PySem.Str × Addr)) (fp : List Addr), PG (X.blk s H scope (compEnvC scope cl C X.env) fp) tg g)
    (he : ∀ (s : Shared) (H : Hp) (C : Addr) (cl : List (PySem.Str × Addr)) (fp : List Addr), PE (X.blk s H scope (compEnvC scope cl C X.env) fp) elt te) (plain : ∀ x, foldedSetIterable iter X.env x = pure x := by intro _; rfl) :
    PE X (.SetComp elt [⟨tg, iter, [], 0⟩] scope pos) (tScI X.w wi g te (own.map (·.2))) := by
  refine ⟨fun pins s σ H Q inv want => ?_⟩
  rw [eval_SetComp]
  have free : ∀ y ∈ scope.names, y.2 = .free → ∃ c, X.env.cells.lookup y.1 = some c := fun y hy e =>
    (ok.free y hy e).elim (fun k => inv.ok.has _ (.inl k)) fun k => inv.ok.has _ (.inr k)
  refine wpAny_comprehension_free rfl plain (closure_ok free) ok.kind (fun y hy e => by rw [ok.uniq y hy, e]) (thn (hi.run pins s σ H _ inv want) fun xv s1 hx => thn hx fun itv s2 h2 => ?_)
  obtain ⟨it, fp, tn, J, H2, rfl, inv2, T, st2, f2, q⟩ := h2
  refine newSet_ok (newEnv_comp ?_)
  obtain ⟨D, hD⟩ : ∃ D, s2.heap.objs.size = D := ⟨_, rfl⟩
  have fresh : H2 D = none := inv2.hok.fresh (Nat.le_of_eq hD)
  obtain ⟨W, ⟨m0, w0⟩, turn⟩ := q D fresh
  obtain ⟨s3, hs3⟩ : ∃ z : Shared, { s2 with heap := s2.heap.push { cls := .type "set", dict := none, data := .set #[] 0 (.fresh 0 0 (!X.w.params.followText "set-order")) } } = z := ⟨_, rfl⟩
  have h3 : s3.heap = s2.heap.push { cls := .type "set", dict := none, data := .set #[] 0 (.fresh 0 0 (!X.w.params.followText "set-order")) } := by rw [← hs3]
  obtain ⟨H3, hH3⟩ : ∃ z, upd H2 D (SetO X.w D (fun _ => false) 0) = z := ⟨_, rfl⟩
  have inv3 : Inv X pins σ H3 s3 := by
    rw [← hs3, ← hH3]
    refine inv2.laid (t' := s2.toks) (fun b o e => Heap.get?_push_of_some _ e) (Nat.le_of_eq hD) ?_
    rw [← hD]
    exact setO_new (setR_fresh X.w)
  have small : ∀ b ∈ fp, b < s2.heap.objs.size := fun b hb => by
    obtain ⟨o, e, _⟩ := T.obj _ _ st2 b hb
    exact Heap.lt_size e
  have f3 : ∀ b ∈ fp, FpOk X pins H3 b ∧ b < s3.heap.objs.size := fun b hb => by
    have lt := small b hb
    refine ⟨⟨?_, (f2 b hb).2⟩, by rw [h3, Heap.size_push]; exact Nat.lt_succ_of_lt lt⟩
    rw [← hH3, upd_ne (by rw [← hD]; exact Nat.ne_of_lt lt)]
    exact (f2 b hb).1
  have st3 : tn 0 s3.heap := T.keep _ _ _ st2 fun b _ o e => by rw [h3]; exact Heap.get?_push_of_some _ e
  have inv4 := block_start inv3 ok nd f3
  have pg := hg s3 H3 s3.heap.objs.size (cellsFrom (s3.heap.objs.size + 1) scope.names (cloFrom X.env.cells scope.names [])) fp
  have pe := he s3 H3 s3.heap.objs.size (cellsFrom (s3.heap.objs.size + 1) scope.names (cloFrom X.env.cells scope.names [])) fp
  rw [hs3, hD]
  show codeAny _ _ (.compStart (.SetComp elt [⟨tg, iter, [], 0⟩] scope pos) 0 (.ref it) (.ref D) (compEnvC scope (cellsFrom (s3.heap.objs.size + 1) scope.names (cloFrom X.env.cells scope.names [])) s3.heap.objs.size X.env)) _ { s3 with heap := pushCells (s3.heap.push { cls := .type "dict", data := .dict #[] }) scope.names }
  obtain ⟨ce, hce⟩ : ∃ z, compEnvC scope (cellsFrom (s3.heap.objs.size + 1) scope.names (cloFrom X.env.cells scope.names [])) s3.heap.objs.size X.env = z := ⟨_, rfl⟩
  rw [hce] at inv4 pg pe ⊢
  have cL : ce.locals = s3.heap.objs.size := by rw [← hce]; rfl
  obtain ⟨s4, hs4⟩ : ∃ z : Shared, { s3 with heap := pushCells (s3.heap.push { cls := .type "dict", data := .dict #[] }) scope.names } = z := ⟨_, rfl⟩
  rw [hs4] at inv4 ⊢
  have st4 : tn 0 s4.heap := T.keep _ _ _ st3 fun b _ o e => by rw [← hs4]; exact pushCells_keeps _ _ _ _ (Heap.get?_push_of_some _ e)
  have fpB : ∀ {σ' : L2.St} {H' : Hp} {s' : Shared}, Inv (X.blk s3 H3 scope ce fp) [] σ' H' s' → (∀ b ∈ fp, H' b = none) → ∀ b ∈ fp, FpOk (X.blk s3 H3 scope ce fp) [] H' b := fun inv' hn b hb =>
    ⟨hn b hb, (inv'.ok.exf b hb).1, inv'.ok.exfs b hb, .inl hb, fun x c e => (inv'.ok.exf b hb).2 x c e, fun p hp => absurd (show p ∈ ([] : List (Addr × Obj)) ++ [] from hp) (by simp)⟩
  have loop : codeAny (model X.prog X.w) X.A (.compLoop (.SetComp elt [⟨tg, iter, [], 0⟩] scope pos) 0 (.ref it) (.ref D) ce) (compPost (model X.prog X.w) X.A X.xe none (EP X pins σ Q) (.ref D) s3.heap.objs.size) s4 := by
    refine compLoopS_any (fun n s' => ∃ i H', Inv (X.blk s3 H3 scope ce fp) [] (wipe σ (own.map (·.2))) H' s' ∧ tn i s'.heap ∧ (∀ b ∈ fp, H' b = none) ∧ W i n H') ?_ m0 ⟨0, H3, inv4, st4, fun b hb => (f3 b hb).1.1, by rw [← hH3]; exact w0⟩
    rintro n s5 ⟨i, H5, inv5, st5, n5, w5⟩
    rcases turn i n H5 w5 with ⟨stop, qq⟩ | ⟨go, N, hN, step⟩
    · refine thnF (T.done (X.blk s3 H3 scope ce fp) rfl rfl rfl calm i [] s5 _ H5 (fun _ _ => False) inv5 (fpB inv5 n5) st5 stop) fun r s6 ⟨hr, inv6⟩ => ?_
      subst hr
      have inv7 : Inv X pins σ H5 s6 := inv3.call' (ch := fp) inv6.os inv6.base inv6.hok inv6.bare fun b hb => ⟨(f3 b hb).1.2.2.2.1, (f3 b hb).1.2.1, (f3 b hb).1.2.2.2.2.1, (f3 b hb).1.2.2.2.2.2⟩
      have nC : H5 s3.heap.objs.size = none := by
        rw [← cL]
        exact inv6.free
      obtain ⟨m, hm, _⟩ := inv6.loc
      have hm : s6.heap.Ns ce.locals m := hm
      rw [cL] at hm
      obtain ⟨f0, f1, _, y3, y4, y5⟩ := inv3.fpOk (Nat.le_refl _) nC
      exact ⟨m, hm, fun h'' sb => ⟨.ref D, H5, inv7.turned (t' := s6.toks) (fun b o hb e => (sb.2 b hb).trans e) f0 f1 y3 y4 y5, rfl, qq⟩⟩
    · refine thnF (T.item (X.blk s3 H3 scope ce fp) rfl rfl rfl calm i [] s5 _ H5 (fun _ _ => False) inv5 (fpB inv5 n5) st5 go) fun r s6 ⟨u, hr, h6⟩ => ?_
      subst hr
      refine thnF h6 fun _ s7 ⟨x, H7, inv7, r7, y7, st7, n7⟩ => ?_
      have invP := inv7.pinned (fpB inv7 n7) (T.obj _ _ st7)
      refine thnF (pg.run _ s7 _ H7 x u _ invP r7 (step x H7 y7)) fun _ s8 ⟨σ8, H8, inv8, hw8, q8⟩ => ?_
      rw [List.forIn_nil]
      refine wpAny_pure ?_
      rw [if_pos rfl]
      refine thnF (pe.run _ s8 σ8 H8 _ inv8 q8) fun z s10 ⟨yv, H10, inv10, r10, c, S0, n0, ey, eD, room, nx⟩ => ?_
      subst ey
      refine thnF (mt_sadd (X := X.blk s3 H3 scope ce fp) _ s10 σ8 H10 (.ref D) [.int c] (.ref D) [z] (fun v H' => v = .non ∧ N H') inv10 rfl (.cons r10 .nil) ⟨D, c, S0, n0, rfl, rfl, eD, room, rfl, nx⟩) fun _ s11 ⟨v11, H11, inv11, _, _, nx⟩ => ?_
      obtain ⟨m', lt, w'⟩ := hN H11 nx
      have keepP : ∀ b ∈ fp, ∀ o, s7.heap.get? b = some o → s11.heap.get? b = some o ∧ H11 b = none := fun b hb o e =>
        let z := inv11.pin (b, o) (List.mem_append_right _ (List.mem_append_right _ (mem_pinsAt hb e)))
        ⟨z.1, z.2.1⟩
      refine ⟨m', lt, i + 1, H11, (inv11.unpinned (pins := [])).weak (by rw [← hw8, wipe_length]) (fun j v e => ?_), T.keep _ _ _ st7 fun b hb o e => (keepP b hb o e).1, fun b hb => ?_, w'⟩
      · rw [← hw8] at e
        exact (wipe_some e).1
      · obtain ⟨o, e, _⟩ := T.obj _ _ st7 b hb
        exact (keepP b hb o e).2
  exact codeAny_compStart_set loop (T.self X.A 0 _ _ _ st4 loop)
end
end Fw

/-! A def with a lambda: its code object's table, from the top to the law. Own work. -/
namespace Fw
open PySem PySem.Spec PyProof.Rows L2 LamX
open He (ga ma frT tabOf)
/-- the code object of the function at f -/
def codeAt (K : Frag) (f : Addr) : Addr := match K.lookup f with
  | some ⟨_, _, .func fd, _⟩ => (match fd.code with
    | .ref c => c
    | _ => 0)
  | _ => 0
abbrev tabAt (K : Frag) (f : Addr) : Addr := tabOf K (codeAt K f)
/-- the table of the def at f is known to the base -/
abbrev TbF (K : Frag) (mg : Str → Option Value) (base : Heap) (f : Addr) : Prop := TabB base mg (codeAt K f) (tabAt K f)
theorem codeAt_is {K : Frag} {f : Addr} {oc : Value} {od : Option Addr} {fd : FuncData} {osl : Array (Option Value)} {q : Str} (lk : K.lookup f = some ⟨oc, od, .func fd, osl⟩) (hc : PySem.W.codeIn K fd.code q = true) : fd.code = .ref (codeAt K f) := by
  obtain ⟨c, e⟩ := He.codeIn_ref hc
  unfold codeAt
  rw [lk]
  show fd.code = .ref (match fd.code with | .ref c => c | _ => 0)
  rw [e]
section
variable {P : Program} {w : World} {K : Frag} {mg : Str → Option Value} {base : Heap}
theorem Fun.okL {x qual : Str} {st : Stmt} {f : Addr} {fd : FuncData} {N ps : List Str} {k : Nat} {sp : Sp} (F : Fun K x qual st f fd) (S : FnScope N ps (defScope st)) (len : ∀ vs H Q E, sp vs H Q E → vs.length = ps.length)
    (body : ∀ (cdv : Value) (A : Around) (outer : List Env) (s : Shared) (H : Hp) (vs : List V) (Q : VK) (E : XK), cdv = .ref (codeAt K f) → Room k (A.deeper (envOfC qual (defScope st) s.heap.objs.size f cdv)) → sp vs H Q E →
      ∃ t, PSs (cxOf (L2.CX P w) P w K mg base N qual (defScope st) f cdv A outer s H E) (defBody st) t ∧ t { nx := fun _ H' => Q .non H', rt := Q } (L2.start N vs) H) : FnOk P w K mg base (L2.CX P w) (k + 1) f fd ps sp := by
  obtain ⟨oc, od, kV, doc, pm, an, cdv, ct, osl, rfl, lk, hcd⟩ := F.ex
  have e : cdv = .ref (codeAt K f) := codeAt_is lk hcd
  exact fn_of lk hcd S len fun A outer s H vs Q E hr hsp => body cdv A outer s H vs Q E e hr hsp
end
/-! ### what the top has left -/
abbrev AlMT : Type := AlM × Bool
def tabB1 (g : Addr → Option Obj) (K : Frag) (f : Addr) : Bool := PySem.W.codeHdIn K (codeAt K f) (tabAt K f) && (match g (tabAt K f) with
  | some o => He.emptyTab o
  | none => false)
def obsMT (n : Nat) (ck : List Ck) (fn : List DefM) (tf : Frag → Addr) (g : Addr → Option Obj) : AlMT := (obsM ck fn (frT g (asM g n)), tabB1 g (frT g (asM g n)) (tf (frT g (asM g n))))
structure SaysMT (ck : List Ck) (fn : List DefM) (tf : Frag → Addr) (h : Heap) (K : Frag) : Prop where
  m : SaysM ck fn K
  hd : PySem.W.codeHdIn K (codeAt K (tf K)) (tabAt K (tf K)) = true
  out : K.lookup (tabAt K (tf K)) = none
  empty : h.get? (tabAt K (tf K)) = some { cls := .none, data := .fields #[] }
theorem saysMT_of {n : Nat} {ck : List Ck} {fn : List DefM} {tf : Frag → Addr} {h : Heap} (e : obsMT n ck fn tf h.get? = (valM fn, true)) : SaysMT ck fn tf h (frT h.get? (asM h.get? n)) := by
  have e1 : obsM ck fn (frT h.get? (asM h.get? n)) = valM fn := congrArg Prod.fst e
  have e2 : tabB1 h.get? (frT h.get? (asM h.get? n)) (tf (frT h.get? (asM h.get? n))) = true := congrArg Prod.snd e
  generalize hK : frT h.get? (asM h.get? n) = K at *
  obtain ⟨h1, h2⟩ := Bool.and_eq_true_iff.mp e2
  cases q : h.get? (tabAt K (tf K)) with
  | none =>
    rw [q] at h2
    cases h2
  | some o =>
    rw [q] at h2
    have z : He.emptyTab o = true := h2
    exact ⟨e1, h1, by rw [← hK] at q ⊢; exact He.frT_none q z, by rw [q, He.emptyTab_eq z]⟩
def hookMT (n : Nat) (ck : List Ck) (fn : List DefM) (tf : Frag → Addr) : PySem.W.Hook where
  α := AlMT
  obs := fun s => obsMT n ck fn tf s.heap.get?
  val := fun _ => (valM fn, true)
  says := fun _ h => ∃ K : Frag, K.In h ∧ SaysMT ck fn tf h K
  of := fun _ _ e => ⟨_, He.frT_in, saysMT_of e⟩
  keeps := fun _ _ _ ⟨K, hK, c⟩ k => ⟨K, PySem.W.Frag.In.keeps hK k, ⟨c.m, c.hd, c.out, k _ _ c.empty⟩⟩
theorem obsMT_eq {n : Nat} {ck : List Ck} {fn : List DefM} {tf : Frag → Addr} {g : Addr → Option Obj} {s : Shared} (h : ∀ a, g a = s.heap.get? a) : obsMT n ck fn tf g = (hookMT n ck fn tf).obs s := by
  have e : g = s.heap.get? := funext h
  rw [e] <;> rfl
/-! ### the end -/
section
variable {P : Program} {w : World} {K : Frag} {mg mb : Str → Option Value} {CX : CXT} {k : Nat} {fa a T c : Addr} {fd : FuncData} {x : Str} {sp : Sp} {s₁ : Shared} {vs : List Value} {ns : List Int}
theorem law_callGT (KX : K.In s₁.heap) (hns : s₁.heap.Ns mainGlobals mg) (hb : s₁.heap.Ns builtinsNs mb) (hbb : ∀ x : Str, x ≠ "__name__" → mb x = bootBuiltins x) (hlim : s₁.heap.NoLimit) (hg : s₁.gens = #[])
    (hT : s₁.heap.get? T = some { cls := .none, data := .fields #[] }) (nT : K.lookup T = none) (C : PySem.W.CodeHd s₁.heap c T)
    (hbm : ∃ (bm : Addr) (ob : Obj), mg "__builtins__" = some (.ref bm) ∧ bm ≠ builtinsNs ∧ s₁.heap.get? bm = some ob ∧ ob.cls = .type "module" ∧ ob.dict = some builtinsNs ∧ ob.data = .plain)
    (ha : s₁.heap.get? a = some { cls := .type "list", data := .seq vs.toArray }) (hi : IntsAre vs ns) (hl : ns.length ≤ sizeLine) (hr : Room k callerA)
    (F : ∀ base : Heap, K.In base → base.Ns mainGlobals mg → TabB base mg c T → FnG P w K mg base CX k fa fd [x] sp) (hbind : ∀ (s : Shared) (u : Value), BindsTo s fd ⟨[u], []⟩ [(x, u)])
    (hsp : ∀ H : Hp, H T = some (.tbl #[]) → SqL K H a (ns.map V.int) → sp [.ref a] H (fun v _ => v = .bl true) fun _ _ _ => False)
    (hCX : ∀ H e s', CX [] H s₁ (fun _ _ _ => False) e s' → False) :
    codeAny (model P w) callerA (.call (.ref fa) ⟨[.ref a], []⟩) (fun r s' => r = .ok (.ret (.bool true)) ∧ OldK s₁.heap s'.heap ∧ s'.os = s₁.os ∧ AllBare s'.gens) s₁ := by
  have rv := vals_ints hi
  have lenV := hi.length
  have aT : a ≠ T := fun z => by
    rw [z, hT] at ha
    have z' := congrArg Obj.data (Option.some.inj ha)
    cases z'
  -- what may be told at the beginning: the table, and the script's list where it is no written one
  have core : ∀ H : Hp, H T = some (.tbl #[]) → (∀ b, b ≠ T → H b = none ∨ ∃ o xs, H b = some (.frz o (.lst xs))) → SqL K H a (ns.map V.int) → HOk P w H s₁.heap → (∀ b, b ≠ T → b ≠ a → H b = none) → (H a ≠ none → K.lookup a = none) →
      codeAny (model P w) callerA (.call (.ref fa) ⟨[.ref a], []⟩) (fun r s' => r = .ok (.ret (.bool true)) ∧ OldK s₁.heap s'.heap ∧ s'.os = s₁.os ∧ AllBare s'.gens) s₁ := by
    intro H eT kinds hS hok off hK
    have away : ∀ {b : Addr} {o : Obj}, s₁.heap.get? b = some o → (∀ vs n, o.data ≠ .seq vs n) → o.data ≠ .fields #[] → H b = none := fun {b o} e h1 h2 => by
      by_cases z : b = T
      · rw [z, hT] at e
        cases e
        exact (h2 rfl).elim
      · by_cases y : b = a
        · rw [y, ha] at e
          cases e
          exact (h1 _ _ rfl).elim
        · exact off b z y
    have dict : ∀ {b : Addr} {o : Obj} {es : Array DictEntry} {ep : Nat}, s₁.heap.get? b = some o → o.data = .dict es ep → H b = none := fun e d => away e (fun vs n z => by rw [d] at z; cases z) fun z => by rw [d] at z; cases z
    have nsB : ∀ {b : Addr} {m : Str → Option Value}, s₁.heap.Ns b m → (hidT s₁.heap H).Ns b m := fun ⟨o, es, ep, e, d, r⟩ => ⟨o, es, ep, hidT_get e (dict e d), d, r⟩
    have kin : K.In (hidT s₁.heap H) := fun b o e => hidT_get (KX b o e) (by
      by_cases z : b = T
      · rw [z, nT] at e
        cases e
      · by_cases y : b = a
        · cases q : H b with
          | none => rfl
          | some u =>
            rw [y] at e q
            rw [hK (by rw [q]; simp)] at e
            cases e
        · exact off b z y)
    have tb : TabB (hidT s₁.heap H) mg c T := by
      obtain ⟨bm, ob, b1, b2, b3, b4, b5, b6⟩ := hbm
      have gT : mainGlobals ≠ T := fun z => by
        obtain ⟨o, es, ep, e, hd, _⟩ := hns
        rw [z, hT] at e
        cases e
        cases hd
      have gB : bm ≠ mainGlobals := fun z => by
        obtain ⟨o, es, ep, e, hd, _⟩ := hns
        rw [z, e] at b3
        cases b3
        rw [hd] at b6
        cases b6
      have tB : bm ≠ T := fun z => by
        rw [z, hT] at b3
        cases b3
        cases b6
      obtain ⟨o, us, file, tf, flags, tg, inF, text, tt, e1, r1, r2, r3, r4, r5, r6, r7, r8, hne⟩ := C
      refine ⟨⟨o, us, file, tf, flags, tg, inF, text, tt, hidT_get e1 (away e1 (fun vs n z => by rw [r2] at z; cases z) fun z => by rw [r2] at z; cases z; simp at r3), r1, r2, r3, r4, r5, r6, r7, r8, hne⟩,
        ⟨bm, ob, b1, b2, gB, tB, hidT_get b3 (away b3 (fun vs n z => by rw [b6] at z; cases z) fun z => by rw [b6] at z; cases z), b4, b5, b6⟩, gT⟩
    obtain ⟨mc, c1, c2⟩ := hlim
    have env : Env0 P w K mg (hidT s₁.heap H) callerA [] s₁ H :=
      { frames := rfl, mod := { kin := kin, glob := nsB hns, blt := ⟨mb, nsB hb, hbb⟩, nolimit := ⟨mc, nsB c1, c2⟩ }, bs := fun b o e => of_hidT e, bsz := Nat.le_of_eq (hidT_size _ _), funs := trivial, frf := (fun b z => nomatch z), hok := hok, bare := .of_eq hg }
    refine codeAny_mono ((F _ kin (nsB hns) tb).go callerA [] s₁ H ⟨[.ref a], []⟩ [.ref a] [.ref a] _ _ rfl hr env (hbind s₁ (.ref a)) (.cons rfl .nil) (hsp H eT hS)) fun r s' z => ?_
    match r, z with
    | .error e, z => exact (hCX H e s' z).elim
    | .ok (.ret u), ⟨v, H', os, bare, un, hok', rr, vt⟩ =>
      cases (show v = .bl true from vt)
      cases (show u = Value.bool true from rr)
      have rest : ∀ b o, b ≠ T → s₁.heap.get? b = some o → s'.heap.get? b = some o := fun b o nb e => by
        rcases kinds b nb with z | ⟨ob, xs, z⟩
        · exact un.keep b o e z (fun q => nomatch q) (by simp)
        · have g2 := (hok' b _ (un.frzs b ob _ z)).1
          have g1 := (hok b _ z).1
          rw [e] at g1
          cases g1
          exact g2
      obtain ⟨more, y⟩ := un.tbls T #[] eT
      have grown : s'.heap.get? T = some { cls := .none, data := .fields (#[] ++ more) } := hok' T _ y
      refine ⟨rfl, ⟨fun b o e => ?_, fun b o e => ?_⟩, os, bare⟩
      · by_cases nb : b = T
        · rw [nb] at e ⊢
          rw [hT] at e
          cases e
          exact .inr (.inl ⟨(C.tab hT).isCodeTable, rfl, #[], more, rfl, grown⟩)
        · exact .inl (rest b o nb e)
      · by_cases nb : b = T
        · rw [nb]
          exact ⟨_, grown⟩
        · exact ⟨o, rest b o nb e⟩
  by_cases hk : ∃ o, K.lookup a = some o
  · obtain ⟨o, hk⟩ := hk
    have e := KX a o hk
    rw [ha] at e
    cases e
    refine core (upd (fun _ => none) T (.tbl #[])) upd_same (fun b n => .inl (upd_ne n)) (.inr ⟨_, vs.toArray, _, hk, rfl, rfl, rfl, by rw [List.size_toArray, lenV]; exact hl, by simpa using rv⟩) (fun b u e => ?_) (fun b n _ => upd_ne n) fun z => absurd (upd_ne aT) z
    by_cases z : b = T
    · subst z
      rw [upd_same] at e
      cases e
      exact hT
    · rw [upd_ne z] at e
      cases e
  · have no : K.lookup a = none := by
      cases q : K.lookup a with
      | none => rfl
      | some o => exact absurd ⟨o, q⟩ hk
    have at_ : (upd (upd (fun _ => none) T (.tbl #[])) a (.frz { cls := .type "list", data := .seq vs.toArray } (.lst (ns.map V.int))) : Hp) a = some (.frz { cls := .type "list", data := .seq vs.toArray } (.lst (ns.map V.int))) := upd_same
    refine core (upd (upd (fun _ => none) T (.tbl #[])) a (.frz { cls := .type "list", data := .seq vs.toArray } (.lst (ns.map V.int)))) (by rw [upd_ne aT.symm, upd_same]) (fun b n => ?_) (.inl (.inr ⟨_, at_⟩)) (fun b u e => ?_) (fun b n y => by rw [upd_ne y, upd_ne n]) fun _ => no
    · by_cases z : b = a
      · exact .inr ⟨_, _, by rw [z]; exact at_⟩
      · exact .inl (by rw [upd_ne z, upd_ne n])
    · by_cases z : b = a
      · subst z
        rw [at_] at e
        cases e
        exact ⟨ha, by rw [List.length_map]; exact hl, vs, _, rv, ha⟩
      · rw [upd_ne z] at e
        by_cases y : b = T
        · subst y
          rw [upd_same] at e
          cases e
          exact hT
        · rw [upd_ne y] at e
          cases e
end
theorem endMGT {l : PySem.W.OpenLaw} {k N : Nat} {q : Program} {loose : List Str} {d : DefRec} {ck : List Ck} {fn : List DefM} {tf : Frag → Addr} {XP : (Str → Option Value) → Heap → Prop} {spL : Frag → Sp}
    (hn : l.most = some 63) (hdf : d.params.defaults = []) (hr : Room k callerA) (hd : d.name = ("law" : Str))
    (F : ∀ (w : World) (K : Frag) (mg : Str → Option Value) (base : Heap), Zs ck fn K mg → K.In base → base.Ns mainGlobals mg → TbF K mg base (tf K) → FnG l.prog w K mg base (L2.CX l.prog w) k (ga K "law") (fdAt K (ga K "law")) ["script"] (spL K))
    (hg : ∀ (K : Frag) (mg : Str → Option Value), Zs ck fn K mg → mg "law" = some (.ref (ga K "law")))
    (hb : ∀ (K : Frag) (mg : Str → Option Value), Zs ck fn K mg → ∀ (s : Shared) (u : Value), BindsTo s (fdAt K (ga K "law")) ⟨[u], []⟩ [("script", u)])
    (hs : ∀ (K : Frag) (H : Hp) (a : Addr) (ns : List Int), ns.length ≤ 63 → H (tabAt K (tf K)) = some (.tbl #[]) → SqL K H a (ns.map V.int) → spL K [.ref a] H (fun v _ => v = .bl true) fun _ _ _ => False) :
    PySem.W.WalkO q loose XP (hookMT N ck fn tf).says l.row.toRowW d [] (fun f vs => PySem.call f vs) := by
  refine Att.attach_call hn hdf fun w s₀ s₁ mg mb fa o pm cd doc a vs ns G Y ho hd' hcd hmg hobj hints hlen hgn => ?_
  obtain ⟨K, KX, c⟩ := Y
  have Z : Zs ck fn K mg := ⟨c.m, _, KX, G.T.g⟩
  obtain rfl : fa = ga K "law" := by
    have h1 := hg K mg Z
    rw [hd] at hmg
    rw [hmg] at h1
    cases h1
    rfl
  exact law_callGT KX G.T.g G.T.b G.T.builtins G.T.nolimit hgn c.empty c.out (PySem.W.codeHd_of_K KX c.hd) G.T.bmain hobj hints (Nat.le_trans hlen (by decide)) hr (fun base h1 h2 h3 => F w K mg base Z h1 h2 h3) (hb K mg Z) (fun H hT hS => hs K H a ns hlen hT hS) fun H e s' h => by
    obtain ⟨_, _, _, _, _, _, _, _, _, _, _, _, z⟩ := h
    exact z.elim
end Fw

/-! Plans: edges, forests, plans as data; what reached, take and the forest make. Own work. -/
namespace Fw
open PySem PySem.Spec PyProof.Rows L2
open He (ga ma)
open Rep (rp)
/-- an edge: number, begin, end, shift, modulus -/
structure Ed where
  n : Int
  b : Int
  e : Int
  s : Int
  m : Int
  deriving DecidableEq
def edF (x : Ed) : List (Str × V) := [("number", .int x.n), ("begin", .int x.b), ("end", .int x.e), ("shift", .int x.s), ("modulus", .int x.m)]
theorem ed_new (x : Ed) : putF "modulus" (.int x.m) (putF "shift" (.int x.s) (putF "end" (.int x.e) (putF "begin" (.int x.b) (putF "number" (.int x.n) [])))) = edF x := by
  unfold edF
  simp only [putF]
  rfl
theorem ed_n {x : Ed} : (edF x).lookup ("number" : Str) = some (.int x.n) := lkh _ _ _
theorem ed_b {x : Ed} : (edF x).lookup ("begin" : Str) = some (.int x.b) := by
  unfold edF
  rw [lkn _ _ (by decide +kernel), lkh]
theorem ed_e {x : Ed} : (edF x).lookup ("end" : Str) = some (.int x.e) := by
  unfold edF
  rw [lkn _ _ (by decide +kernel), lkn _ _ (by decide +kernel), lkh]
theorem ed_s {x : Ed} : (edF x).lookup ("shift" : Str) = some (.int x.s) := by
  unfold edF
  rw [lkn _ _ (by decide +kernel), lkn _ _ (by decide +kernel), lkn _ _ (by decide +kernel), lkh]
theorem ed_m {x : Ed} : (edF x).lookup ("modulus" : Str) = some (.int x.m) := by
  unfold edF
  rw [lkn _ _ (by decide +kernel), lkn _ _ (by decide +kernel), lkn _ _ (by decide +kernel), lkn _ _ (by decide +kernel), lkh]
instance : Rep Ed := ⟨fun K F v x => ∃ (p dx : Addr), v = .ref p ∧ F p = some (.ins (ga K "Edge") dx (edF x)), fun s h => let ⟨p, dx, e, h⟩ := h; ⟨p, dx, e, s _ _ h⟩⟩
/-- difference, modulus, way -/
abbrev Rv : Type := P3 Int (Option Int) (List (Ed × Bool))
/-! ### what reached makes -/
abbrev St9 : Type := List (Int × Rv) × List Int
def keyIn (l : List (Int × Rv)) (k : Int) : Bool := decide (k ∈ l.map Prod.fst)
def getR (l : List (Int × Rv)) (k : Int) : Option Rv := (l.find? fun p => decide (p.1 = k)).map Prod.snd
def therE (here : Int) (e : Ed) : Int := if e.b = here then e.e else e.b
def nextR (here : Int) (r : Rv) (e : Ed) : Rv := ⟨r.a + (if e.b = here then e.s else -e.s), some (match r.b with | none => e.m | some m => if e.m < m then e.m else m), r.c ++ [(e, decide (e.b = here))]⟩
def goE (here : Int) (r : Rv) (st : St9) (e : Ed) : St9 := if keyIn st.1 (therE here e) = true then st else (st.1 ++ [(therE here e, nextR here r e)], st.2 ++ [therE here e])
def rowAt (near : List (List Ed)) (k : Int) : List Ed := (near[k.toNat]?).getD []
def turn9 (near : List (List Ed)) (st : St9) : St9 := match st.2.getLast? with
  | none => st
  | some here => (rowAt near here).foldl (goE here ((getR st.1 here).getD ⟨0, none, []⟩)) (st.1, st.2.dropLast)
def start9 (k : Int) : St9 := ([(k, ⟨0, none, []⟩)], [k])
def iter9 (near : List (List Ed)) (st : St9) : Nat → St9
  | 0 => st
  | n + 1 => turn9 near (iter9 near st n)
def reachF (near : List (List Ed)) (k : Int) : List (Int × Rv) := (iter9 near (start9 k) (2 * near.length)).1
/-- the edges of near lead to lines that it has -/
def NearOk (near : List (List Ed)) : Prop := ∀ row ∈ near, ∀ e ∈ row, 0 ≤ e.b ∧ e.b < (near.length : Nat) ∧ 0 ≤ e.e ∧ e.e < (near.length : Nat)
structure Ok9 (N : Nat) (st : St9) : Prop where
  nd : (st.1.map Prod.fst).Nodup
  bd : ∀ p ∈ st.1, 0 ≤ p.1 ∧ p.1 < (N : Nat)
  sub : ∀ k ∈ st.2, k ∈ st.1.map Prod.fst
def meas9 (N : Nat) (st : St9) : Nat := 2 * (N - st.1.length) + st.2.length
theorem nodup_len {N : Nat} {l : List Int} (nd : l.Nodup) (bd : ∀ k ∈ l, 0 ≤ k ∧ k < (N : Nat)) : l.length ≤ N := by
  have h := List.Nodup.length_le_of_subset (l₁ := l) (l₂ := rgI 0 N) nd fun k hk => rgI_mem.mpr ⟨(bd k hk).1, by have := (bd k hk).2; omega⟩
  rw [rgI_len] at h
  exact h
theorem Ok9.len {N : Nat} {st : St9} (h : Ok9 N st) : st.1.length ≤ N := by
  have := nodup_len (N := N) h.nd fun k hk => by
    obtain ⟨p, hp, e⟩ := List.mem_map.mp hk
    rw [← e]
    exact h.bd p hp
  rw [List.length_map] at this
  exact this
theorem keyIn_iff {l : List (Int × Rv)} {k : Int} : keyIn l k = true ↔ k ∈ l.map Prod.fst := by
  unfold keyIn
  exact decide_eq_true_iff
theorem goE_ok {N : Nat} {here : Int} {r : Rv} {st : St9} {e : Ed} (h : Ok9 N st) (eb : 0 ≤ e.b ∧ e.b < (N : Nat) ∧ 0 ≤ e.e ∧ e.e < (N : Nat)) : Ok9 N (goE here r st e) ∧ meas9 N (goE here r st e) ≤ meas9 N st := by
  unfold goE
  by_cases c : keyIn st.1 (therE here e) = true
  · rw [if_pos c]
    exact ⟨h, Nat.le_refl _⟩
  · rw [if_neg c]
    have tb : 0 ≤ therE here e ∧ therE here e < (N : Nat) := by
      unfold therE
      split <;> omega
    have ok : Ok9 N (st.1 ++ [(therE here e, nextR here r e)], st.2 ++ [therE here e]) := by
      refine ⟨?_, fun p hp => ?_, fun k hk => ?_⟩
      · show ((st.1 ++ [(therE here e, nextR here r e)]).map Prod.fst).Nodup
        rw [List.map_append]
        refine List.nodup_append.mpr ⟨h.nd, by simp, fun a ha b hb => ?_⟩
        rw [show b = therE here e by simpa using hb]
        intro z
        exact c (keyIn_iff.mpr (by rw [← z]; exact ha))
      · rcases List.mem_append.mp hp with z | z
        · exact h.bd p z
        · rw [List.mem_singleton.mp z]
          exact tb
      · show k ∈ (st.1 ++ [(therE here e, nextR here r e)]).map Prod.fst
        rw [List.map_append, List.mem_append]
        rcases List.mem_append.mp hk with z | z
        · exact .inl (h.sub k z)
        · rw [List.mem_singleton.mp z]
          exact .inr (by simp)
    refine ⟨ok, ?_⟩
    have l := ok.len
    unfold meas9
    simp only [List.length_append, List.length_cons, List.length_nil] at l ⊢
    omega
theorem foldE_ok {N : Nat} {here : Int} {r : Rv} : ∀ {row : List Ed} {st : St9}, Ok9 N st → (∀ e ∈ row, 0 ≤ e.b ∧ e.b < (N : Nat) ∧ 0 ≤ e.e ∧ e.e < (N : Nat)) → Ok9 N (row.foldl (goE here r) st) ∧ meas9 N (row.foldl (goE here r) st) ≤ meas9 N st
  | [], _, h, _ => ⟨h, Nat.le_refl _⟩
  | e :: row, st, h, hr => by
    obtain ⟨h1, m1⟩ := goE_ok (here := here) (r := r) h (hr e List.mem_cons_self)
    obtain ⟨h2, m2⟩ := foldE_ok (here := here) (r := r) (row := row) h1 fun x hx => hr x (List.mem_cons_of_mem _ hx)
    exact ⟨h2, Nat.le_trans m2 m1⟩
theorem rowAt_mem {near : List (List Ed)} (ok : NearOk near) {k : Int} : ∀ e ∈ rowAt near k, 0 ≤ e.b ∧ e.b < (near.length : Nat) ∧ 0 ≤ e.e ∧ e.e < (near.length : Nat) := fun e he => by
  unfold rowAt at he
  cases q : near[k.toNat]? with
  | none => rw [q] at he; simp at he
  | some row =>
    rw [q] at he
    exact ok row (List.mem_of_getElem? q) e he
theorem turn9_ok {near : List (List Ed)} (ok : NearOk near) {st : St9} (h : Ok9 near.length st) : Ok9 near.length (turn9 near st) ∧ (st.2 ≠ [] → meas9 near.length (turn9 near st) < meas9 near.length st) := by
  unfold turn9
  cases q : st.2.getLast? with
  | none => exact ⟨h, fun ne => absurd (List.getLast?_eq_none_iff.mp q) ne⟩
  | some here =>
    have h' : Ok9 near.length (st.1, st.2.dropLast) := ⟨h.nd, h.bd, fun k hk => h.sub k (List.dropLast_subset _ hk)⟩
    obtain ⟨h1, m1⟩ := foldE_ok (here := here) (r := (getR st.1 here).getD ⟨0, none, []⟩) (row := rowAt near here) h' (rowAt_mem ok)
    refine ⟨h1, fun ne => ?_⟩
    have lp := List.length_pos_iff.mpr ne
    refine Nat.lt_of_le_of_lt m1 ?_
    show 2 * (near.length - st.1.length) + st.2.dropLast.length < 2 * (near.length - st.1.length) + st.2.length
    rw [List.length_dropLast]
    omega
theorem start9_ok {N : Nat} {k : Int} (h0 : 0 ≤ k) (h1 : k < (N : Nat)) : Ok9 N (start9 k) ∧ meas9 N (start9 k) ≤ 2 * N := by
  refine ⟨⟨by simp [start9], fun p hp => ?_, fun j hj => ?_⟩, ?_⟩
  · rw [List.mem_singleton.mp hp]
    exact ⟨h0, h1⟩
  · rw [List.mem_singleton.mp hj]
    simp [start9]
  · unfold meas9 start9
    simp only [List.length_cons, List.length_nil]
    omega
theorem iter9_ok {near : List (List Ed)} (ok : NearOk near) {k : Int} (h0 : 0 ≤ k) (h1 : k < (near.length : Nat)) : ∀ j : Nat, Ok9 near.length (iter9 near (start9 k) j) ∧ ((iter9 near (start9 k) j).2 ≠ [] → meas9 near.length (iter9 near (start9 k) j) + j ≤ 2 * near.length)
  | 0 => ⟨(start9_ok h0 h1).1, fun _ => (start9_ok h0 h1).2⟩
  | j + 1 => by
    obtain ⟨a, b⟩ := iter9_ok ok h0 h1 j
    obtain ⟨c, d⟩ := turn9_ok ok a
    refine ⟨c, fun ne => ?_⟩
    have ne' : (iter9 near (start9 k) j).2 ≠ [] := fun z => ne (by
      show (turn9 near (iter9 near (start9 k) j)).2 = []
      unfold turn9
      rw [z]
      exact z)
    have := b ne'
    have := d ne'
    show meas9 near.length (turn9 near (iter9 near (start9 k) j)) + (j + 1) ≤ 2 * near.length
    omega
theorem iter9_stop {near : List (List Ed)} {k : Int} {j : Nat} (z : (iter9 near (start9 k) j).2 = []) : ∀ i : Nat, iter9 near (start9 k) (j + i) = iter9 near (start9 k) j
  | 0 => rfl
  | i + 1 => by
    show turn9 near (iter9 near (start9 k) (j + i)) = _
    rw [iter9_stop z i]
    unfold turn9
    rw [z]
    rfl
/-- where nothing waits any more, all is reached -/
theorem reach_at {near : List (List Ed)} (ok : NearOk near) {k : Int} (h0 : 0 ≤ k) (h1 : k < (near.length : Nat)) {j : Nat} (hj : j ≤ 2 * near.length) (z : (iter9 near (start9 k) j).2 = []) : reachF near k = (iter9 near (start9 k) j).1 := by
  unfold reachF
  rw [show 2 * near.length = j + (2 * near.length - j) by omega, iter9_stop z]
theorem getR_some {l : List (Int × Rv)} {k : Int} (h : k ∈ l.map Prod.fst) : ∃ r, getR l k = some r ∧ (k, r) ∈ l := by
  obtain ⟨p, hp, e⟩ := List.mem_map.mp h
  unfold getR
  cases q : l.find? fun p => decide (p.1 = k) with
  | none => exact absurd (decide_eq_true e) (by have := List.find?_eq_none.mp q p hp; simpa using this)
  | some r =>
    have e1 := List.find?_some q
    have e2 : r.1 = k := by simpa using e1
    have m := List.mem_of_find?_eq_some q
    obtain ⟨a, b⟩ := r
    have e2 : a = k := e2
    subst e2
    exact ⟨b, rfl, m⟩
/-! ### the forest -/
structure FS where
  near : List (List Ed)
  chosen : List Ed
  torn : Option Ed
def foF (l c t : V) : List (Str × V) := [("near", l), ("chosen", c), ("torn", t)]
theorem fo_n {l c t : V} : (foF l c t).lookup ("near" : Str) = some l := lkh _ _ _
theorem fo_c {l c t : V} : (foF l c t).lookup ("chosen" : Str) = some c := by
  unfold foF
  rw [lkn _ _ (by decide +kernel), lkh]
theorem fo_t {l c t : V} : (foF l c t).lookup ("torn" : Str) = some t := by
  unfold foF
  rw [lkn _ _ (by decide +kernel), lkn _ _ (by decide +kernel), lkh]
theorem fo_new {l c t : V} : putF "torn" t (putF "chosen" c (putF "near" l [])) = foF l c t := by
  unfold foF
  simp only [putF]
  rfl
theorem fo_pt {l c t u : V} : putF "torn" u (foF l c t) = foF l c u := by
  unfold foF
  simp only [putF]
  rfl
theorem fo_no {l c t : V} {m : Str} (h1 : ¬ m = "near" := by decide +kernel) (h2 : ¬ m = "chosen" := by decide +kernel) (h3 : ¬ m = "torn" := by decide +kernel) : (foF l c t).lookup m = none := by
  unfold foF
  rw [lkn _ _ h1, lkn _ _ h2, lkn _ _ h3]
  rfl
instance : Rep FS := ⟨fun K F v x => ∃ (p dx : Addr) (l c t : V), v = .ref p ∧ F p = some (.ins (ga K "Forest") dx (foF l c t)) ∧ rp K F l x.near ∧ rp K F c x.chosen ∧ rp K F t x.torn,
  fun s h => let ⟨p, dx, l, c, t, e, h, h1, h2, h3⟩ := h; ⟨p, dx, l, c, t, e, s _ _ h, Rep.up s h1, Rep.up s h2, Rep.up s h3⟩⟩
def takeN (near : List (List Ed)) (e : Ed) : List (List Ed) := (near.modify e.b.toNat (· ++ [e])).modify e.e.toNat (· ++ [e])
def addE (f : FS) (e : Ed) : FS := match getR (reachF f.near e.b) e.e with
  | none => ⟨takeN f.near e, f.chosen ++ [e], f.torn⟩
  | some r => if f.torn = none ∧ (r.a - e.s) % e.m ≠ 0 then ⟨f.near, f.chosen, some e⟩ else f
def sortE (es : List Ed) : List Ed := (stabK ((es.map fun e => -e.m).zip es)).map (·.2)
def forestF (many : Nat) (es : List Ed) : FS := (sortE es).foldl addE ⟨List.replicate (many + 1) [], [], none⟩
/-! ### plans -/
structure PS where
  pairs : List (Int × Int)
  wished : List N3
  settled : List (Int × Int)
  forest : FS
/-- a dict of ints -/
structure DI where
  l : List (Int × Int)
instance : Rep DI := ⟨fun _ F v x => ∃ p : Addr, v = .ref p ∧ F p = some (.dK (x.l.map fun q => (.inl q.1, .int q.2))), fun s h => let ⟨p, e, h⟩ := h; ⟨p, e, s _ _ h⟩⟩
def plF (a b d c f : V) : List (Str × V) := [("pairs", a), ("wished", b), ("settled", d), ("clock", c), ("forest", f)]
instance : Rep PS := ⟨fun K F v x => ∃ (p dx : Addr) (a b d f : V), v = .ref p ∧ F p = some (.ins (ga K "Plan") dx (plF a b d (.int (x.pairs.length : Nat)) f)) ∧ rp K F a x.pairs ∧ rp K F b x.wished ∧ rp K F d (⟨x.settled⟩ : DI) ∧ rp K F f x.forest,
  fun s h => let ⟨p, dx, a, b, d, f, e, h, h1, h2, h3, h4⟩ := h; ⟨p, dx, a, b, d, f, e, s _ _ h, Rep.up s h1, Rep.up s h2, Rep.up s h3, Rep.up s h4⟩⟩
def lineAt (p : List (Int × Int)) (i : Int) : Int × Int := (p[i.toNat]?).getD (1, 0)
def wishE (p : List (Int × Int)) (k : Nat) (w : N3) : Ed := ⟨k, w.e, w.a, (lineAt p w.e).2 + w.r, if (lineAt p w.a).1 < (lineAt p w.e).1 then (lineAt p w.a).1 else (lineAt p w.e).1⟩
def fixE (p : List (Int × Int)) (n : Nat) (q : Int × Int) : Ed := ⟨(n : Int) + q.1, (p.length : Nat), q.1, q.2, (lineAt p q.1).1⟩
def edgesF (p : List (Int × Int)) (w : List N3) (d : List (Int × Int)) : List Ed := (w.zipIdx.map fun q => wishE p q.2 q.1) ++ d.map (fixE p w.length)
def planF (p : List (Int × Int)) (w : List N3) (d : List (Int × Int)) : PS := ⟨p, w, d, forestF p.length (edgesF p w d)⟩
theorem ifFd {p A B : Prop} [Decidable p] (h : ¬ p) (b : B) : if decide p = true then A else B := by
  rw [decide_eq_false h]
  exact iteF b
/-! ### isinstance, len of data; sets of ints -/
section
variable {α β : Type} [Rep α] [Rep β] {K : Frag} {F H H1 : Hp} {M : Addr → Prop} {v : V} {Q : VK}
theorem isi_list {xs : List α} (h : rp K F v xs) (hF : Same F H) (k : Q (.bl true) H) : sqc (rIsi K) [v, .ty "list"] H Q := by
  rw [sqc_eq]
  obtain ⟨p, vs, rfl, e, _⟩ := h
  exact ⟨_, _, _, _, true, rfl, .ty "list", .base (.lst (hF _ _ e)), kit_ty (by decide +kernel), k⟩
theorem isi_pair {x : α × β} (h : rp K F v x) (hF : Same F H) (k : Q (.bl true) H) : sqc (rIsi K) [v, .ty "tuple"] H Q := by
  rw [sqc_eq]
  obtain ⟨p, v1, v2, rfl, e, _⟩ := h
  exact ⟨_, _, _, _, true, rfl, .ty "tuple", .base (.tup (hF _ _ e)), kit_ty (by decide +kernel), k⟩
theorem isi_n3 {x : N3} (h : rp K F v x) (hF : Same F H) (k : Q (.bl true) H) : sqc (rIsi K) [v, .ty "tuple"] H Q := by
  rw [sqc_eq]
  obtain ⟨p, rfl, e⟩ := h
  exact ⟨_, _, _, _, true, rfl, .ty "tuple", .base (.tup (hF _ _ e)), kit_ty (by decide +kernel), k⟩
theorem isi_int {i : Int} (k : Q (.bl true) H) : sqc (rIsi K) [.int i, .ty "int"] H Q := by
  rw [sqc_eq]
  exact ⟨_, _, _, _, true, rfl, .ty "int", .base (.int _), kit_ty (by decide +kernel), k⟩
theorem isi_nbl {i : Int} (k : Q (.bl false) H) : sqc (rIsi K) [.int i, .ty "bool"] H Q := by
  rw [sqc_eq]
  exact ⟨_, _, _, _, false, rfl, .ty "bool", .base (.int _), kit_ty (by decide +kernel), k⟩
abbrev rLnS (K : Frag) : RC := fun xs H Q => ∃ p ys, xs = [V.ref p] ∧ (SqL K H p ys ∨ SqT K H p ys) ∧ Q (.int (ys.length : Nat)) H
theorem len_pair {x : α × β} (h : rp K F v x) (hF : Same F H) (k : Q (.int 2) H) : sqc (rLnS K) [v] H Q := by
  obtain ⟨p, v1, v2, rfl, e, _⟩ := h
  rw [sqc_eq]
  exact ⟨p, _, rfl, .inr (SqT.of (hF _ _ e)), k⟩
theorem len_n3 {x : N3} (h : rp K F v x) (hF : Same F H) (k : Q (.int 3) H) : sqc (rLnS K) [v] H Q := by
  obtain ⟨p, rfl, e⟩ := h
  rw [sqc_eq]
  exact ⟨p, _, rfl, .inr (SqT.of (hF _ _ e)), k⟩
def rLenSet (w : World) : List V → Hp → VK → Prop := fun xs H Q => ∃ (a : Addr) (S : Int → Bool) (n : Nat), xs = [V.ref a] ∧ H a = some (SetO w a S n) ∧ n ≤ 1000 ∧ Q (.int (n : Nat)) H
theorem call_len_set {X : Cx} : CallR X (.builtin "len") (rLenSet X.w) := by
  intro pins s σ H vs us Q I r h
  obtain ⟨a, S, n, rfl, ha, hz, q⟩ := h
  rw [Vals.ref1 r]
  obtain ⟨o, es, ep, t, ho, hex, hd, _, _, _, hf, hn⟩ := (setO_get I ha).setOf (P := X.prog)
  exact PySem.call_len_set ho hex hd hf (by rw [hn] <;> omega) ⟨.int n, H, I.tok _, ⟨_, by rw [hn]⟩, q⟩
theorem call_lenS {w : World} {a : Addr} {S : Int → Bool} {n : Nat} (h : H a = some (SetO w a S n)) (hn : n ≤ 1000) (k : Q (.int (n : Nat)) H) : sqc (rLenSet w) [V.ref a] H Q := by
  rw [sqc_eq]
  exact ⟨a, S, n, rfl, h, hn, k⟩
abbrev ScW (w : World) (J : It) (H1 : Hp) (g : TG) (te : TE) (vs : List Nat) (σ : L2.St) (D : Addr) (Qd : Hp → Prop) : Prop :=
  ∃ W : Nat → Nat → Hp → Prop, (∃ m, W 0 m (upd H1 D (SetO w D (fun _ => false) 0))) ∧ ∀ i m H, W i m H → (J.stop i H ∧ Qd H) ∨
    (J.go i H ∧ ∃ N : Hp → Prop, (∀ H', N H' → ∃ m', m' < m ∧ W (i + 1) m' H') ∧ ∀ x H', J.yld i H x H' → g x (wipe σ vs) H' fun σ2 H2 => wipe σ2 vs = wipe σ vs ∧
      te σ2 H2 fun y H4 => ∃ (c : Int) (S : Int → Bool) (n : Nat), y = .int c ∧ H4 D = some (SetO w D S n) ∧ n + 1 < scanBound ∧ N (upd H4 D (SetO w D (fun j => S j || decide (j = c)) (if S c = true then n else n + 1))))
theorem sc_ints {w : World} {J : It} {g : TG} {te : TE} {ws : List Nat} {σ : L2.St} {xs : List α} {Q : Addr → Hp → Prop} (f : α → Int) (T : TW K M H1 J xs) (al : Alloc M H1) (hz : xs.length ≤ 1000)
    (step : ∀ (i : Nat) (x : α) (u : V) (H : Hp) (C : V → Hp → Prop), xs[i]? = some x → Same (Fr M H1) (Fr M H) → Alloc M H → rp K (Fr M H) u x → (∀ H4, Same H H4 → C (.int (f x)) H4) →
      g u (wipe σ ws) H fun σ2 H2 => wipe σ2 ws = wipe σ ws ∧ te σ2 H2 C)
    (k : ∀ (D : Addr) (H' : Hp) (S : Int → Bool) (n : Nat), Same H1 H' → H' D = some (SetO w D S n) → n ≤ xs.length → (n = xs.length ↔ (xs.map f).Nodup) → Q D H') : ∀ D, H1 D = none → ScW w J H1 g te ws σ D (Q D) := by
  intro D hD
  obtain ⟨G, Y, wk, hG, hY⟩ := T.ex
  refine ⟨fun i m H => i ≤ xs.length ∧ m = xs.length - i ∧ Same H1 H ∧ ∃ n, H D = some (SetO w D (fun j => decide (j ∈ (xs.take i).map f)) n) ∧ n ≤ i ∧ (n = i ↔ ((xs.take i).map f).Nodup), ⟨_, Nat.zero_le _, rfl, Same.new hD, 0, ?_, Nat.le_refl _, by simp⟩, ?_⟩
  · rw [upd_same]
    congr 1
  rintro i m H ⟨hi, rfl, s, n, eD, hn, nd⟩
  have sF : Same (Fr M H1) (Fr M H) := Fr.same s
  have aH := al.same s
  by_cases c : i < xs.length
  · refine .inr ⟨wk.goes i H c (hG H (sF.trans Fr.sub)), fun H' => i + 1 ≤ xs.length ∧ Same H1 H' ∧ ∃ n, H' D = some (SetO w D (fun j => decide (j ∈ (xs.take (i + 1)).map f)) n) ∧ n ≤ i + 1 ∧ (n = i + 1 ↔ ((xs.take (i + 1)).map f).Nodup), fun H' h => ⟨xs.length - (i + 1), by omega, h.1, rfl, h.2⟩, fun u H' y => ?_⟩
    obtain ⟨x, hx, s8, r⟩ := hY i u H H' M c sF aH (wk.yields i H u H' c (hG H (sF.trans Fr.sub)) y)
    refine step i x u H' _ hx (sF.trans (Fr.same s8)) (aH.same s8) r fun H4 s4 => ?_
    have e4 := s4 _ _ (s8 _ _ eD)
    refine ⟨f x, _, n, rfl, e4, ?_, ?_⟩
    · have : n + 1 ≤ 1001 := by omega
      exact Nat.lt_of_le_of_lt this (by decide)
    have s14 : Same H1 H4 := s.trans (s8.trans s4)
    refine ⟨c, fun b o e => ?_, (if decide (f x ∈ (xs.take i).map f) = true then n else n + 1), ?_, ?_, ?_⟩
    · rw [upd_ne (ne_of_none e hD)]
      exact s14 _ _ e
    · rw [upd_same, tk_map hx]
      congr 1
      unfold SetO
      congr 1
      funext h
      congr 1
      funext j
      simp only [List.mem_append, List.mem_singleton, Bool.decide_or]
    · split <;> omega
    · rw [tk_map hx, List.nodup_append]
      by_cases z : f x ∈ (xs.take i).map f
      · rw [if_pos (decide_eq_true z)]
        refine ⟨fun q => by omega, fun q => absurd rfl (q.2.2 _ z _ (List.mem_singleton.mpr rfl))⟩
      · rw [if_neg (by simpa using z)]
        refine ⟨fun q => ⟨nd.mp (by omega), by simp, fun a ha b hb q2 => z (by rw [← List.mem_singleton.mp hb, ← q2]; exact ha)⟩, fun q => by rw [nd.mpr q.1]⟩
  · have e : i = xs.length := by omega
    subst e
    rw [List.take_length] at nd
    exact .inl ⟨wk.stops H (hG H (sF.trans Fr.sub)), k D H _ n s eD hn nd⟩
end
/-! ### what a plan takes -/
theorem dvi {a b : Int} : decide (V.int a = V.int b) = decide (a = b) := decide_eq_decide.mpr ⟨V.int.inj, congrArg _⟩
def FitP (xs : List Int) : Prop := ∀ x ∈ xs, ∀ y ∈ xs, x ∣ y ∨ y ∣ x
instance {xs : List Int} : Decidable (FitP xs) := inferInstanceAs (Decidable (∀ x ∈ xs, ∀ y ∈ xs, x ∣ y ∨ y ∣ x))
theorem zip_pw : ∀ {ys : List Int}, (∀ p ∈ ys.zip (ys.drop 1), p.2 % p.1 = 0) → ys.Pairwise (· ∣ ·)
  | [], _ => .nil
  | [a], _ => by simp
  | a :: b :: r, h => by
    have h1 : b % a = 0 := h (a, b) (by simp)
    have ih : (b :: r).Pairwise (· ∣ ·) := zip_pw fun p hp => h p (by
      simp only [List.drop_succ_cons, List.drop_zero, List.zip_cons_cons] at hp ⊢
      exact List.mem_cons_of_mem _ hp)
    refine List.pairwise_cons.mpr ⟨fun c hc => ?_, ih⟩
    have ab : a ∣ b := Int.dvd_of_emod_eq_zero h1
    rcases List.mem_cons.mp hc with z | z
    · rw [z]; exact ab
    · exact Int.dvd_trans ab ((List.pairwise_cons.mp ih).1 c z)
theorem pw_zip {R : Int → Int → Prop} : ∀ {ys : List Int}, ys.Pairwise R → ∀ p ∈ ys.zip (ys.drop 1), R p.1 p.2 ∧ p.1 ∈ ys ∧ p.2 ∈ ys
  | [], _, p, hp => by simp at hp
  | [a], _, p, hp => by simp at hp
  | a :: b :: r, h, p, hp => by
    simp only [List.drop_succ_cons, List.drop_zero, List.zip_cons_cons] at hp
    rcases List.mem_cons.mp hp with z | z
    · subst z
      exact ⟨(List.pairwise_cons.mp h).1 b List.mem_cons_self, by simp, by simp⟩
    · obtain ⟨x, y, w⟩ := pw_zip (List.pairwise_cons.mp h).2 p (by simpa using z)
      exact ⟨x, List.mem_cons_of_mem _ y, List.mem_cons_of_mem _ w⟩
theorem fit_iff {ys xs : List Int} (pm : ys.Perm xs) (so : ys.Pairwise (fun a b => a ≤ b)) (h1 : ∀ x ∈ xs, 1 ≤ x) : (∀ p ∈ ys.zip (ys.drop 1), p.2 % p.1 = 0) ↔ FitP xs := by
  constructor
  · intro h x hx y hy
    have pw := zip_pw h
    obtain ⟨i, hi, ei⟩ := List.mem_iff_getElem.mp (pm.mem_iff.mpr hx)
    obtain ⟨j, hj, ej⟩ := List.mem_iff_getElem.mp (pm.mem_iff.mpr hy)
    rw [List.pairwise_iff_getElem] at pw
    rcases Nat.lt_trichotomy i j with c | c | c
    · exact .inl (by rw [← ei, ← ej]; exact pw i j hi hj c)
    · subst c
      exact .inl (by rw [← ei, ← ej]; exact Int.dvd_refl _)
    · exact .inr (by rw [← ei, ← ej]; exact pw j i hj hi c)
  · intro h p hp
    obtain ⟨le, m1, m2⟩ := pw_zip so p hp
    have q1 := h1 _ (pm.mem_iff.mp m1)
    have q2 := h1 _ (pm.mem_iff.mp m2)
    rcases h _ (pm.mem_iff.mp m1) _ (pm.mem_iff.mp m2) with d | d
    · exact Int.emod_eq_zero_of_dvd d
    · have := Int.le_of_dvd (by omega) d
      have e : p.1 = p.2 := by omega
      rw [e]
      exact Int.emod_self
theorem all_map {α : Type} {xs : List α} {P : α → Prop} [DecidablePred P] : (xs.map fun x => decide (P x)).all id = decide (∀ x ∈ xs, P x) := by
  rw [Bool.eq_iff_iff, List.all_eq_true]
  simp
theorem fit_all {ys xs : List Int} (pm : ys.Perm xs) (so : ys.Pairwise (fun a b => a ≤ b)) (h1 : ∀ x ∈ xs, 1 ≤ x) (hl : xs.length < 64) : ((ys.zip (cutX ys (some 1) none)).map fun p => decide (p.2 % p.1 = 0)).all id = decide (FitP xs) := by
  by_cases c : 1 ≤ ys.length
  · rw [show cutX ys (some 1) none = ys.drop 1 from cutX_from (n := 1) c, all_map]
    rw [Bool.eq_iff_iff, decide_eq_true_iff, decide_eq_true_iff]
    exact fit_iff pm so h1
  · have e : ys = [] := List.length_eq_zero_iff.mp (by omega)
    subst e
    have e2 := pm.nil_eq
    subst e2
    rfl
def PairsOk (xs : List (Int × Int)) : Prop := (1 ≤ xs.length ∧ xs.length ≤ 40) ∧ (∀ p ∈ xs, 1 ≤ p.1 ∧ 0 ≤ p.2) ∧ FitP (xs.map Prod.fst)
instance {xs : List (Int × Int)} : Decidable (PairsOk xs) := inferInstanceAs (Decidable (_ ∧ _ ∧ _))
def WishOk1 (m : Int) (n : N3) : Prop := (0 ≤ n.e ∧ n.e < m) ∧ (0 ≤ n.a ∧ n.a < m) ∧ 0 ≤ n.r
instance {m : Int} {n : N3} : Decidable (WishOk1 m n) := inferInstanceAs (Decidable (_ ∧ _ ∧ _))
def WishOk (m : Int) (xs : List N3) : Prop := xs.length ≤ 80 ∧ ∀ n ∈ xs, WishOk1 m n
instance {m : Int} {xs : List N3} : Decidable (WishOk m xs) := inferInstanceAs (Decidable (_ ∧ _))
def FixOk1 (p : List (Int × Int)) (q : Int × Int) : Prop := (0 ≤ q.1 ∧ q.1 < (p.length : Nat)) ∧ 0 ≤ q.2 ∧ q.2 < (lineAt p q.1).1
instance {p : List (Int × Int)} {q : Int × Int} : Decidable (FixOk1 p q) := inferInstanceAs (Decidable (_ ∧ _))
def FixOk (p : List (Int × Int)) (xs : List (Int × Int)) : Prop := (∀ q ∈ xs, FixOk1 p q) ∧ (xs.map Prod.fst).Nodup
instance {p xs : List (Int × Int)} : Decidable (FixOk p xs) := inferInstanceAs (Decidable (_ ∧ _))
theorem lineAt_at {p : List (Int × Int)} {i : Int} (h0 : 0 ≤ i) (h1 : i < (p.length : Nat)) : atI p i = some (lineAt p i) ∧ lineAt p i ∈ p := by
  have c : i.toNat < p.length := by omega
  have e : p[i.toNat]? = some (lineAt p i) := by
    unfold lineAt
    rw [List.getElem?_eq_getElem c]
    rfl
  refine ⟨?_, List.mem_of_getElem? e⟩
  unfold atI ixN
  rw [if_pos h0]
  by_cases z : i < (p.length : Nat)
  · simp only [h1, if_pos]
    exact e
  · exact absurd h1 z
end Fw

/-! The forest while it is built. Own work. -/
namespace Fw
open PySem PySem.Spec PyProof.Rows L2 LamX
open He (ga ma)
open Rep (rp)
/-- where a forest lies -/
structure FA where
  W : Addr
  dx : Addr
  N : Addr
  C : Addr
  R : List Addr
def fM (X : FA) (b : Addr) : Prop := b = X.W ∨ b = X.N ∨ b = X.C ∨ b ∈ X.R
def RowO (K : Frag) (M : Addr → Prop) (H : Hp) (a : Addr) (row : List Ed) : Prop := ∃ vs, H a = some (.lst vs) ∧ Paired (fun v x => rp K (Fr M H) v x) vs row
structure Fo (K : Frag) (M : Addr → Prop) (H : Hp) (X : FA) (f : FS) : Prop where
  o : ∃ t, H X.W = some (.ins (ga K "Forest") X.dx (foF (.ref X.N) (.ref X.C) t)) ∧ rp K (Fr M H) t f.torn
  n : H X.N = some (.lst (X.R.map V.ref))
  r : Paired (RowO K M H) X.R f.near
  c : RowO K M H X.C f.chosen
  nd : X.R.Nodup
  cr : X.C ∉ X.R
  nr : X.N ∉ X.R
  nc : X.N ≠ X.C
  sub : ∀ b, fM X b → M b
section
variable {K : Frag} {M M' : Addr → Prop} {H H' : Hp} {X : FA} {f : FS} {v : V} {e : Ed} {a : Addr} {row : List Ed}
theorem RowO.ext (h : RowO K M H a row) (s : Same (Fr M H) (Fr M H')) (e : ∀ o, H a = some o → H' a = some o) : RowO K M H' a row := let ⟨vs, x, y⟩ := h; ⟨vs, e _ x, Paired.mapP y fun _ _ q => Rep.up s q⟩
theorem Fo.keep (h : Fo K M H X f) (s : Same (Fr M H) (Fr M H')) (x : ∀ b o, fM X b → H b = some o → H' b = some o) : Fo K M H' X f := by
  obtain ⟨t, o, rt⟩ := h.o
  refine ⟨⟨t, x _ _ (.inl rfl) o, Rep.up s rt⟩, x _ _ (.inr (.inl rfl)) h.n, ?_, h.c.ext s fun o e => x _ _ (.inr (.inr (.inl rfl))) e, h.nd, h.cr, h.nr, h.nc, h.sub⟩
  have : ∀ a row, a ∈ X.R → RowO K M H a row → RowO K M H' a row := fun a row ha q => q.ext s fun o e => x _ _ (.inr (.inr (.inr ha))) e
  have go : ∀ {l : List Addr} {rs : List (List Ed)}, (∀ b ∈ l, b ∈ X.R) → Paired (RowO K M H) l rs → Paired (RowO K M H') l rs := fun {l rs} hl q => by
    induction q with
    | nil => exact .nil
    | cons a b ih => exact .cons (this _ _ (hl _ List.mem_cons_self) a) (ih fun b hb => hl b (List.mem_cons_of_mem _ hb))
  exact go (fun _ z => z) h.r
theorem Fo.same (h : Fo K M H X f) (s : Same H H') : Fo K M H' X f := h.keep (Fr.same s) fun b o _ e => s _ _ e
theorem Fo.ne (h : Fo K M H X f) {b : Addr} {vs : List V} (e : H b = some (.lst vs)) : b ≠ X.W := fun z => by
  obtain ⟨t, o, _⟩ := h.o
  rw [z, o] at e
  cases e
theorem Fo.rowAt (h : Fo K M H X f) {i : Nat} (hi : i < f.near.length) : ∃ a row, X.R[i]? = some a ∧ f.near[i]? = some row ∧ RowO K M H a row ∧ a ∈ X.R := by
  obtain ⟨row, er⟩ : ∃ row, f.near[i]? = some row := ⟨_, List.getElem?_eq_getElem hi⟩
  obtain ⟨a, ea, q⟩ := pd_get h.r er
  exact ⟨a, row, ea, er, q, List.mem_of_getElem? ea⟩
theorem pd_mod {α β : Type} {F F' : α → β → Prop} {g : β → β} : ∀ {l₁ : List α} {l₂ : List β} {i : Nat}, Paired F l₁ l₂ → (∀ j x y, l₁[j]? = some x → F x y → j ≠ i → F' x y) → (∀ x y, l₁[i]? = some x → F x y → F' x (g y)) → Paired F' l₁ (l₂.modify i g)
  | _, _, i, .nil, _, _ => by
    simp only [List.modify_nil]
    exact .nil
  | _, _, 0, .cons h t, h1, h2 => by
    rw [List.modify_zero_cons]
    refine .cons (h2 _ _ rfl h) ?_
    have go : ∀ {l₁ : List _} {l₂ : List _}, Paired F l₁ l₂ → (∀ j x y, l₁[j]? = some x → F x y → F' x y) → Paired F' l₁ l₂ := fun {l₁ l₂} q => by
      induction q with
      | nil => intro _; exact .nil
      | cons a b ih => intro z; exact .cons (z 0 _ _ rfl a) (ih fun j x y e f => z (j + 1) x y (by simpa using e) f)
    exact go t fun j x y e f => h1 (j + 1) x y (by simpa using e) f (by omega)
  | _, _, i + 1, .cons h t, h1, h2 => by
    rw [List.modify_succ_cons]
    refine .cons (h1 0 _ _ rfl h (by omega)) (pd_mod t (fun j x y e f n => h1 (j + 1) x y (by simpa using e) f (by omega)) fun x y e f => h2 x y (by simpa using e) f)
/-- an edge more among the chosen ones -/
theorem Fo.choose {vs : List V} (h : Fo K M H X f) (e0 : H X.C = some (.lst vs)) (r : rp K (Fr M H) v e) : Fo K M (upd H X.C (.lst (vs ++ [v]))) X ⟨f.near, f.chosen ++ [e], f.torn⟩ ∧ Ext (fM X) H (upd H X.C (.lst (vs ++ [v]))) ∧ Same (Fr M H) (Fr M (upd H X.C (.lst (vs ++ [v])))) := by
  have sm : Same (Fr M H) (Fr M (upd H X.C (.lst (vs ++ [v])))) := Fr.wr (h.sub _ (.inr (.inr (.inl rfl))))
  obtain ⟨t, o, rt⟩ := h.o
  obtain ⟨ws, ec, pc⟩ := h.c
  rw [e0] at ec
  cases ec
  refine ⟨⟨⟨t, by rw [upd_ne (h.ne e0).symm]; exact o, Rep.up sm rt⟩, by rw [upd_ne h.nc]; exact h.n, ?_, ⟨_, upd_same, pd_app (Paired.mapP pc fun _ _ q => Rep.up sm q) (.cons (Rep.up sm r) .nil)⟩, h.nd, h.cr, h.nr, h.nc, h.sub⟩, fun b o n e => by rw [upd_ne (fun z => n (.inr (.inr (.inl z))))]; exact e, sm⟩
  have go : ∀ {l : List Addr} {rs : List (List Ed)}, X.C ∉ l → Paired (RowO K M H) l rs → Paired (RowO K M (upd H X.C (.lst (vs ++ [v])))) l rs := fun {l rs} hl q => by
    induction q with
    | nil => exact .nil
    | cons a b ih => exact .cons (a.ext sm fun o e => by rw [upd_ne (fun z => hl (by rw [z]; exact List.mem_cons_self))]; exact e) (ih fun z => hl (List.mem_cons_of_mem _ z))
  exact go h.cr h.r
/-- an edge more in a row -/
theorem Fo.grow {vs : List V} {i : Nat} (h : Fo K M H X f) (ea : X.R[i]? = some a) (e0 : H a = some (.lst vs)) (r : rp K (Fr M H) v e) : Fo K M (upd H a (.lst (vs ++ [v]))) X ⟨f.near.modify i (· ++ [e]), f.chosen, f.torn⟩ ∧ Ext (fM X) H (upd H a (.lst (vs ++ [v]))) ∧ Same (Fr M H) (Fr M (upd H a (.lst (vs ++ [v])))) := by
  have ha : a ∈ X.R := List.mem_of_getElem? ea
  have sm : Same (Fr M H) (Fr M (upd H a (.lst (vs ++ [v])))) := Fr.wr (h.sub _ (.inr (.inr (.inr ha))))
  obtain ⟨t, o, rt⟩ := h.o
  refine ⟨⟨⟨t, by rw [upd_ne (h.ne e0).symm]; exact o, Rep.up sm rt⟩, by rw [upd_ne (fun z => h.nr (by rw [z]; exact ha))]; exact h.n, ?_, h.c.ext sm fun o e => by rw [upd_ne (fun z => h.cr (by rw [z]; exact ha))]; exact e, h.nd, h.cr, h.nr, h.nc, h.sub⟩, fun b o n e => by rw [upd_ne (fun z => n (.inr (.inr (.inr (by rw [z]; exact ha)))))]; exact e, sm⟩
  refine pd_mod h.r (fun j x y ej q n => q.ext sm fun o e => ?_) fun x y ei q => ?_
  · have nx : x ≠ a := fun z => by
      obtain ⟨lj, gj⟩ := List.getElem?_eq_some_iff.mp ej
      obtain ⟨li, gi⟩ := List.getElem?_eq_some_iff.mp ea
      have pw := List.pairwise_iff_getElem.mp h.nd
      rcases Nat.lt_trichotomy j i with c | c | c
      · exact pw j i lj li c (by rw [gj, gi, z])
      · exact n c
      · exact pw i j li lj c (by rw [gj, gi, z])
    rw [upd_ne nx]
    exact e
  · rw [ea] at ei
    cases ei
    obtain ⟨ws, ew, pw⟩ := q
    rw [e0] at ew
    cases ew
    exact ⟨_, upd_same, pd_app (Paired.mapP pw fun _ _ q => Rep.up sm q) (.cons (Rep.up sm r) .nil)⟩
/-- an edge that tears -/
theorem Fo.tear {t : V} (h : Fo K M H X f) (o : H X.W = some (.ins (ga K "Forest") X.dx (foF (.ref X.N) (.ref X.C) t))) (r : rp K (Fr M H) v e) : Fo K M (upd H X.W (.ins (ga K "Forest") X.dx (foF (.ref X.N) (.ref X.C) v))) X ⟨f.near, f.chosen, some e⟩ ∧ Ext (fM X) H (upd H X.W (.ins (ga K "Forest") X.dx (foF (.ref X.N) (.ref X.C) v))) := by
  have sm : Same (Fr M H) (Fr M (upd H X.W (.ins (ga K "Forest") X.dx (foF (.ref X.N) (.ref X.C) v)))) := Fr.wr (h.sub _ (.inl rfl))
  obtain ⟨vs, ec, pc⟩ := h.c
  refine ⟨⟨⟨v, upd_same, Rep.up sm r⟩, by rw [upd_ne (h.ne h.n)]; exact h.n, ?_, ⟨vs, by rw [upd_ne (h.ne ec)]; exact ec, Paired.mapP pc fun _ _ q => Rep.up sm q⟩, h.nd, h.cr, h.nr, h.nc, h.sub⟩, fun b o n e => by rw [upd_ne (fun z => n (.inl z))]; exact e⟩
  refine Paired.mapP h.r fun a row q => ?_
  obtain ⟨ws, ew, pw⟩ := q
  exact ⟨ws, by rw [upd_ne (h.ne ew)]; exact ew, Paired.mapP pw fun _ _ q => Rep.up sm q⟩
end
theorem pl3 {f g h : Str} {u v w : V} : (putF f u (putF g v (putF h w []))).length < 1000 := Nat.lt_of_le_of_lt (putF_len _ _ _) (Nat.lt_of_le_of_lt (Nat.succ_le_succ (putF_len _ _ _)) (Nat.lt_of_le_of_lt (Nat.succ_le_succ (Nat.succ_le_succ (putF_len _ _ _))) (by decide)))
theorem pl4 {f g h i : Str} {t u v w : V} : (putF f t (putF g u (putF h v (putF i w [])))).length < 1000 := Nat.lt_of_le_of_lt (putF_len _ _ _) (Nat.succ_lt_succ (Nat.lt_of_lt_of_le (Nat.lt_succ_of_le (putF_len _ _ _)) (by have := @pl2 h i v w; have := putF_len g u (putF h v (putF i w [])); have := putF_len h v (putF i w []); have := putF_len i w []; simp only [List.length_nil] at *; omega)))
theorem plE {x : V} {l c : V} : (foF l c x).length < 1000 := show (3 : Nat) < 1000 by decide
theorem atI_nn {α : Type} {xs : List α} {i : Int} {x : α} (h0 : 0 ≤ i) (h : xs[i.toNat]? = some x) : atI xs i = some x := by
  have c := (List.getElem?_eq_some_iff.mp h).1
  unfold atI ixN
  rw [if_pos h0]
  have h1 : i < (xs.length : Nat) := by omega
  simp only [h1, if_pos]
  exact h
theorem ix_raw {K : Frag} {H : Hp} {Q : VK} {p : Addr} {vs : List V} {i : Int} {u : V} (h : SqL K H p vs) (ha : atI vs i = some u) (k : Q u H) : sq2 (rIxL K) (.ref p) (.int i) H Q := by
  rw [sq2_eq]
  exact ⟨p, vs, i, u, rfl, rfl, h, ha, k⟩
theorem modLen {near : List (List Ed)} {L i : Nat} {e : Ed} (h : ∀ row ∈ near, row.length ≤ L) : ∀ row ∈ near.modify i (· ++ [e]), row.length ≤ L + 1 := fun row hr => by
  obtain ⟨j, hj⟩ := List.mem_iff_getElem?.mp hr
  rw [List.getElem?_modify] at hj
  cases q : near[j]? with
  | none => rw [q] at hj; simp at hj
  | some r =>
    have := h r (List.mem_of_getElem? q)
    rw [q] at hj
    by_cases c : i = j
    · simp [c] at hj
      rw [← hj, List.length_append]
      simp
      omega
    · simp [c] at hj
      rw [← hj]
      omega
def nearI (near : List (List Ed)) (e : Ed) : Nat → List (List Ed)
  | 0 => near
  | 1 => near.modify e.b.toNat (· ++ [e])
  | _ => takeN near e
/-! ### what reached tells -/
structure RD where
  l : List (Int × Rv)
def RDp (K : Frag) (F : Hp) (kvs : List (Key × V)) (l : List (Int × Rv)) : Prop := Paired (fun kv x => kv.1 = .inl x.1 ∧ rp K F kv.2 x.2) kvs l
theorem RDp.up {K : Frag} {F F' : Hp} {kvs : List (Key × V)} {l : List (Int × Rv)} (s : Same F F') (h : RDp K F kvs l) : RDp K F' kvs l := Paired.mapP h fun _ _ q => ⟨q.1, Rep.up s q.2⟩
instance : Rep RD := ⟨fun K F v x => ∃ (p : Addr) (kvs : List (Key × V)), v = .ref p ∧ F p = some (.dK kvs) ∧ RDp K F kvs x.l, fun s h => let ⟨p, kvs, e, h, q⟩ := h; ⟨p, kvs, e, s _ _ h, q.up s⟩⟩
theorem getR_cons {p : Int × Rv} {l : List (Int × Rv)} {k : Int} : getR (p :: l) k = if p.1 = k then some p.2 else getR l k := by
  unfold getR
  rw [List.find?_cons]
  by_cases c : p.1 = k <;> simp [c]
theorem RDp.val {K : Frag} {F : Hp} : ∀ {kvs : List (Key × V)} {l : List (Int × Rv)}, RDp K F kvs l → ∀ k : Int, (∃ v r, valV kvs (.inl k) = some v ∧ getR l k = some r ∧ rp K F v r) ∨ (valV kvs (.inl k) = none ∧ getR l k = none)
  | _, _, .nil, k => .inr ⟨valV_nil, rfl⟩
  | (a, v) :: kvs, (b, r) :: l, .cons h t, k => by
    obtain ⟨e, q⟩ := h
    have e : a = .inl b := e
    subst e
    rw [getR_cons]
    by_cases c : b = k
    · subst c
      exact .inl ⟨v, r, valV_pos rfl, if_pos rfl, q⟩
    · rw [valV_neg (fun z => c (Sum.inl.inj z)), if_neg c]
      exact RDp.val t k
theorem getR_none {l : List (Int × Rv)} {k : Int} : getR l k = none ↔ keyIn l k = false := by
  unfold getR keyIn
  simp
  exact ⟨fun h x hx => h k x hx rfl, fun h a b hab e => by subst e; exact h b hab⟩
theorem getR_isSome {l : List (Int × Rv)} {k : Int} : (getR l k).isSome = keyIn l k := by
  cases q : getR l k with
  | none => rw [getR_none.mp q]; rfl
  | some r =>
    cases c : keyIn l k with
    | true => rfl
    | false => rw [getR_none.mpr c] at q; cases q
structure Rs (K : Frag) (M : Addr → Prop) (H : Hp) (D Wl : Addr) (st : St9) : Prop where
  d : ∃ kvs, H D = some (.dK kvs) ∧ RDp K (Fr M H) kvs st.1
  w : H Wl = some (.lst (st.2.map V.int))
  md : M D
  mw : M Wl
  al : Alloc M H
section
variable {K : Frag} {M : Addr → Prop} {H H' : Hp} {D Wl : Addr} {st : St9}
theorem Rs.same (h : Rs K M H D Wl st) (s : Same H H') : Rs K M H' D Wl st := ⟨let ⟨kvs, e, q⟩ := h.d; ⟨kvs, s _ _ e, q.up (Fr.same s)⟩, s _ _ h.w, h.md, h.mw, h.al.same s⟩
theorem Rs.ne (h : Rs K M H D Wl st) : D ≠ Wl := fun z => by
  obtain ⟨kvs, e, _⟩ := h.d
  rw [z, h.w] at e
  cases e
theorem Rs.get (h : Rs K M H D Wl st) {k : Int} (hk : k ∈ st.1.map Prod.fst) : ∃ kvs v r, H D = some (.dK kvs) ∧ valV kvs (.inl k) = some v ∧ getR st.1 k = some r ∧ rp K (Fr M H) v r := by
  obtain ⟨kvs, e, q⟩ := h.d
  rcases q.val k with ⟨v, r, h1, h2, h3⟩ | ⟨_, h2⟩
  · exact ⟨kvs, v, r, e, h1, h2, h3⟩
  · obtain ⟨r, h3, _⟩ := getR_some hk
    rw [h2] at h3
    cases h3
theorem Rs.pop (h : Rs K M H D Wl st) : Rs K M (upd H Wl (.lst (st.2.map V.int).dropLast)) D Wl (st.1, st.2.dropLast) ∧ Ext (fun b => b = D ∨ b = Wl) H (upd H Wl (.lst (st.2.map V.int).dropLast)) := by
  obtain ⟨kvs, e, q⟩ := h.d
  refine ⟨⟨⟨kvs, by rw [upd_ne h.ne]; exact e, q.up (Fr.wr h.mw)⟩, ?_, h.md, h.mw, h.al.wrM trivial⟩, fun b o n x => by rw [upd_ne fun z => n (.inr z)]; exact x⟩
  rw [upd_same]
  congr 2
  show (st.2.map V.int).dropLast = st.2.dropLast.map V.int
  rw [List.map_dropLast]
theorem Rs.put {v : V} {r : Rv} {kvs : List (Key × V)} {k : Int} (h : Rs K M H D Wl st) (e : H D = some (.dK kvs)) (n : keyIn st.1 k = false) (q : rp K (Fr M H) v r) :
    Rs K M (upd H D (.dK (putK kvs (.inl k) v))) D Wl (st.1 ++ [(k, r)], st.2) ∧ Ext (fun b => b = D ∨ b = Wl) H (upd H D (.dK (putK kvs (.inl k) v))) := by
  obtain ⟨kvs', e', p⟩ := h.d
  rw [e] at e'
  cases e'
  have sm : Same (Fr M H) (Fr M (upd H D (.dK (putK kvs (.inl k) v)))) := Fr.wr h.md
  have no : valV kvs (.inl k) = none := by
    rcases p.val k with ⟨v, r, _, h2, _⟩ | ⟨h1, _⟩
    · rw [getR_none.mpr n] at h2
      cases h2
    · exact h1
  refine ⟨⟨⟨_, upd_same, ?_⟩, by rw [upd_ne h.ne.symm]; exact h.w, h.md, h.mw, h.al.wrM trivial⟩, fun b o n x => by rw [upd_ne fun z => n (.inl z)]; exact x⟩
  rw [putK_new v no] at sm ⊢
  exact pd_app (p.up sm) (.cons ⟨rfl, Rep.up sm q⟩ .nil)
theorem Rs.push {k : Int} (h : Rs K M H D Wl st) : Rs K M (upd H Wl (.lst (st.2.map V.int ++ [.int k]))) D Wl (st.1, st.2 ++ [k]) ∧ Ext (fun b => b = D ∨ b = Wl) H (upd H Wl (.lst (st.2.map V.int ++ [.int k]))) := by
  obtain ⟨kvs, e, q⟩ := h.d
  refine ⟨⟨⟨kvs, by rw [upd_ne h.ne]; exact e, q.up (Fr.wr h.mw)⟩, ?_, h.md, h.mw, h.al.wrM trivial⟩, fun b o n x => by rw [upd_ne fun z => n (.inr z)]; exact x⟩
  rw [upd_same]
  show some (HO.lst (st.2.map V.int ++ [.int k])) = some (HO.lst ((st.2 ++ [k]).map V.int))
  rw [List.map_append]
  rfl
end
theorem ne_nil {K : Frag} {H : Hp} {Q : VK} {p q : Addr} {xs : List V} (h1 : SqL K H p xs) (h2 : SqL K H q []) (k : Q (.bl (!xs.isEmpty)) H) : sq2 (rEqE K true) (.ref p) (.ref q) H Q := by
  rw [sq2_eq]
  exact ⟨p, q, xs, rfl, rfl, h1, h2, k⟩
theorem Alloc.putO {M : Addr → Prop} {H : Hp} {D : Addr} {o : HO} (a : Alloc M H) (q : MutO o) : Alloc (Ad D M) (upd H D o) := fun p m => by
  by_cases e : p = D
  · rw [e, upd_same]
    exact ⟨_, rfl, q⟩
  · rw [upd_ne e]
    exact a p (m.resolve_left e)
/-- a forest that stands, as data -/
theorem Fo.data {K : Frag} {M : Addr → Prop} {H : Hp} {X : FA} {f : FS} (h : Fo K M H X f) : rp K (Fr (fun b => M b ∧ ¬ fM X b) H) (.ref X.W) f := by
  have mono : Same (Fr M H) (Fr (fun b => M b ∧ ¬ fM X b) H) := Fr.mono fun b m => m.1
  have at_ : ∀ {b : Addr} {o : HO}, fM X b → H b = some o → Fr (fun b => M b ∧ ¬ fM X b) H b = some o := fun m e => Fr.get (fun z => z.2 m) e
  obtain ⟨t, o, rt⟩ := h.o
  obtain ⟨vs, ec, pc⟩ := h.c
  refine ⟨X.W, X.dx, _, _, t, rfl, at_ (.inl rfl) o, ⟨X.N, _, rfl, at_ (.inr (.inl rfl)) h.n, ?_⟩, ⟨X.C, vs, rfl, at_ (.inr (.inr (.inl rfl))) ec, Paired.mapP pc fun _ _ q => Rep.up mono q⟩, Rep.up mono rt⟩
  have go : ∀ {l : List Addr} {rs : List (List Ed)}, (∀ b ∈ l, b ∈ X.R) → Paired (RowO K M H) l rs → Paired (fun v x => rp K (Fr (fun b => M b ∧ ¬ fM X b) H) v x) (l.map V.ref) rs := fun {l rs} hl q => by
    induction q with
    | nil => exact .nil
    | cons a b ih =>
      obtain ⟨ws, ew, pw⟩ := a
      exact .cons ⟨_, ws, rfl, at_ (.inr (.inr (.inr (hl _ List.mem_cons_self)))) ew, Paired.mapP pw fun _ _ q => Rep.up mono q⟩ (ih fun b hb => hl b (List.mem_cons_of_mem _ hb))
  exact go (fun _ z => z) h.r
theorem u1 {n : Nat} (h : n + 64 < cLine) : n + 1 < cLine := by omega
theorem fr_two {M : Addr → Prop} {H H' : Hp} {D W : Addr} (s : Same H H') (hD : H D = none) (hW : H W = none) : Same (Fr M H) (Fr (Ad W (Ad D M)) H') := fun b o e => by
  have e2 := Fr.sub _ _ e
  refine Fr.get (fun z => ?_) (s _ _ e2)
  rcases z with z | z | z
  · rw [z, hW] at e2; cases e2
  · rw [z, hD] at e2; cases e2
  · exact Fr.no e z
theorem sqcI {r : RC} {vs : List V} {H : Hp} {Q : VK} (h : r vs H Q) : sqc r vs H Q := by
  rw [sqc_eq]
  exact h
theorem sqmI {r : RM} {v : V} {vs : List V} {H : Hp} {Q : VK} (h : r v vs H Q) : sqm r v vs H Q := by
  rw [sqm_eq]
  exact h
theorem sq2I {r : R2} {v u : V} {H : Hp} {Q : VK} (h : r v u H Q) : sq2 r v u H Q := by
  rw [sq2_eq]
  exact h
/-! ### ways are short -/
def WayOk (st : St9) : Prop := ∀ p ∈ st.1, p.2.c.length < st.1.length
theorem goE_way {here : Int} {r : Rv} {st : St9} {e : Ed} (h : WayOk st) (hr : r.c.length < st.1.length) : WayOk (goE here r st e) ∧ st.1.length ≤ (goE here r st e).1.length := by
  unfold goE
  by_cases c : keyIn st.1 (therE here e) = true
  · rw [if_pos c]
    exact ⟨h, Nat.le_refl _⟩
  · rw [if_neg c]
    refine ⟨fun p hp => ?_, by simp⟩
    have hp : p ∈ st.1 ++ [(therE here e, nextR here r e)] := hp
    show p.2.c.length < (st.1 ++ [(therE here e, nextR here r e)]).length
    rw [List.length_append, List.length_singleton]
    rcases List.mem_append.mp hp with z | z
    · have := h p z
      omega
    · rw [List.mem_singleton.mp z]
      show (r.c ++ [(e, decide (e.b = here))]).length < _
      rw [List.length_append, List.length_singleton]
      omega
theorem foldE_way {here : Int} {r : Rv} : ∀ {row : List Ed} {st : St9}, WayOk st → r.c.length < st.1.length → WayOk (row.foldl (goE here r) st)
  | [], _, h, _ => h
  | e :: row, st, h, hr => by
    obtain ⟨h1, l1⟩ := goE_way (e := e) (here := here) h hr
    exact foldE_way (row := row) h1 (Nat.lt_of_lt_of_le hr l1)
theorem iter9_way {near : List (List Ed)} (ok : NearOk near) {k : Int} (h0 : 0 ≤ k) (h1 : k < (near.length : Nat)) : ∀ j : Nat, WayOk (iter9 near (start9 k) j)
  | 0 => fun p hp => by
    rw [List.mem_singleton.mp hp]
    show 0 < 1
    exact Nat.zero_lt_one
  | j + 1 => by
    have ih := iter9_way ok h0 h1 j
    have ok9 := (iter9_ok ok h0 h1 j).1
    show WayOk (turn9 near (iter9 near (start9 k) j))
    generalize iter9 near (start9 k) j = st at *
    unfold turn9
    cases q : st.2.getLast? with
    | none => exact ih
    | some here =>
      obtain ⟨r, er, mr⟩ := getR_some (ok9.sub here (List.mem_of_getLast? q))
      show WayOk ((rowAt near here).foldl (goE here ((getR st.1 here).getD ⟨0, none, []⟩)) (st.1, st.2.dropLast))
      rw [er]
      exact foldE_way (st := (st.1, st.2.dropLast)) ih (ih _ mr)
theorem take_fold {α β : Type} {f : β → α → β} {xs : List α} {n : Nat} {x : α} {b : β} (h : xs[n]? = some x) : (xs.take (n + 1)).foldl f b = f ((xs.take n).foldl f b) x := by
  rw [List.take_add_one, h, List.foldl_append]
  rfl
/-! ### sorted data, tables, rows -/
theorem pairR_pd {α β : Type} {R : α → β → Prop} {vs : List α} {us : List β} (r : Paired R vs us) : ∀ ks : List Int, PairR R (ks.zip vs) (ks.zip us) := by
  induction r with
  | nil => intro ks; cases ks <;> exact .nil
  | cons h _ ih =>
    intro ks
    cases ks with
    | nil => exact .nil
    | cons k ks => exact .cons h (ih ks)
theorem PairR.pd {α β : Type} {R : α → β → Prop} {l : List (Int × α)} {m : List (Int × β)} (t : PairR R l m) : Paired R (l.map (·.2)) (m.map (·.2)) := by
  induction t with
  | nil => exact .nil
  | cons h _ ih => exact .cons h ih
theorem tabS_ext {H H' : Hp} {P : Addr} {q : Str} {T : Addr → Prop} (h : TabS H P q) (x : Ext T H H') (n : ∀ b, T b → ∀ o, H b = some o → (∃ vs, o = .lst vs) ∨ ∃ C dx fs, o = .ins C dx fs) : TabS H' P q := by
  obtain ⟨ps, e, tri, am⟩ := h
  refine ⟨ps, x _ _ (fun z => ?_) e, tri, fun pos cv hc => ?_⟩
  · rcases n _ z _ e with ⟨vs, y⟩ | ⟨C, dx, fs, y⟩ <;> cases y
  · obtain ⟨c, e1, e2⟩ := am pos cv hc
    refine ⟨c, e1, x _ _ (fun z => ?_) e2⟩
    unfold CodeO at e2
    rcases n _ z _ e2 with ⟨vs, y⟩ | ⟨C, dx, fs, y⟩ <;> cases y
theorem tabS_same {H H' : Hp} {P : Addr} {q : Str} (h : TabS H P q) (s : Same H H') : TabS H' P q := tabS_ext (T := fun _ => False) h (Ext.same s) fun _ z => z.elim
theorem lc_rows {lo : Int} {n : Nat} {g : TG} {te : TE} {vs : List Nat} {σ : L2.St} {H1 : Hp} {D : Addr} {Qd : Hp → Prop} (hD : H1 D = none) (hn : n ≤ 100000)
    (step : ∀ (x : V) (H : Hp) (C : V → Hp → Prop), (∀ a, H a = none → C (.ref a) (upd H a (.lst []))) → g x (wipe σ vs) H fun σ2 H2 => wipe σ2 vs = wipe σ vs ∧ te σ2 H2 C)
    (k : ∀ (R : List Addr) (H' : Hp), R.length = n → R.Nodup → (∀ a ∈ R, H' a = some (.lst []) ∧ H1 a = none) → D ∉ R → H' D = some (.lst (R.map V.ref)) → Same H1 H' → Qd H') : LcW (Itr lo n) H1 g tYes te vs σ D Qd := by
  refine lc_it walk_range (fun i H => ∃ R : List Addr, R.length = i ∧ R.Nodup ∧ (∀ a ∈ R, H a = some (.lst []) ∧ H1 a = none) ∧ D ∉ R ∧ H D = some (.lst (R.map V.ref)) ∧ Same H1 H) ⟨[], rfl, .nil, (fun a z => by cases z), (fun z => by cases z), upd_same, Same.new hD⟩ (fun _ _ _ _ => trivial) ?_ (fun H ⟨R, h1, h2, h3, h4, h5, h6⟩ => k R H h1 h2 h3 h4 h5 h6)
  rintro i x H H' hi ⟨R, rfl, h2, h3, h4, h5, h6⟩ ⟨rfl, _⟩
  refine step x H' _ fun a ha => ⟨R.map V.ref, ?_, Nat.lt_of_lt_of_le (by rw [List.length_map]; exact hi) (Nat.le_trans hn (by decide)), R ++ [a], by simp, ?_, ?_, ?_, ?_, ?_⟩
  · rw [upd_ne (ne_of_none h5 ha)]
    exact h5
  · refine List.nodup_append.mpr ⟨h2, by simp, fun b hb c hc => ?_⟩
    rw [List.mem_singleton.mp hc]
    intro z
    rw [z, ] at hb
    rw [(h3 _ hb).1] at ha
    cases ha
  · intro b hb
    have nD : b ≠ D := fun z => by
      rcases List.mem_append.mp hb with y | y
      · exact h4 (by rw [← z]; exact y)
      · rw [← List.mem_singleton.mp y, z, h5] at ha
        cases ha
    rw [upd_ne nD]
    by_cases c : b = a
    · subst c
      refine ⟨upd_same, ?_⟩
      exact Same.fin h6 ha
    · rw [upd_ne c]
      exact h3 b ((List.mem_append.mp hb).resolve_right fun z => c (List.mem_singleton.mp z))
  · intro z
    rcases List.mem_append.mp z with y | y
    · exact h4 y
    · rw [← List.mem_singleton.mp y, h5] at ha
      cases ha
  · rw [upd_same, List.map_append]
    rfl
  · intro b o e
    rw [upd_ne (ne_of_none e hD), upd_ne (ne_of_none (h6 _ _ e) ha)]
    exact h6 _ _ e
/-! ### what the forest keeps -/
structure FOk (n k : Nat) (f : FS) : Prop where
  len : f.near.length = n
  near : NearOk f.near
  ch : f.chosen.length ≤ k
  rows : ∀ row ∈ f.near, row.length ≤ 2 * k
theorem mem_mod {near : List (List Ed)} {i : Nat} {e : Ed} {row : List Ed} (h : row ∈ near.modify i (· ++ [e])) : row ∈ near ∨ ∃ r ∈ near, row = r ++ [e] := by
  obtain ⟨j, hj⟩ := List.mem_iff_getElem?.mp h
  rw [List.getElem?_modify] at hj
  cases q : near[j]? with
  | none => rw [q] at hj; simp at hj
  | some r =>
    rw [q] at hj
    by_cases c : i = j
    · simp [c] at hj
      exact .inr ⟨r, List.mem_of_getElem? q, hj.symm⟩
    · simp [c] at hj
      rw [← hj]
      exact .inl (List.mem_of_getElem? q)
theorem modOk {n : Nat} {near : List (List Ed)} {i : Nat} {e : Ed} (ok : ∀ row ∈ near, ∀ e ∈ row, 0 ≤ e.b ∧ e.b < (n : Nat) ∧ 0 ≤ e.e ∧ e.e < (n : Nat)) (h : 0 ≤ e.b ∧ e.b < (n : Nat) ∧ 0 ≤ e.e ∧ e.e < (n : Nat)) :
    ∀ row ∈ near.modify i (· ++ [e]), ∀ e ∈ row, 0 ≤ e.b ∧ e.b < (n : Nat) ∧ 0 ≤ e.e ∧ e.e < (n : Nat) := fun row hr x hx => by
  rcases mem_mod hr with z | ⟨r, z, rfl⟩
  · exact ok row z x hx
  · rcases List.mem_append.mp hx with y | y
    · exact ok r z x y
    · rw [List.mem_singleton.mp y]
      exact h
theorem FOk.add {n k : Nat} {f : FS} {e : Ed} (h : FOk n k f) (he : 0 ≤ e.b ∧ e.b < (n : Nat) ∧ 0 ≤ e.e ∧ e.e < (n : Nat)) : FOk n (k + 1) (addE f e) := by
  have up : FOk n (k + 1) f := ⟨h.len, h.near, Nat.le_succ_of_le h.ch, fun row hr => Nat.le_trans (h.rows row hr) (by omega)⟩
  unfold addE
  split
  · have l1 : (takeN f.near e).length = n := by
      unfold takeN
      rw [List.length_modify, List.length_modify]
      exact h.len
    have nk : ∀ row ∈ takeN f.near e, ∀ e ∈ row, 0 ≤ e.b ∧ e.b < (n : Nat) ∧ 0 ≤ e.e ∧ e.e < (n : Nat) := by
      unfold takeN
      exact modOk (modOk (fun row hr x hx => by have := h.near row hr x hx; rw [h.len] at this; exact this) he) he
    refine ⟨l1, ?_, by show (f.chosen ++ [e]).length ≤ k + 1; rw [List.length_append]; have := h.ch; simp; exact this, fun row hr => ?_⟩
    · show NearOk (takeN f.near e)
      unfold NearOk
      rw [l1]
      exact nk
    · have hr : row ∈ takeN f.near e := hr
      unfold takeN at hr
      have := modLen (modLen (L := 2 * k) (e := e) (i := e.b.toNat) h.rows) (i := e.e.toNat) row hr
      omega
  · split
    · exact ⟨up.len, up.near, up.ch, up.rows⟩
    · exact up
theorem FOk.start {n : Nat} : FOk n 0 ⟨List.replicate n [], [], none⟩ := ⟨List.length_replicate, (fun row hr e he => by rw [(List.mem_replicate.mp hr).2] at he; cases he), Nat.le_refl _, (fun row hr => by rw [(List.mem_replicate.mp hr).2]; exact Nat.le_refl _)⟩
theorem sortE_mem {es : List Ed} {e : Ed} (h : e ∈ sortE es) : e ∈ es := by
  unfold sortE at h
  obtain ⟨p, hp, rfl⟩ := List.mem_map.mp h
  have := (stabK_perm _).mem_iff.mp hp
  exact (List.of_mem_zip (a := p.1) (b := p.2) this).2
theorem sortE_len {es : List Ed} : (sortE es).length = es.length := by
  unfold sortE
  rw [List.length_map, stabK_len, List.length_zip, List.length_map]
  omega
theorem FOk.fold {n : Nat} {es : List Ed} (hb : ∀ e ∈ es, 0 ≤ e.b ∧ e.b < (n : Nat) ∧ 0 ≤ e.e ∧ e.e < (n : Nat)) : ∀ k : Nat, k ≤ es.length → FOk n k ((es.take k).foldl addE ⟨List.replicate n [], [], none⟩)
  | 0, _ => FOk.start
  | k + 1, hk => by
    rw [take_fold (List.getElem?_eq_getElem (show k < es.length by omega))]
    exact (FOk.fold hb k (by omega)).add (hb _ (List.getElem_mem _))
/-- a forest at its start -/
theorem Fo.start {K : Frag} {M : Addr → Prop} {H : Hp} {X : FA} (o : H X.W = some (.ins (ga K "Forest") X.dx (foF (.ref X.N) (.ref X.C) .non))) (n : H X.N = some (.lst (X.R.map V.ref))) (r : ∀ a ∈ X.R, H a = some (.lst [])) (c : H X.C = some (.lst [])) (nd : X.R.Nodup) (cr : X.C ∉ X.R) (nr : X.N ∉ X.R) (nc : X.N ≠ X.C) (sub : ∀ b, fM X b → M b) :
    Fo K M H X ⟨List.replicate X.R.length [], [], none⟩ := by
  refine ⟨⟨.non, o, rfl⟩, n, ?_, ⟨[], c, .nil⟩, nd, cr, nr, nc, sub⟩
  have go : ∀ {l : List Addr}, (∀ a ∈ l, H a = some (.lst [])) → Paired (RowO K M H) l (List.replicate l.length []) := fun {l} hl => by
    induction l with
    | nil => exact .nil
    | cons a l ih =>
      rw [List.length_cons, List.replicate_succ]
      exact .cons ⟨[], hl _ List.mem_cons_self, .nil⟩ (ih fun b hb => hl b (List.mem_cons_of_mem _ hb))
  exact go r
theorem Fo.kind {K : Frag} {M : Addr → Prop} {H : Hp} {X : FA} {f : FS} (h : Fo K M H X f) : ∀ b, fM X b → ∀ o, H b = some o → (∃ vs, o = .lst vs) ∨ ∃ C dx fs, o = .ins C dx fs := by
  intro b m o e
  obtain ⟨t, ho, _⟩ := h.o
  obtain ⟨vs, ec, _⟩ := h.c
  rcases m with m | m | m | m
  · rw [m, ho] at e
    cases e
    exact .inr ⟨_, _, _, rfl⟩
  · rw [m, h.n] at e
    cases e
    exact .inl ⟨_, rfl⟩
  · rw [m, ec] at e
    cases e
    exact .inl ⟨_, rfl⟩
  · obtain ⟨i, hi⟩ := List.mem_iff_getElem?.mp m
    obtain ⟨row, _, ws, ew, _⟩ := pd_getL h.r hi
    rw [ew] at e
    cases e
    exact .inl ⟨_, rfl⟩
/-! ### what a plan's beginning needs -/
theorem rd_unE {K : Frag} {F H : Hp} {v : V} {x : Int × N3} {i j l m : Nat} {σ : L2.St} {R : L2.St → Hp → Prop} (h : rp K F v x) (hF : Same F H) (k : R ((((σ.set i (some (.int x.1))).set j (some (.int x.2.e))).set l (some (.int x.2.a))).set m (some (.int x.2.r))) H) :
    gTup K 2 (gCons (gName i) (gCons (gTup K 3 (gCons (gName j) (gCons (gName l) (gCons (gName m) gNil)))) gNil)) v σ H R := by
  obtain ⟨p, v1, v2, rfl, e, r1, r2⟩ := h
  obtain rfl : v1 = V.int x.1 := r1
  obtain ⟨q, rfl, t⟩ := r2
  exact ⟨p, _, rfl, SqT.of (hF _ _ e), rfl, _, _, rfl, _, _, rfl, q, _, rfl, SqT.of (hF _ _ t), rfl, _, _, rfl, _, _, rfl, _, _, rfl, rfl, rfl, k⟩
def diK (xs : List (Int × Int)) : List (Key × V) := xs.map fun q => (.inl q.1, .int q.2)
theorem mergeK_app {κ : List (Key × V)} : ∀ {more : List (Key × V)}, ((κ ++ more).map Prod.fst).Nodup → mergeK κ more = κ ++ more
  | [], _ => by
    rw [List.append_nil]
    rfl
  | p :: more, nd => by
    have no : valV κ p.1 = none := by
      unfold valV
      rw [Option.map_eq_none_iff, List.find?_eq_none]
      intro kv hk z
      have z : kv.1 = p.1 := by simpa using z
      rw [List.map_append, List.nodup_append] at nd
      exact nd.2.2 kv.1 (List.mem_map.mpr ⟨kv, hk, rfl⟩) p.1 (by simp) z
    show mergeK (putK κ p.1 p.2) more = _
    have e : putK κ p.1 p.2 = κ ++ [p] := putK_new p.2 no
    rw [e, mergeK_app (by rw [List.append_assoc]; exact nd), List.append_assoc]
    rfl
theorem diK_nd {xs : List (Int × Int)} (nd : (xs.map Prod.fst).Nodup) : ((diK xs).map Prod.fst).Nodup := by
  unfold diK
  rw [List.map_map]
  rw [show (Prod.fst ∘ fun (q : Int × Int) => ((.inl q.1, .int q.2) : Key × V)) = (fun i => (.inl i : Key)) ∘ Prod.fst from rfl, ← List.map_map]
  exact List.Pairwise.map _ (fun a b n z => n (Sum.inl.inj z)) nd
theorem rd_dict {K : Frag} {F H : Hp} {v : V} {Q : VK} {xs : List (Int × Int)} (h : rp K F v xs) (hF : Same F H) (nd : (xs.map Prod.fst).Nodup) (k : ∀ D, H D = none → Q (.ref D) (upd H D (.dK (diK xs)))) :
    sqc (fun xs H Q => ∃ (a : Addr) (ps : List Addr) (kvs : List (Key × V)), xs = [V.ref a] ∧ SqL K H a (ps.map V.ref) ∧ Paired (fun p kv => SqT K H p [kV kv.1, kv.2]) ps kvs ∧ ∀ p, H p = none → Q (.ref p) (upd H p (.dK (mergeK [] kvs)))) [v] H Q := by
  rw [sqc_eq]
  obtain ⟨a, vs, rfl, e, pd⟩ := h
  have go : ∀ {vs : List V} {xs : List (Int × Int)}, Paired (fun v x => rp K F v x) vs xs → ∃ ps : List Addr, vs = ps.map V.ref ∧ Paired (fun p kv => SqT K H p [kV kv.1, kv.2]) ps (diK xs) := fun {vs xs} pd => by
    induction pd with
    | nil => exact ⟨[], rfl, .nil⟩
    | @cons v x vs xs h t ih =>
      obtain ⟨ps, rfl, q⟩ := ih
      obtain ⟨p, v1, v2, rfl, e, r1, r2⟩ := h
      obtain rfl : v1 = V.int x.1 := r1
      obtain rfl : v2 = V.int x.2 := r2
      exact ⟨p :: ps, rfl, .cons (SqT.of (hF _ _ e)) q⟩
  obtain ⟨ps, rfl, q⟩ := go pd
  refine ⟨a, ps, _, rfl, SqL.of (hF _ _ e), q, fun D hD => ?_⟩
  rw [show mergeK [] (diK xs) = diK xs from mergeK_app (κ := []) (diK_nd nd)]
  exact k D hD
def plF4 (a b d c : V) : List (Str × V) := [("pairs", a), ("wished", b), ("settled", d), ("clock", c)]
section
variable {a b d c f : V}
theorem p4_p : (plF4 a b d c).lookup ("pairs" : Str) = some a := lkh _ _ _
theorem p4_w : (plF4 a b d c).lookup ("wished" : Str) = some b := by
  unfold plF4
  rw [lkn _ _ (by decide +kernel), lkh]
theorem p4_s : (plF4 a b d c).lookup ("settled" : Str) = some d := by
  unfold plF4
  rw [lkn _ _ (by decide +kernel), lkn _ _ (by decide +kernel), lkh]
theorem p4_c : (plF4 a b d c).lookup ("clock" : Str) = some c := by
  unfold plF4
  rw [lkn _ _ (by decide +kernel), lkn _ _ (by decide +kernel), lkn _ _ (by decide +kernel), lkh]
theorem p4_new : putF "clock" c (putF "settled" d (putF "wished" b (putF "pairs" a []))) = plF4 a b d c := by
  unfold plF4
  simp only [putF]
  rfl
theorem pl_new : putF "forest" f (plF4 a b d c) = plF a b d c f := by
  unfold plF4 plF
  simp only [putF]
  rfl
theorem p4_no {m : Str} (h1 : ¬ m = "pairs" := by decide +kernel) (h2 : ¬ m = "wished" := by decide +kernel) (h3 : ¬ m = "settled" := by decide +kernel) (h4 : ¬ m = "clock" := by decide +kernel) : (plF4 a b d c).lookup m = none := by
  unfold plF4
  rw [lkn _ _ h1, lkn _ _ h2, lkn _ _ h3, lkn _ _ h4]
  rfl
theorem p4_len : (plF4 a b d c).length < 1000 := show (4 : Nat) < 1000 by decide
end
theorem enI_at {α : Type} {ws : List α} {n : Nat} {x : Int × α} (h : (enI ws)[n]? = some x) : ∃ w, ws[n]? = some w ∧ x = ((n : Int), w) := by
  unfold enI at h
  rw [List.getElem?_mapIdx] at h
  cases q : ws[n]? with
  | none => rw [q] at h; cases h
  | some w =>
    rw [q] at h
    cases h
    exact ⟨w, rfl, rfl⟩
theorem zipIdx_take {α : Type} {ws : List α} {n : Nat} {w : α} (h : ws[n]? = some w) : (ws.take (n + 1)).zipIdx = (ws.take n).zipIdx ++ [(w, n)] := by
  have l := (List.getElem?_eq_some_iff.mp h).1
  rw [List.take_add_one, h, List.zipIdx_append]
  congr 1
  rw [List.length_take, show min n ws.length = n by omega]
  simp
theorem fix_len {ps ds : List (Int × Int)} (h : FixOk ps ds) : ds.length ≤ ps.length := by
  have := nodup_len (N := ps.length) h.2 fun k hk => by
    obtain ⟨q, hq, rfl⟩ := List.mem_map.mp hk
    exact (h.1 q hq).1
  rw [List.length_map] at this
  exact this
theorem edgesF_ok {ps : List (Int × Int)} {ws : List N3} {ds : List (Int × Int)} (h1 : PairsOk ps) (h2 : WishOk (ps.length : Nat) ws) (h3 : FixOk ps ds) : ∀ e ∈ edgesF ps ws ds, 0 ≤ e.b ∧ e.b < ((ps.length + 1 : Nat) : Int) ∧ 0 ≤ e.e ∧ e.e < ((ps.length + 1 : Nat) : Int) ∧ 1 ≤ e.m := fun e he => by
  have pos : ∀ i : Int, 0 ≤ i → i < (ps.length : Nat) → 1 ≤ (lineAt ps i).1 := fun i a b => (h1.2.1 _ (lineAt_at a b).2).1
  rcases List.mem_append.mp he with z | z
  · obtain ⟨q, hq, rfl⟩ := List.mem_map.mp z
    obtain ⟨⟨a, b⟩, ⟨c, d⟩, _⟩ := h2.2 q.1 (by
      have := List.mem_map_of_mem (f := Prod.fst) hq
      rw [List.zipIdx_map_fst] at this
      exact this)
    have p1 := pos _ a b
    have p2 := pos _ c d
    refine ⟨a, ?_, c, ?_, ?_⟩
    · show q.1.e < _
      omega
    · show q.1.a < _
      omega
    · show 1 ≤ (if (lineAt ps q.1.a).1 < (lineAt ps q.1.e).1 then (lineAt ps q.1.a).1 else (lineAt ps q.1.e).1)
      split <;> omega
  · obtain ⟨q, hq, rfl⟩ := List.mem_map.mp z
    obtain ⟨⟨a, b⟩, _⟩ := h3.1 q hq
    refine ⟨?_, ?_, a, ?_, pos _ a b⟩
    · show (0 : Int) ≤ (ps.length : Nat)
      omega
    · show ((ps.length : Nat) : Int) < _
      omega
    · show q.1 < _
      omega
theorem edgesF_len {ps : List (Int × Int)} {ws : List N3} {ds : List (Int × Int)} (h1 : PairsOk ps) (h2 : WishOk (ps.length : Nat) ws) (h3 : FixOk ps ds) : (edgesF ps ws ds).length ≤ 450 := by
  have a := h1.1.2
  have b := h2.1
  have c := fix_len h3
  unfold edgesF
  rw [List.length_append, List.length_map, List.length_zipIdx, List.length_map]
  omega
section
variable {C dx : Addr} {a b d c f : V}
theorem mp1 : MutO (.ins C dx (putF "pairs" a [])) := .inr (.inr (by rw [lookup_putF, if_pos rfl]; rfl))
theorem mp2 : MutO (.ins C dx (putF "wished" b (putF "pairs" a []))) := .inr (.inr (by rw [lookup_putF, if_neg (by decide +kernel), lookup_putF, if_pos rfl]; rfl))
theorem mp3 : MutO (.ins C dx (putF "settled" d (putF "wished" b (putF "pairs" a [])))) := .inr (.inr (by rw [lookup_putF, if_neg (by decide +kernel), lookup_putF, if_neg (by decide +kernel), lookup_putF, if_pos rfl]; rfl))
theorem mp4 : MutO (.ins C dx (plF4 a b d c)) := .inr (.inr (by rw [p4_p]; rfl))
end
theorem rd_lis {α : Type} [Rep α] {K : Frag} {M : Addr → Prop} {H : Hp} {v : V} {Q : VK} {xs : List α} (al : Alloc M H) (h : rp K (Fr M H) v xs) (k : ∀ v H', Same H H' → rp K (Fr M H') v xs → Q v H') :
    sqc (fun xs H Q => ∃ p ys, xs = [V.ref p] ∧ (SqL K H p ys ∨ SqT K H p ys) ∧ ∀ l, H l = none → Q (V.ref l) (upd H l (.lst ys))) [v] H Q := by
  rw [sqc_eq]
  obtain ⟨p, vs, rfl, e, pd⟩ := h
  refine ⟨p, vs, rfl, .inl (SqL.of (Fr.sub _ _ e)), fun l hl => ?_⟩
  have s := Same.new (o := .lst vs) hl
  exact k _ _ s ⟨l, vs, rfl, Fr.get (al.new hl) upd_same, L2.Paired.mapP pd fun _ _ q => Rep.up (Fr.same s) q⟩
/-! ### a method called in a try: the slots at the raise are those at the call -/
def tMethA (C : Addr) (m : Str) (sp : Sp) (E : L2.St → XK) (ta : TE) (t : TA) : TE := fun σ H Q => ta σ H fun x H1 => ∃ a dx fs, x = .ref a ∧ H1 a = some (.ins C dx fs) ∧ fs.lookup m = none ∧ t σ H1 fun vs H2 => sp (x :: vs) H2 Q (E σ)
theorem pe_methA {X : Cx} {o e : Expr} {es : List Expr} {ta : TE} {t : TA} {m : Str} {apos pos : Pos} {C f : Addr} {fd : FuncData} {ps : List Str} {k : Nat} {sp : Sp} {E : L2.St → XK} {pl : Sem Bool} (he : PE X o ta) (c : Cls X.K C) (hm : Meth X.K C m f) (F : FnOk X.prog X.w X.K X.mg X.base (L2.CX X.prog X.w) k f fd ps sp) (hr : Room k X.A) (hb : L2.Binds X.K fd ps []) (hx : ∀ σ, L2.PassesAt (L2.CX X.prog X.w) X σ (E σ)) (ha : PA X (e :: es) t)
    (hst : starEach (e :: es) X.env = (false, eval e X.env) :: starEach es X.env := by rfl) (hpl : (backTo pos (starEach es X.env)).any (·.1) = false := by rfl)
    (ht : eval (.Call (.Attribute o m apos) (e :: es) [] pos) X.env = (do
      let ov ← eval o X.env
      standAt apos.atName
      let (f, first) ← holding [ov] (getMethod ov m pl)
      callWith pos f first (backTo pos (starEach (e :: es) X.env)) (backToKw pos (keywordEach [] X.env))) := by rfl) :
    PE X (.Call (.Attribute o m apos) (e :: es) [] pos) (tMethA C m sp E ta t) := by
  refine ⟨fun pins s σ H Q I h => ?_⟩
  refine PySem.W.methodCall_KW (pl := pl) (thn (he.run pins s σ H _ I h) fun u s1 ⟨x, H1, I1, rx, a, dx, fs, ex, ea, l, q⟩ => ?_) ht
  subst ex
  obtain rfl : u = Value.ref a := rx
  refine getmeth_ok I1 ea c hm l ?_
  refine PySem.W.callWith_K (first := [.ref a]) (h₀ := X.base) I.ok.mod.kin hm.kp (thn (ha.run pos pins s1 σ H1 _ I1 q) fun us s2 ⟨vs, H2, I2, r, q2⟩ => ⟨I2.kIn, ?_⟩) hst hpl
  exact L2.run_fnS (us := .ref a :: us) (vs := .ref a :: vs) F hr hb (hx σ) I2 (.cons rfl r) q2
/-- a statement whose reading is not laid open -/
@[irreducible] def tBox (t : TS) : TS := t
theorem tBox_eq (t : TS) : tBox t = t := by
  unfold tBox
  rfl
theorem ps_box {X : Cx} {st : Stmt} {t : TS} (h : L2.PS X st t) : L2.PS X st (tBox t) := by
  rw [tBox_eq]
  exact h
theorem boxI {t : TS} {D : Ends} {σ : L2.St} {H : Hp} (h : t D σ H) : tBox t D σ H := by
  rw [tBox_eq]
  exact h
end Fw

namespace Fw
/-- what two ways share: the goal after them, found by the first that comes to it (apply share) -/
theorem share {P G : Prop} (f : P → G) (p : P) : G := f p
/-- the same, where the ways bring their own value and heap; the first way must bring variables -/
theorem share2 {α β : Type} {P : α → β → Prop} {G : Prop} (R : α → β → Prop) (f : (∀ a b, R a b → P a b) → G) (p : ∀ a b, R a b → P a b) : G := f p
open PySem PySem.Spec PyProof.Rows L2
open He (ga)
/-- isinstance against a class of the program -/
def cKit (x y : Str) (b : Bool) : Ck := fun K => decide (PySem.W.kitOne K (.ref (ga K x)) (.ref (ga K y)) = some b)
theorem kit_of {K : Frag} {x y : Str} {b : Bool} (c : cKit x y b K = true) : PySem.W.kitOne K (.ref (ga K x)) (.ref (ga K y)) = some b := of_decide_eq_true c
/-- type(an instance) is asked for as for any object -/
def cTyp (x : Str) : Ck := fun K => He.eqO (PySem.W.findIn K (.ref (ga K x)) "__class__") (some (some (.builtin "object.__class__"))) && (He.eqO (PySem.W.specialIn K (.builtin "object.__class__") "__get__") (some (some (.builtin "getset_descriptor.__get__"))) &&
  (decide (PySem.W.takesIn K (.builtin "object.__class__") = some true) && decide (PySem.W.mroIn K (ga K x) (.type "object") = some true)))
structure Typ (K : Frag) (C : Addr) : Prop where
  ha : PySem.W.findIn K (.ref C) "__class__" = some (some (.builtin "object.__class__"))
  hn : PySem.W.specialIn K (.builtin "object.__class__") "__get__" = some (some (.builtin "getset_descriptor.__get__"))
  tk : PySem.W.takesIn K (.builtin "object.__class__") = some true
  hm : PySem.W.mroIn K C (.type "object") = some true
theorem typ_of {K : Frag} {x : Str} (c : cTyp x K = true) : Typ K (ga K x) := by
  obtain ⟨c1, c⟩ := Bool.and_eq_true_iff.mp c
  obtain ⟨c2, c⟩ := Bool.and_eq_true_iff.mp c
  obtain ⟨c3, c4⟩ := Bool.and_eq_true_iff.mp c
  exact ⟨He.eqO_ok c1, He.eqO_ok c2, of_decide_eq_true c3, of_decide_eq_true c4⟩
theorem Typ.line {K : Frag} {H : Hp} {a : Addr} {k : LK} {n : N3} (t : Typ K (cA K k)) (L : LnF K) (h : LnAt K H a k n) : TyX K H (.ref a) (.ref (cA K k)) := by
  obtain ⟨dx, e⟩ := h
  exact .base (.ins e (L.cls k) t.ha t.hn t.tk t.hm)
theorem kn_inj {j k : LK} (h : kn j = kn k) : j = k := by
  cases j <;> cases k <;> first | rfl | exact absurd h (by decide +kernel)
theorem kn_walk {k : LK} (h : V.str (kn k) = V.str ("walk" : Str)) : k = .walk := kn_inj (V.str.inj h)
theorem kn_stop {k : LK} (h : V.str (kn k) = V.str ("stop" : Str)) : k = .stop := kn_inj (V.str.inj h)
end Fw

namespace My
open PySem PySem.Spec PyProof.Rows L2 Fw
open He (ga ma)
open Rep (rp)
abbrev PP : Program := PySem.Challenge.pw_onwardlines_k54_full_nets
def top (i : Nat) : Stmt := PySem.Challenge.pw_onwardlines_k54_full_nets.main.body.getD i (.Pass ⟨0, 0, 0, 0⟩)
abbrev s_is_whole : Stmt := top 11
abbrev s_is_below : Stmt := top 12
abbrev s_is_pair : Stmt := top 13
abbrev s_do_fit : Stmt := top 14
abbrev s_are_planned : Stmt := top 15
abbrev s_is_wish : Stmt := top 16
abbrev s_are_wishes : Stmt := top 17
abbrev s_is_fixed : Stmt := top 18
abbrev s_are_fixed : Stmt := top 19
abbrev s_Edge_init : Stmt := inClass (top 20) 0
abbrev s_Forest_take : Stmt := inClass (top 21) 1
abbrev s_Forest_reached : Stmt := inClass (top 21) 2
abbrev s_Forest_init : Stmt := inClass (top 21) 0
abbrev s_Plan_edges : Stmt := inClass (top 22) 1
abbrev s_Plan_init : Stmt := inClass (top 22) 0
abbrev s_is_number_from : Stmt := top 26
abbrev s_State_init : Stmt := inClass (top 27) 0
abbrev s_Net_init : Stmt := inClass (top 28) 0
abbrev s_Net_present : Stmt := inClass (top 28) 1
abbrev s_Net_need_line : Stmt := inClass (top 28) 2
abbrev s_Net_lines : Stmt := inClass (top 28) 8
abbrev s_Net_wishes : Stmt := inClass (top 28) 9
abbrev s_Net_fixed : Stmt := inClass (top 28) 10
abbrev s_Net_len : Stmt := inClass (top 28) 14
abbrev s_Net_add : Stmt := inClass (top 28) 3
abbrev s_Net_wish : Stmt := inClass (top 28) 4
abbrev s_Net_fix : Stmt := inClass (top 28) 5
abbrev s_Net_drop : Stmt := inClass (top 28) 6
abbrev s_Net_undo : Stmt := inClass (top 28) 11
abbrev s_Net_twin : Stmt := inClass (top 28) 15
abbrev s__law_tank : Stmt := top 30
abbrev s__law_sip : Stmt := top 31
abbrev s__law_blank : Stmt := top 32
abbrev s__law_seen : Stmt := top 33
abbrev s__law_due : Stmt := top 34
abbrev s__law_put : Stmt := top 36
abbrev s__law_same : Stmt := top 35
abbrev s_Net_plan : Stmt := inClass (top 28) 7
abbrev s__law_refused : Stmt := top 37
abbrev s__law_undone : Stmt := top 39
abbrev s__law_first_right : Stmt := top 38
abbrev s_law : Stmt := top 40
theorem sc_is_whole : FnScope ["thing", "least"] ["thing", "least"] (defScope s_is_whole) := ⟨rfl, rfl, rfl, by decide +kernel, rfl, by decide +kernel, by decide +kernel⟩
theorem sc_is_below : FnScope ["thing", "limit"] ["thing", "limit"] (defScope s_is_below) := ⟨rfl, rfl, rfl, by decide +kernel, rfl, by decide +kernel, by decide +kernel⟩
theorem sc_is_pair : FnScope ["thing", "least"] ["thing", "least"] (defScope s_is_pair) := ⟨rfl, rfl, rfl, by decide +kernel, rfl, by decide +kernel, by decide +kernel⟩
theorem sc_do_fit : FnScope ["headways", "ordered", "one", "other"] ["headways"] (defScope s_do_fit) := ⟨rfl, rfl, rfl, by decide +kernel, rfl, by decide +kernel, by decide +kernel⟩
theorem sc_are_planned : FnScope ["thing", "pair", "every", "ride"] ["thing"] (defScope s_are_planned) := ⟨rfl, rfl, rfl, by decide +kernel, rfl, by decide +kernel, by decide +kernel⟩
theorem sc_is_wish : FnScope ["many", "thing"] ["many", "thing"] (defScope s_is_wish) := ⟨rfl, rfl, rfl, by decide +kernel, rfl, by decide +kernel, by decide +kernel⟩
theorem sc_are_wishes : FnScope ["many", "thing", "wish"] ["many", "thing"] (defScope s_are_wishes) := ⟨rfl, rfl, rfl, by decide +kernel, rfl, by decide +kernel, by decide +kernel⟩
theorem sc_is_fixed : FnScope ["pairs", "thing"] ["pairs", "thing"] (defScope s_is_fixed) := ⟨rfl, rfl, rfl, by decide +kernel, rfl, by decide +kernel, by decide +kernel⟩
theorem sc_are_fixed : FnScope ["pairs", "thing", "line", "at", "one"] ["pairs", "thing"] (defScope s_are_fixed) := ⟨rfl, rfl, rfl, by decide +kernel, rfl, by decide +kernel, by decide +kernel⟩
theorem sc_Edge_init : FnScope ["self", "number", "begin", "end", "shift", "modulus"] ["self", "number", "begin", "end", "shift", "modulus"] (defScope s_Edge_init) := ⟨rfl, rfl, rfl, by decide +kernel, rfl, by decide +kernel, by decide +kernel⟩
theorem sc_Forest_take : FnScope ["self", "edge", "row"] ["self", "edge"] (defScope s_Forest_take) := ⟨rfl, rfl, rfl, by decide +kernel, rfl, by decide +kernel, by decide +kernel⟩
theorem sc_Forest_reached : FnScope ["self", "start", "found", "waiting", "here", "shift", "modulus", "way", "edge", "forward", "there", "least"] ["self", "start"] (defScope s_Forest_reached) := ⟨rfl, rfl, rfl, by decide +kernel, rfl, by decide +kernel, by decide +kernel⟩
theorem sc_Forest_init : FnScope ["self", "many", "edges", "edge", "known", "line"] ["self", "many", "edges"] (defScope s_Forest_init) := ⟨rfl, rfl, rfl, by decide +kernel, rfl, by decide +kernel, by decide +kernel⟩
theorem sc_Plan_edges : FnScope ["self", "found", "number", "i", "j", "walk", "line", "at"] ["self"] (defScope s_Plan_edges) := ⟨rfl, rfl, rfl, by decide +kernel, rfl, by decide +kernel, by decide +kernel⟩
theorem sc_Plan_init : FnScope ["self", "lines", "wishes", "fixed"] ["self", "lines", "wishes", "fixed"] (defScope s_Plan_init) := ⟨rfl, rfl, rfl, by decide +kernel, rfl, by decide +kernel, by decide +kernel⟩
theorem sc_is_number_from : FnScope ["thing", "least"] ["thing", "least"] (defScope s_is_number_from) := ⟨rfl, rfl, rfl, by decide +kernel, rfl, by decide +kernel, by decide +kernel⟩
theorem sc_State_init : FnScope ["self", "lines", "wishes", "fixed"] ["self", "lines", "wishes", "fixed"] (defScope s_State_init) := ⟨rfl, rfl, rfl, by decide +kernel, rfl, by decide +kernel, by decide +kernel⟩
theorem sc_Net_init : FnScope ["self"] ["self"] (defScope s_Net_init) := ⟨rfl, rfl, rfl, by decide +kernel, rfl, by decide +kernel, by decide +kernel⟩
theorem sc_Net_present : FnScope ["self"] ["self"] (defScope s_Net_present) := ⟨rfl, rfl, rfl, by decide +kernel, rfl, by decide +kernel, by decide +kernel⟩
theorem sc_Net_need_line : FnScope ["self", "index"] ["self", "index"] (defScope s_Net_need_line) := ⟨rfl, rfl, rfl, by decide +kernel, rfl, by decide +kernel, by decide +kernel⟩
theorem sc_Net_lines : FnScope ["self"] ["self"] (defScope s_Net_lines) := ⟨rfl, rfl, rfl, by decide +kernel, rfl, by decide +kernel, by decide +kernel⟩
theorem sc_Net_wishes : FnScope ["self"] ["self"] (defScope s_Net_wishes) := ⟨rfl, rfl, rfl, by decide +kernel, rfl, by decide +kernel, by decide +kernel⟩
theorem sc_Net_fixed : FnScope ["self"] ["self"] (defScope s_Net_fixed) := ⟨rfl, rfl, rfl, by decide +kernel, rfl, by decide +kernel, by decide +kernel⟩
theorem sc_Net_len : FnScope ["self"] ["self"] (defScope s_Net_len) := ⟨rfl, rfl, rfl, by decide +kernel, rfl, by decide +kernel, by decide +kernel⟩
theorem sc_Net_add : FnScope ["self", "every", "ride", "now", "headway", "other_ride"] ["self", "every", "ride"] (defScope s_Net_add) := ⟨rfl, rfl, rfl, by decide +kernel, rfl, by decide +kernel, by decide +kernel⟩
theorem sc_Net_wish : FnScope ["self", "i", "j", "walk", "now"] ["self", "i", "j", "walk"] (defScope s_Net_wish) := ⟨rfl, rfl, rfl, by decide +kernel, rfl, by decide +kernel, by decide +kernel⟩
theorem sc_Net_fix : FnScope ["self", "i", "at", "now", "number", "departure"] ["self", "i", "at"] (defScope s_Net_fix) := ⟨rfl, rfl, rfl, by decide +kernel, rfl, by decide +kernel, by decide +kernel⟩
theorem sc_Net_drop : FnScope ["self", "index", "now", "rest"] ["self", "index"] (defScope s_Net_drop) := ⟨rfl, rfl, rfl, by decide +kernel, rfl, by decide +kernel, by decide +kernel⟩
theorem sc_Net_undo : FnScope ["self", "many"] ["self"] (defScope s_Net_undo) := ⟨rfl, rfl, rfl, by decide +kernel, rfl, by decide +kernel, by decide +kernel⟩
theorem sc_Net_twin : FnScope ["self", "other"] ["self"] (defScope s_Net_twin) := ⟨rfl, rfl, rfl, by decide +kernel, rfl, by decide +kernel, by decide +kernel⟩
theorem sc__law_tank : FnScope ["script", "mix", "cell"] ["script"] (defScope s__law_tank) := ⟨rfl, rfl, rfl, by decide +kernel, rfl, by decide +kernel, by decide +kernel⟩
theorem sc__law_sip : FnScope ["tank", "many", "found", "mix"] ["tank", "many"] (defScope s__law_sip) := ⟨rfl, rfl, rfl, by decide +kernel, rfl, by decide +kernel, by decide +kernel⟩
theorem sc__law_blank : FnScope [] [] (defScope s__law_blank) := ⟨rfl, rfl, rfl, by decide +kernel, rfl, by decide +kernel, by decide +kernel⟩
theorem sc__law_seen : FnScope ["net"] ["net"] (defScope s__law_seen) := ⟨rfl, rfl, rfl, by decide +kernel, rfl, by decide +kernel, by decide +kernel⟩
theorem sc__law_due : FnScope ["own", "now"] ["own"] (defScope s__law_due) := ⟨rfl, rfl, rfl, by decide +kernel, rfl, by decide +kernel, by decide +kernel⟩
theorem sc__law_put : FnScope ["own", "some", "wants", "fast"] ["own", "some", "wants", "fast"] (defScope s__law_put) := ⟨rfl, rfl, rfl, by decide +kernel, rfl, by decide +kernel, by decide +kernel⟩
theorem sc__law_same : FnScope ["net", "own", "told", "due", "part"] ["net", "own"] (defScope s__law_same) := ⟨rfl, rfl, rfl, by decide +kernel, rfl, by decide +kernel, by decide +kernel⟩
theorem sc_Net_plan : FnScope ["self", "now"] ["self"] (defScope s_Net_plan) := ⟨rfl, rfl, rfl, by decide +kernel, rfl, by decide +kernel, by decide +kernel⟩
theorem sc__law_refused : FnScope ["net", "door", "headway"] ["net", "door", "headway"] (defScope s__law_refused) := ⟨rfl, rfl, rfl, by decide +kernel, rfl, by decide +kernel, by decide +kernel⟩
theorem sc__law_undone : FnScope ["net", "many", "turn"] ["net", "many"] (defScope s__law_undone) := ⟨rfl, rfl, rfl, by decide +kernel, rfl, by decide +kernel, by decide +kernel⟩
theorem sc__law_first_right : FnScope ["net", "found", "door"] ["net"] (defScope s__law_first_right) := ⟨rfl, rfl, rfl, by decide +kernel, rfl, by decide +kernel, by decide +kernel⟩
theorem sc_law : FnScope ["script", "tank", "net", "own", "chain", "turn", "headway", "far", "twin", "rows", "spot", "leave", "fast", "want", "wants", "other"] ["script"] (defScope s_law) := ⟨rfl, rfl, rfl, by decide +kernel, rfl, by decide +kernel, by decide +kernel⟩
def cks : List Ck := ([cFree "abs", cFree "all", cFree "bool", cFree "dict", cFree "enumerate", cFree "int", cFree "isinstance", cFree "len", cFree "list", cFree "min", cFree "range", cFree "repr", cFree "sorted", cFree "tuple", cFree "zip", cInt "MOST_LINES" (40), cInt "MOST_PLANNED" (40), cInt "MOST_WISHES_net" (80), cInt "MOST_WISHES_plans" (80), cGlo "is_whole", cGlo "is_below", cGlo "is_pair", cGlo "do_fit", cGlo "are_planned", cGlo "is_wish", cGlo "are_wishes", cGlo "is_fixed", cGlo "are_fixed", cGlo "is_number_from", cGlo "_law_tank"] : List Ck) ++ ([cGlo "_law_sip", cGlo "_law_blank", cGlo "_law_seen", cGlo "_law_due", cGlo "_law_put", cGlo "_law_same", cGlo "_law_refused", cGlo "_law_undone", cGlo "_law_first_right", cGlo "law", cGlo "State", cCls "State", cMkr "State", cNoat "State" "all_lines", cNoat "State" "all_wishes", cNoat "State" "all_fixed", cGlo "Net", cCls "Net", cMkr "Net", cLenOf "Net", cNoat "Net" "states", cNoat "Net" "marks", cMeth "Net" "add", cMeth "Net" "drop", cMeth "Net" "fix", cMeth "Net" "fixed", cMeth "Net" "lines", cMeth "Net" "need_line", cMeth "Net" "plan", cMeth "Net" "present"] : List Ck) ++ ([cMeth "Net" "twin", cMeth "Net" "undo", cMeth "Net" "wish", cMeth "Net" "wishes", cGlo "Edge", cCls "Edge", cMkr "Edge", cNoat "Edge" "number", cNoat "Edge" "begin", cNoat "Edge" "end", cNoat "Edge" "shift", cNoat "Edge" "modulus", cGlo "Forest", cCls "Forest", cMkr "Forest", cNoat "Forest" "near", cNoat "Forest" "chosen", cNoat "Forest" "torn", cMeth "Forest" "reached", cMeth "Forest" "take", cGlo "Plan", cCls "Plan", cMkr "Plan", cNoat "Plan" "pairs", cNoat "Plan" "wished", cNoat "Plan" "settled", cNoat "Plan" "clock", cNoat "Plan" "forest", cMeth "Plan" "edges", cErr "NothingToUndo"] : List Ck) ++ ([cErr "InvalidIndex", cErr "InvalidWishes", cErr "InvalidFixed", cErr "InvalidLine", cGlo "HeadwayError", cGlo "InvalidFixed", cGlo "InvalidIndex", cGlo "InvalidLine", cGlo "InvalidWishes", cGlo "NothingToUndo", cExm "InvalidWishes" "InvalidWishes" true, cExm "NothingToUndo" "NothingToUndo" true, cExm "InvalidLine" "InvalidLine" true, cExm "InvalidIndex" "InvalidLine" false, cExm "InvalidIndex" "InvalidIndex" true] : List Ck)
def fns : List DefM := ([⟨fun K => ga K "is_whole", "is_whole", "is_whole", s_is_whole, []⟩, ⟨fun K => ga K "is_below", "is_below", "is_below", s_is_below, []⟩, ⟨fun K => ga K "is_pair", "is_pair", "is_pair", s_is_pair, []⟩, ⟨fun K => ga K "do_fit", "do_fit", "do_fit", s_do_fit, []⟩, ⟨fun K => ga K "are_planned", "are_planned", "are_planned", s_are_planned, []⟩, ⟨fun K => ga K "is_wish", "is_wish", "is_wish", s_is_wish, []⟩, ⟨fun K => ga K "are_wishes", "are_wishes", "are_wishes", s_are_wishes, []⟩, ⟨fun K => ga K "is_fixed", "is_fixed", "is_fixed", s_is_fixed, []⟩, ⟨fun K => ga K "are_fixed", "are_fixed", "are_fixed", s_are_fixed, []⟩, ⟨fun K => ma K (ga K "Edge") "__init__", "__init__", "Edge.__init__", s_Edge_init, []⟩, ⟨fun K => ma K (ga K "Forest") "take", "take", "Forest.take", s_Forest_take, []⟩, ⟨fun K => ma K (ga K "Forest") "reached", "reached", "Forest.reached", s_Forest_reached, []⟩, ⟨fun K => ma K (ga K "Forest") "__init__", "__init__", "Forest.__init__", s_Forest_init, []⟩, ⟨fun K => ma K (ga K "Plan") "edges", "edges", "Plan.edges", s_Plan_edges, []⟩, ⟨fun K => ma K (ga K "Plan") "__init__", "__init__", "Plan.__init__", s_Plan_init, []⟩] : List DefM) ++ ([⟨fun K => ga K "is_number_from", "is_number_from", "is_number_from", s_is_number_from, []⟩, ⟨fun K => ma K (ga K "State") "__init__", "__init__", "State.__init__", s_State_init, []⟩, ⟨fun K => ma K (ga K "Net") "__init__", "__init__", "Net.__init__", s_Net_init, []⟩, ⟨fun K => ma K (ga K "Net") "present", "present", "Net.present", s_Net_present, []⟩, ⟨fun K => ma K (ga K "Net") "need_line", "need_line", "Net.need_line", s_Net_need_line, []⟩, ⟨fun K => ma K (ga K "Net") "lines", "lines", "Net.lines", s_Net_lines, []⟩, ⟨fun K => ma K (ga K "Net") "wishes", "wishes", "Net.wishes", s_Net_wishes, []⟩, ⟨fun K => ma K (ga K "Net") "fixed", "fixed", "Net.fixed", s_Net_fixed, []⟩, ⟨fun K => ma K (ga K "Net") "__len__", "__len__", "Net.__len__", s_Net_len, []⟩, ⟨fun K => ma K (ga K "Net") "add", "add", "Net.add", s_Net_add, []⟩, ⟨fun K => ma K (ga K "Net") "wish", "wish", "Net.wish", s_Net_wish, []⟩, ⟨fun K => ma K (ga K "Net") "fix", "fix", "Net.fix", s_Net_fix, []⟩, ⟨fun K => ma K (ga K "Net") "drop", "drop", "Net.drop", s_Net_drop, []⟩, ⟨fun K => ma K (ga K "Net") "undo", "undo", "Net.undo", s_Net_undo, []⟩, ⟨fun K => ma K (ga K "Net") "twin", "twin", "Net.twin", s_Net_twin, []⟩] : List DefM) ++ ([⟨fun K => ga K "_law_tank", "_law_tank", "_law_tank", s__law_tank, []⟩, ⟨fun K => ga K "_law_sip", "_law_sip", "_law_sip", s__law_sip, []⟩, ⟨fun K => ga K "_law_blank", "_law_blank", "_law_blank", s__law_blank, []⟩, ⟨fun K => ga K "_law_seen", "_law_seen", "_law_seen", s__law_seen, []⟩, ⟨fun K => ga K "_law_due", "_law_due", "_law_due", s__law_due, []⟩, ⟨fun K => ga K "_law_put", "_law_put", "_law_put", s__law_put, []⟩, ⟨fun K => ga K "_law_same", "_law_same", "_law_same", s__law_same, []⟩, ⟨fun K => ma K (ga K "Net") "plan", "plan", "Net.plan", s_Net_plan, []⟩, ⟨fun K => ga K "_law_refused", "_law_refused", "_law_refused", s__law_refused, []⟩, ⟨fun K => ga K "_law_undone", "_law_undone", "_law_undone", s__law_undone, []⟩, ⟨fun K => ga K "_law_first_right", "_law_first_right", "_law_first_right", s__law_first_right, []⟩, ⟨fun K => ga K "law", "law", "law", s_law, []⟩] : List DefM)
section
variable {K : Frag} {mg : Str → Option Value}
theorem n_abs (Z : Zs cks fns K mg) : mg "abs" = none := Z.free (Z.c 0)
theorem n_all (Z : Zs cks fns K mg) : mg "all" = none := Z.free (Z.c 1)
theorem n_bool (Z : Zs cks fns K mg) : mg "bool" = none := Z.free (Z.c 2)
theorem n_dict (Z : Zs cks fns K mg) : mg "dict" = none := Z.free (Z.c 3)
theorem n_enumerate (Z : Zs cks fns K mg) : mg "enumerate" = none := Z.free (Z.c 4)
theorem n_int (Z : Zs cks fns K mg) : mg "int" = none := Z.free (Z.c 5)
theorem n_isinstance (Z : Zs cks fns K mg) : mg "isinstance" = none := Z.free (Z.c 6)
theorem n_len (Z : Zs cks fns K mg) : mg "len" = none := Z.free (Z.c 7)
theorem n_list (Z : Zs cks fns K mg) : mg "list" = none := Z.free (Z.c 8)
theorem n_min (Z : Zs cks fns K mg) : mg "min" = none := Z.free (Z.c 9)
theorem n_range (Z : Zs cks fns K mg) : mg "range" = none := Z.free (Z.c 10)
theorem n_repr (Z : Zs cks fns K mg) : mg "repr" = none := Z.free (Z.c 11)
theorem n_sorted (Z : Zs cks fns K mg) : mg "sorted" = none := Z.free (Z.c 12)
theorem n_tuple (Z : Zs cks fns K mg) : mg "tuple" = none := Z.free (Z.c 13)
theorem n_zip (Z : Zs cks fns K mg) : mg "zip" = none := Z.free (Z.c 14)
theorem i_MOST_LINES (Z : Zs cks fns K mg) : ∃ u, mg "MOST_LINES" = some u ∧ RelV (.int (40)) u := Z.int (Z.c 15)
theorem i_MOST_PLANNED (Z : Zs cks fns K mg) : ∃ u, mg "MOST_PLANNED" = some u ∧ RelV (.int (40)) u := Z.int (Z.c 16)
theorem i_MOST_WISHES_net (Z : Zs cks fns K mg) : ∃ u, mg "MOST_WISHES_net" = some u ∧ RelV (.int (80)) u := Z.int (Z.c 17)
theorem i_MOST_WISHES_plans (Z : Zs cks fns K mg) : ∃ u, mg "MOST_WISHES_plans" = some u ∧ RelV (.int (80)) u := Z.int (Z.c 18)
theorem g_is_whole (Z : Zs cks fns K mg) : mg "is_whole" = some (.ref (ga K "is_whole")) := Z.glo (Z.c 19)
theorem u_is_whole (Z : Zs cks fns K mg) : Fun K "is_whole" "is_whole" s_is_whole (ga K "is_whole") (fdAt K (ga K "is_whole")) := Z.f 0
theorem b_is_whole (Z : Zs cks fns K mg) : L2.Binds K (fdAt K (ga K "is_whole")) ["thing", "least"] [] := (u_is_whole Z).binds (ps := ["thing", "least"]) fun _ _ _ _ _ _ us hl => match us, hl with | [_, _], _ => rfl
theorem g_is_below (Z : Zs cks fns K mg) : mg "is_below" = some (.ref (ga K "is_below")) := Z.glo (Z.c 20)
theorem u_is_below (Z : Zs cks fns K mg) : Fun K "is_below" "is_below" s_is_below (ga K "is_below") (fdAt K (ga K "is_below")) := Z.f 1
theorem b_is_below (Z : Zs cks fns K mg) : L2.Binds K (fdAt K (ga K "is_below")) ["thing", "limit"] [] := (u_is_below Z).binds (ps := ["thing", "limit"]) fun _ _ _ _ _ _ us hl => match us, hl with | [_, _], _ => rfl
theorem g_is_pair (Z : Zs cks fns K mg) : mg "is_pair" = some (.ref (ga K "is_pair")) := Z.glo (Z.c 21)
theorem u_is_pair (Z : Zs cks fns K mg) : Fun K "is_pair" "is_pair" s_is_pair (ga K "is_pair") (fdAt K (ga K "is_pair")) := Z.f 2
theorem b_is_pair (Z : Zs cks fns K mg) : L2.Binds K (fdAt K (ga K "is_pair")) ["thing", "least"] [] := (u_is_pair Z).binds (ps := ["thing", "least"]) fun _ _ _ _ _ _ us hl => match us, hl with | [_, _], _ => rfl
theorem g_do_fit (Z : Zs cks fns K mg) : mg "do_fit" = some (.ref (ga K "do_fit")) := Z.glo (Z.c 22)
theorem u_do_fit (Z : Zs cks fns K mg) : Fun K "do_fit" "do_fit" s_do_fit (ga K "do_fit") (fdAt K (ga K "do_fit")) := Z.f 3
theorem b_do_fit (Z : Zs cks fns K mg) : L2.Binds K (fdAt K (ga K "do_fit")) ["headways"] [] := (u_do_fit Z).binds (ps := ["headways"]) fun _ _ _ _ _ _ us hl => match us, hl with | [_], _ => rfl
theorem g_are_planned (Z : Zs cks fns K mg) : mg "are_planned" = some (.ref (ga K "are_planned")) := Z.glo (Z.c 23)
theorem u_are_planned (Z : Zs cks fns K mg) : Fun K "are_planned" "are_planned" s_are_planned (ga K "are_planned") (fdAt K (ga K "are_planned")) := Z.f 4
theorem b_are_planned (Z : Zs cks fns K mg) : L2.Binds K (fdAt K (ga K "are_planned")) ["thing"] [] := (u_are_planned Z).binds (ps := ["thing"]) fun _ _ _ _ _ _ us hl => match us, hl with | [_], _ => rfl
theorem g_is_wish (Z : Zs cks fns K mg) : mg "is_wish" = some (.ref (ga K "is_wish")) := Z.glo (Z.c 24)
theorem u_is_wish (Z : Zs cks fns K mg) : Fun K "is_wish" "is_wish" s_is_wish (ga K "is_wish") (fdAt K (ga K "is_wish")) := Z.f 5
theorem b_is_wish (Z : Zs cks fns K mg) : L2.Binds K (fdAt K (ga K "is_wish")) ["many", "thing"] [] := (u_is_wish Z).binds (ps := ["many", "thing"]) fun _ _ _ _ _ _ us hl => match us, hl with | [_, _], _ => rfl
theorem g_are_wishes (Z : Zs cks fns K mg) : mg "are_wishes" = some (.ref (ga K "are_wishes")) := Z.glo (Z.c 25)
theorem u_are_wishes (Z : Zs cks fns K mg) : Fun K "are_wishes" "are_wishes" s_are_wishes (ga K "are_wishes") (fdAt K (ga K "are_wishes")) := Z.f 6
theorem b_are_wishes (Z : Zs cks fns K mg) : L2.Binds K (fdAt K (ga K "are_wishes")) ["many", "thing"] [] := (u_are_wishes Z).binds (ps := ["many", "thing"]) fun _ _ _ _ _ _ us hl => match us, hl with | [_, _], _ => rfl
theorem g_is_fixed (Z : Zs cks fns K mg) : mg "is_fixed" = some (.ref (ga K "is_fixed")) := Z.glo (Z.c 26)
theorem u_is_fixed (Z : Zs cks fns K mg) : Fun K "is_fixed" "is_fixed" s_is_fixed (ga K "is_fixed") (fdAt K (ga K "is_fixed")) := Z.f 7
theorem b_is_fixed (Z : Zs cks fns K mg) : L2.Binds K (fdAt K (ga K "is_fixed")) ["pairs", "thing"] [] := (u_is_fixed Z).binds (ps := ["pairs", "thing"]) fun _ _ _ _ _ _ us hl => match us, hl with | [_, _], _ => rfl
theorem g_are_fixed (Z : Zs cks fns K mg) : mg "are_fixed" = some (.ref (ga K "are_fixed")) := Z.glo (Z.c 27)
theorem u_are_fixed (Z : Zs cks fns K mg) : Fun K "are_fixed" "are_fixed" s_are_fixed (ga K "are_fixed") (fdAt K (ga K "are_fixed")) := Z.f 8
theorem b_are_fixed (Z : Zs cks fns K mg) : L2.Binds K (fdAt K (ga K "are_fixed")) ["pairs", "thing"] [] := (u_are_fixed Z).binds (ps := ["pairs", "thing"]) fun _ _ _ _ _ _ us hl => match us, hl with | [_, _], _ => rfl
theorem u_Edge_init (Z : Zs cks fns K mg) : Fun K "__init__" "Edge.__init__" s_Edge_init (ma K (ga K "Edge") "__init__") (fdAt K (ma K (ga K "Edge") "__init__")) := Z.f 9
theorem b_Edge_init (Z : Zs cks fns K mg) : L2.Binds K (fdAt K (ma K (ga K "Edge") "__init__")) ["self", "number", "begin", "end", "shift", "modulus"] [] := (u_Edge_init Z).binds (ps := ["self", "number", "begin", "end", "shift", "modulus"]) fun _ _ _ _ _ _ us hl => match us, hl with | [_, _, _, _, _, _], _ => rfl
theorem u_Forest_take (Z : Zs cks fns K mg) : Fun K "take" "Forest.take" s_Forest_take (ma K (ga K "Forest") "take") (fdAt K (ma K (ga K "Forest") "take")) := Z.f 10
theorem b_Forest_take (Z : Zs cks fns K mg) : L2.Binds K (fdAt K (ma K (ga K "Forest") "take")) ["self", "edge"] [] := (u_Forest_take Z).binds (ps := ["self", "edge"]) fun _ _ _ _ _ _ us hl => match us, hl with | [_, _], _ => rfl
theorem u_Forest_reached (Z : Zs cks fns K mg) : Fun K "reached" "Forest.reached" s_Forest_reached (ma K (ga K "Forest") "reached") (fdAt K (ma K (ga K "Forest") "reached")) := Z.f 11
theorem b_Forest_reached (Z : Zs cks fns K mg) : L2.Binds K (fdAt K (ma K (ga K "Forest") "reached")) ["self", "start"] [] := (u_Forest_reached Z).binds (ps := ["self", "start"]) fun _ _ _ _ _ _ us hl => match us, hl with | [_, _], _ => rfl
theorem u_Forest_init (Z : Zs cks fns K mg) : Fun K "__init__" "Forest.__init__" s_Forest_init (ma K (ga K "Forest") "__init__") (fdAt K (ma K (ga K "Forest") "__init__")) := Z.f 12
theorem b_Forest_init (Z : Zs cks fns K mg) : L2.Binds K (fdAt K (ma K (ga K "Forest") "__init__")) ["self", "many", "edges"] [] := (u_Forest_init Z).binds (ps := ["self", "many", "edges"]) fun _ _ _ _ _ _ us hl => match us, hl with | [_, _, _], _ => rfl
theorem u_Plan_edges (Z : Zs cks fns K mg) : Fun K "edges" "Plan.edges" s_Plan_edges (ma K (ga K "Plan") "edges") (fdAt K (ma K (ga K "Plan") "edges")) := Z.f 13
theorem b_Plan_edges (Z : Zs cks fns K mg) : L2.Binds K (fdAt K (ma K (ga K "Plan") "edges")) ["self"] [] := (u_Plan_edges Z).binds (ps := ["self"]) fun _ _ _ _ _ _ us hl => match us, hl with | [_], _ => rfl
theorem u_Plan_init (Z : Zs cks fns K mg) : Fun K "__init__" "Plan.__init__" s_Plan_init (ma K (ga K "Plan") "__init__") (fdAt K (ma K (ga K "Plan") "__init__")) := Z.f 14
theorem b_Plan_init (Z : Zs cks fns K mg) : L2.Binds K (fdAt K (ma K (ga K "Plan") "__init__")) ["self", "lines", "wishes", "fixed"] [] := (u_Plan_init Z).binds (ps := ["self", "lines", "wishes", "fixed"]) fun _ _ _ _ _ _ us hl => match us, hl with | [_, _, _, _], _ => rfl
theorem g_is_number_from (Z : Zs cks fns K mg) : mg "is_number_from" = some (.ref (ga K "is_number_from")) := Z.glo (Z.c 28)
theorem u_is_number_from (Z : Zs cks fns K mg) : Fun K "is_number_from" "is_number_from" s_is_number_from (ga K "is_number_from") (fdAt K (ga K "is_number_from")) := Z.f 15
theorem b_is_number_from (Z : Zs cks fns K mg) : L2.Binds K (fdAt K (ga K "is_number_from")) ["thing", "least"] [] := (u_is_number_from Z).binds (ps := ["thing", "least"]) fun _ _ _ _ _ _ us hl => match us, hl with | [_, _], _ => rfl
theorem u_State_init (Z : Zs cks fns K mg) : Fun K "__init__" "State.__init__" s_State_init (ma K (ga K "State") "__init__") (fdAt K (ma K (ga K "State") "__init__")) := Z.f 16
theorem b_State_init (Z : Zs cks fns K mg) : L2.Binds K (fdAt K (ma K (ga K "State") "__init__")) ["self", "lines", "wishes", "fixed"] [] := (u_State_init Z).binds (ps := ["self", "lines", "wishes", "fixed"]) fun _ _ _ _ _ _ us hl => match us, hl with | [_, _, _, _], _ => rfl
theorem u_Net_init (Z : Zs cks fns K mg) : Fun K "__init__" "Net.__init__" s_Net_init (ma K (ga K "Net") "__init__") (fdAt K (ma K (ga K "Net") "__init__")) := Z.f 17
theorem b_Net_init (Z : Zs cks fns K mg) : L2.Binds K (fdAt K (ma K (ga K "Net") "__init__")) ["self"] [] := (u_Net_init Z).binds (ps := ["self"]) fun _ _ _ _ _ _ us hl => match us, hl with | [_], _ => rfl
theorem u_Net_present (Z : Zs cks fns K mg) : Fun K "present" "Net.present" s_Net_present (ma K (ga K "Net") "present") (fdAt K (ma K (ga K "Net") "present")) := Z.f 18
theorem b_Net_present (Z : Zs cks fns K mg) : L2.Binds K (fdAt K (ma K (ga K "Net") "present")) ["self"] [] := (u_Net_present Z).binds (ps := ["self"]) fun _ _ _ _ _ _ us hl => match us, hl with | [_], _ => rfl
theorem u_Net_need_line (Z : Zs cks fns K mg) : Fun K "need_line" "Net.need_line" s_Net_need_line (ma K (ga K "Net") "need_line") (fdAt K (ma K (ga K "Net") "need_line")) := Z.f 19
theorem b_Net_need_line (Z : Zs cks fns K mg) : L2.Binds K (fdAt K (ma K (ga K "Net") "need_line")) ["self", "index"] [] := (u_Net_need_line Z).binds (ps := ["self", "index"]) fun _ _ _ _ _ _ us hl => match us, hl with | [_, _], _ => rfl
theorem u_Net_lines (Z : Zs cks fns K mg) : Fun K "lines" "Net.lines" s_Net_lines (ma K (ga K "Net") "lines") (fdAt K (ma K (ga K "Net") "lines")) := Z.f 20
theorem b_Net_lines (Z : Zs cks fns K mg) : L2.Binds K (fdAt K (ma K (ga K "Net") "lines")) ["self"] [] := (u_Net_lines Z).binds (ps := ["self"]) fun _ _ _ _ _ _ us hl => match us, hl with | [_], _ => rfl
theorem u_Net_wishes (Z : Zs cks fns K mg) : Fun K "wishes" "Net.wishes" s_Net_wishes (ma K (ga K "Net") "wishes") (fdAt K (ma K (ga K "Net") "wishes")) := Z.f 21
theorem b_Net_wishes (Z : Zs cks fns K mg) : L2.Binds K (fdAt K (ma K (ga K "Net") "wishes")) ["self"] [] := (u_Net_wishes Z).binds (ps := ["self"]) fun _ _ _ _ _ _ us hl => match us, hl with | [_], _ => rfl
theorem u_Net_fixed (Z : Zs cks fns K mg) : Fun K "fixed" "Net.fixed" s_Net_fixed (ma K (ga K "Net") "fixed") (fdAt K (ma K (ga K "Net") "fixed")) := Z.f 22
theorem b_Net_fixed (Z : Zs cks fns K mg) : L2.Binds K (fdAt K (ma K (ga K "Net") "fixed")) ["self"] [] := (u_Net_fixed Z).binds (ps := ["self"]) fun _ _ _ _ _ _ us hl => match us, hl with | [_], _ => rfl
theorem u_Net_len (Z : Zs cks fns K mg) : Fun K "__len__" "Net.__len__" s_Net_len (ma K (ga K "Net") "__len__") (fdAt K (ma K (ga K "Net") "__len__")) := Z.f 23
theorem b_Net_len (Z : Zs cks fns K mg) : L2.Binds K (fdAt K (ma K (ga K "Net") "__len__")) ["self"] [] := (u_Net_len Z).binds (ps := ["self"]) fun _ _ _ _ _ _ us hl => match us, hl with | [_], _ => rfl
theorem u_Net_add (Z : Zs cks fns K mg) : Fun K "add" "Net.add" s_Net_add (ma K (ga K "Net") "add") (fdAt K (ma K (ga K "Net") "add")) := Z.f 24
theorem b_Net_add (Z : Zs cks fns K mg) : L2.Binds K (fdAt K (ma K (ga K "Net") "add")) ["self", "every", "ride"] [] := (u_Net_add Z).binds (ps := ["self", "every", "ride"]) fun _ _ _ _ _ _ us hl => match us, hl with | [_, _, _], _ => rfl
theorem u_Net_wish (Z : Zs cks fns K mg) : Fun K "wish" "Net.wish" s_Net_wish (ma K (ga K "Net") "wish") (fdAt K (ma K (ga K "Net") "wish")) := Z.f 25
theorem b_Net_wish (Z : Zs cks fns K mg) : L2.Binds K (fdAt K (ma K (ga K "Net") "wish")) ["self", "i", "j", "walk"] [] := (u_Net_wish Z).binds (ps := ["self", "i", "j", "walk"]) fun _ _ _ _ _ _ us hl => match us, hl with | [_, _, _, _], _ => rfl
theorem u_Net_fix (Z : Zs cks fns K mg) : Fun K "fix" "Net.fix" s_Net_fix (ma K (ga K "Net") "fix") (fdAt K (ma K (ga K "Net") "fix")) := Z.f 26
theorem b_Net_fix (Z : Zs cks fns K mg) : L2.Binds K (fdAt K (ma K (ga K "Net") "fix")) ["self", "i", "at"] [] := (u_Net_fix Z).binds (ps := ["self", "i", "at"]) fun _ _ _ _ _ _ us hl => match us, hl with | [_, _, _], _ => rfl
theorem u_Net_drop (Z : Zs cks fns K mg) : Fun K "drop" "Net.drop" s_Net_drop (ma K (ga K "Net") "drop") (fdAt K (ma K (ga K "Net") "drop")) := Z.f 27
theorem b_Net_drop (Z : Zs cks fns K mg) : L2.Binds K (fdAt K (ma K (ga K "Net") "drop")) ["self", "index"] [] := (u_Net_drop Z).binds (ps := ["self", "index"]) fun _ _ _ _ _ _ us hl => match us, hl with | [_, _], _ => rfl
theorem u_Net_undo (Z : Zs cks fns K mg) : Fun K "undo" "Net.undo" s_Net_undo (ma K (ga K "Net") "undo") (fdAt K (ma K (ga K "Net") "undo")) := Z.f 28
theorem b_Net_undo (Z : Zs cks fns K mg) : L2.Binds K (fdAt K (ma K (ga K "Net") "undo")) ["self"] [] := (u_Net_undo Z).binds (ps := ["self"]) fun _ _ _ _ _ _ us hl => match us, hl with | [_], _ => rfl
theorem u_Net_twin (Z : Zs cks fns K mg) : Fun K "twin" "Net.twin" s_Net_twin (ma K (ga K "Net") "twin") (fdAt K (ma K (ga K "Net") "twin")) := Z.f 29
theorem b_Net_twin (Z : Zs cks fns K mg) : L2.Binds K (fdAt K (ma K (ga K "Net") "twin")) ["self"] [] := (u_Net_twin Z).binds (ps := ["self"]) fun _ _ _ _ _ _ us hl => match us, hl with | [_], _ => rfl
theorem g__law_tank (Z : Zs cks fns K mg) : mg "_law_tank" = some (.ref (ga K "_law_tank")) := Z.glo (Z.c 29)
theorem u__law_tank (Z : Zs cks fns K mg) : Fun K "_law_tank" "_law_tank" s__law_tank (ga K "_law_tank") (fdAt K (ga K "_law_tank")) := Z.f 30
theorem b__law_tank (Z : Zs cks fns K mg) : L2.Binds K (fdAt K (ga K "_law_tank")) ["script"] [] := (u__law_tank Z).binds (ps := ["script"]) fun _ _ _ _ _ _ us hl => match us, hl with | [_], _ => rfl
theorem g__law_sip (Z : Zs cks fns K mg) : mg "_law_sip" = some (.ref (ga K "_law_sip")) := Z.glo (Z.c 30)
theorem u__law_sip (Z : Zs cks fns K mg) : Fun K "_law_sip" "_law_sip" s__law_sip (ga K "_law_sip") (fdAt K (ga K "_law_sip")) := Z.f 31
theorem b__law_sip (Z : Zs cks fns K mg) : L2.Binds K (fdAt K (ga K "_law_sip")) ["tank", "many"] [] := (u__law_sip Z).binds (ps := ["tank", "many"]) fun _ _ _ _ _ _ us hl => match us, hl with | [_, _], _ => rfl
theorem g__law_blank (Z : Zs cks fns K mg) : mg "_law_blank" = some (.ref (ga K "_law_blank")) := Z.glo (Z.c 31)
theorem u__law_blank (Z : Zs cks fns K mg) : Fun K "_law_blank" "_law_blank" s__law_blank (ga K "_law_blank") (fdAt K (ga K "_law_blank")) := Z.f 32
theorem b__law_blank (Z : Zs cks fns K mg) : L2.Binds K (fdAt K (ga K "_law_blank")) [] [] := (u__law_blank Z).binds (ps := []) fun _ _ _ _ _ _ us hl => match us, hl with | [], _ => rfl
theorem g__law_seen (Z : Zs cks fns K mg) : mg "_law_seen" = some (.ref (ga K "_law_seen")) := Z.glo (Z.c 32)
theorem u__law_seen (Z : Zs cks fns K mg) : Fun K "_law_seen" "_law_seen" s__law_seen (ga K "_law_seen") (fdAt K (ga K "_law_seen")) := Z.f 33
theorem b__law_seen (Z : Zs cks fns K mg) : L2.Binds K (fdAt K (ga K "_law_seen")) ["net"] [] := (u__law_seen Z).binds (ps := ["net"]) fun _ _ _ _ _ _ us hl => match us, hl with | [_], _ => rfl
theorem g__law_due (Z : Zs cks fns K mg) : mg "_law_due" = some (.ref (ga K "_law_due")) := Z.glo (Z.c 33)
theorem u__law_due (Z : Zs cks fns K mg) : Fun K "_law_due" "_law_due" s__law_due (ga K "_law_due") (fdAt K (ga K "_law_due")) := Z.f 34
theorem b__law_due (Z : Zs cks fns K mg) : L2.Binds K (fdAt K (ga K "_law_due")) ["own"] [] := (u__law_due Z).binds (ps := ["own"]) fun _ _ _ _ _ _ us hl => match us, hl with | [_], _ => rfl
theorem g__law_put (Z : Zs cks fns K mg) : mg "_law_put" = some (.ref (ga K "_law_put")) := Z.glo (Z.c 34)
theorem u__law_put (Z : Zs cks fns K mg) : Fun K "_law_put" "_law_put" s__law_put (ga K "_law_put") (fdAt K (ga K "_law_put")) := Z.f 35
theorem b__law_put (Z : Zs cks fns K mg) : L2.Binds K (fdAt K (ga K "_law_put")) ["own", "some", "wants", "fast"] [] := (u__law_put Z).binds (ps := ["own", "some", "wants", "fast"]) fun _ _ _ _ _ _ us hl => match us, hl with | [_, _, _, _], _ => rfl
theorem g__law_same (Z : Zs cks fns K mg) : mg "_law_same" = some (.ref (ga K "_law_same")) := Z.glo (Z.c 35)
theorem u__law_same (Z : Zs cks fns K mg) : Fun K "_law_same" "_law_same" s__law_same (ga K "_law_same") (fdAt K (ga K "_law_same")) := Z.f 36
theorem b__law_same (Z : Zs cks fns K mg) : L2.Binds K (fdAt K (ga K "_law_same")) ["net", "own"] [] := (u__law_same Z).binds (ps := ["net", "own"]) fun _ _ _ _ _ _ us hl => match us, hl with | [_, _], _ => rfl
theorem u_Net_plan (Z : Zs cks fns K mg) : Fun K "plan" "Net.plan" s_Net_plan (ma K (ga K "Net") "plan") (fdAt K (ma K (ga K "Net") "plan")) := Z.f 37
theorem b_Net_plan (Z : Zs cks fns K mg) : L2.Binds K (fdAt K (ma K (ga K "Net") "plan")) ["self"] [] := (u_Net_plan Z).binds (ps := ["self"]) fun _ _ _ _ _ _ us hl => match us, hl with | [_], _ => rfl
theorem g__law_refused (Z : Zs cks fns K mg) : mg "_law_refused" = some (.ref (ga K "_law_refused")) := Z.glo (Z.c 36)
theorem u__law_refused (Z : Zs cks fns K mg) : Fun K "_law_refused" "_law_refused" s__law_refused (ga K "_law_refused") (fdAt K (ga K "_law_refused")) := Z.f 38
theorem b__law_refused (Z : Zs cks fns K mg) : L2.Binds K (fdAt K (ga K "_law_refused")) ["net", "door", "headway"] [] := (u__law_refused Z).binds (ps := ["net", "door", "headway"]) fun _ _ _ _ _ _ us hl => match us, hl with | [_, _, _], _ => rfl
theorem g__law_undone (Z : Zs cks fns K mg) : mg "_law_undone" = some (.ref (ga K "_law_undone")) := Z.glo (Z.c 37)
theorem u__law_undone (Z : Zs cks fns K mg) : Fun K "_law_undone" "_law_undone" s__law_undone (ga K "_law_undone") (fdAt K (ga K "_law_undone")) := Z.f 39
theorem b__law_undone (Z : Zs cks fns K mg) : L2.Binds K (fdAt K (ga K "_law_undone")) ["net", "many"] [] := (u__law_undone Z).binds (ps := ["net", "many"]) fun _ _ _ _ _ _ us hl => match us, hl with | [_, _], _ => rfl
theorem g__law_first_right (Z : Zs cks fns K mg) : mg "_law_first_right" = some (.ref (ga K "_law_first_right")) := Z.glo (Z.c 38)
theorem u__law_first_right (Z : Zs cks fns K mg) : Fun K "_law_first_right" "_law_first_right" s__law_first_right (ga K "_law_first_right") (fdAt K (ga K "_law_first_right")) := Z.f 40
theorem b__law_first_right (Z : Zs cks fns K mg) : L2.Binds K (fdAt K (ga K "_law_first_right")) ["net"] [] := (u__law_first_right Z).binds (ps := ["net"]) fun _ _ _ _ _ _ us hl => match us, hl with | [_], _ => rfl
theorem g_law (Z : Zs cks fns K mg) : mg "law" = some (.ref (ga K "law")) := Z.glo (Z.c 39)
theorem u_law (Z : Zs cks fns K mg) : Fun K "law" "law" s_law (ga K "law") (fdAt K (ga K "law")) := Z.f 41
theorem b_law (Z : Zs cks fns K mg) : L2.Binds K (fdAt K (ga K "law")) ["script"] [] := (u_law Z).binds (ps := ["script"]) fun _ _ _ _ _ _ us hl => match us, hl with | [_], _ => rfl
theorem g_State (Z : Zs cks fns K mg) : mg "State" = some (.ref (ga K "State")) := Z.glo (Z.c 40)
theorem c_State (Z : Zs cks fns K mg) : Cls K (ga K "State") := cls_of (Z.c 41)
theorem M_State (Z : Zs cks fns K mg) : Mk K (ga K "State") (ma K (ga K "State") "__init__") := mkr_of (Z.c 42)
theorem na_State_all_lines (Z : Zs cks fns K mg) : NoAttr K (ga K "State") "all_lines" := noat_of (Z.c 43)
theorem na_State_all_wishes (Z : Zs cks fns K mg) : NoAttr K (ga K "State") "all_wishes" := noat_of (Z.c 44)
theorem na_State_all_fixed (Z : Zs cks fns K mg) : NoAttr K (ga K "State") "all_fixed" := noat_of (Z.c 45)
theorem g_Net (Z : Zs cks fns K mg) : mg "Net" = some (.ref (ga K "Net")) := Z.glo (Z.c 46)
theorem c_Net (Z : Zs cks fns K mg) : Cls K (ga K "Net") := cls_of (Z.c 47)
theorem M_Net (Z : Zs cks fns K mg) : Mk K (ga K "Net") (ma K (ga K "Net") "__init__") := mkr_of (Z.c 48)
theorem len_Net (Z : Zs cks fns K mg) : LenOf K (ga K "Net") (ma K (ga K "Net") "__len__") := lenOf_of (Z.c 49)
theorem na_Net_states (Z : Zs cks fns K mg) : NoAttr K (ga K "Net") "states" := noat_of (Z.c 50)
theorem na_Net_marks (Z : Zs cks fns K mg) : NoAttr K (ga K "Net") "marks" := noat_of (Z.c 51)
theorem hm_Net_add (Z : Zs cks fns K mg) : Meth K (ga K "Net") "add" (ma K (ga K "Net") "add") := meth_of (Z.c 52)
theorem hm_Net_drop (Z : Zs cks fns K mg) : Meth K (ga K "Net") "drop" (ma K (ga K "Net") "drop") := meth_of (Z.c 53)
theorem hm_Net_fix (Z : Zs cks fns K mg) : Meth K (ga K "Net") "fix" (ma K (ga K "Net") "fix") := meth_of (Z.c 54)
theorem hm_Net_fixed (Z : Zs cks fns K mg) : Meth K (ga K "Net") "fixed" (ma K (ga K "Net") "fixed") := meth_of (Z.c 55)
theorem hm_Net_lines (Z : Zs cks fns K mg) : Meth K (ga K "Net") "lines" (ma K (ga K "Net") "lines") := meth_of (Z.c 56)
theorem hm_Net_need_line (Z : Zs cks fns K mg) : Meth K (ga K "Net") "need_line" (ma K (ga K "Net") "need_line") := meth_of (Z.c 57)
theorem hm_Net_plan (Z : Zs cks fns K mg) : Meth K (ga K "Net") "plan" (ma K (ga K "Net") "plan") := meth_of (Z.c 58)
theorem hm_Net_present (Z : Zs cks fns K mg) : Meth K (ga K "Net") "present" (ma K (ga K "Net") "present") := meth_of (Z.c 59)
theorem hm_Net_twin (Z : Zs cks fns K mg) : Meth K (ga K "Net") "twin" (ma K (ga K "Net") "twin") := meth_of (Z.c 60)
theorem hm_Net_undo (Z : Zs cks fns K mg) : Meth K (ga K "Net") "undo" (ma K (ga K "Net") "undo") := meth_of (Z.c 61)
theorem hm_Net_wish (Z : Zs cks fns K mg) : Meth K (ga K "Net") "wish" (ma K (ga K "Net") "wish") := meth_of (Z.c 62)
theorem hm_Net_wishes (Z : Zs cks fns K mg) : Meth K (ga K "Net") "wishes" (ma K (ga K "Net") "wishes") := meth_of (Z.c 63)
theorem g_Edge (Z : Zs cks fns K mg) : mg "Edge" = some (.ref (ga K "Edge")) := Z.glo (Z.c 64)
theorem c_Edge (Z : Zs cks fns K mg) : Cls K (ga K "Edge") := cls_of (Z.c 65)
theorem M_Edge (Z : Zs cks fns K mg) : Mk K (ga K "Edge") (ma K (ga K "Edge") "__init__") := mkr_of (Z.c 66)
theorem na_Edge_number (Z : Zs cks fns K mg) : NoAttr K (ga K "Edge") "number" := noat_of (Z.c 67)
theorem na_Edge_begin (Z : Zs cks fns K mg) : NoAttr K (ga K "Edge") "begin" := noat_of (Z.c 68)
theorem na_Edge_end (Z : Zs cks fns K mg) : NoAttr K (ga K "Edge") "end" := noat_of (Z.c 69)
theorem na_Edge_shift (Z : Zs cks fns K mg) : NoAttr K (ga K "Edge") "shift" := noat_of (Z.c 70)
theorem na_Edge_modulus (Z : Zs cks fns K mg) : NoAttr K (ga K "Edge") "modulus" := noat_of (Z.c 71)
theorem g_Forest (Z : Zs cks fns K mg) : mg "Forest" = some (.ref (ga K "Forest")) := Z.glo (Z.c 72)
theorem c_Forest (Z : Zs cks fns K mg) : Cls K (ga K "Forest") := cls_of (Z.c 73)
theorem M_Forest (Z : Zs cks fns K mg) : Mk K (ga K "Forest") (ma K (ga K "Forest") "__init__") := mkr_of (Z.c 74)
theorem na_Forest_near (Z : Zs cks fns K mg) : NoAttr K (ga K "Forest") "near" := noat_of (Z.c 75)
theorem na_Forest_chosen (Z : Zs cks fns K mg) : NoAttr K (ga K "Forest") "chosen" := noat_of (Z.c 76)
theorem na_Forest_torn (Z : Zs cks fns K mg) : NoAttr K (ga K "Forest") "torn" := noat_of (Z.c 77)
theorem hm_Forest_reached (Z : Zs cks fns K mg) : Meth K (ga K "Forest") "reached" (ma K (ga K "Forest") "reached") := meth_of (Z.c 78)
theorem hm_Forest_take (Z : Zs cks fns K mg) : Meth K (ga K "Forest") "take" (ma K (ga K "Forest") "take") := meth_of (Z.c 79)
theorem g_Plan (Z : Zs cks fns K mg) : mg "Plan" = some (.ref (ga K "Plan")) := Z.glo (Z.c 80)
theorem c_Plan (Z : Zs cks fns K mg) : Cls K (ga K "Plan") := cls_of (Z.c 81)
theorem M_Plan (Z : Zs cks fns K mg) : Mk K (ga K "Plan") (ma K (ga K "Plan") "__init__") := mkr_of (Z.c 82)
theorem na_Plan_pairs (Z : Zs cks fns K mg) : NoAttr K (ga K "Plan") "pairs" := noat_of (Z.c 83)
theorem na_Plan_wished (Z : Zs cks fns K mg) : NoAttr K (ga K "Plan") "wished" := noat_of (Z.c 84)
theorem na_Plan_settled (Z : Zs cks fns K mg) : NoAttr K (ga K "Plan") "settled" := noat_of (Z.c 85)
theorem na_Plan_clock (Z : Zs cks fns K mg) : NoAttr K (ga K "Plan") "clock" := noat_of (Z.c 86)
theorem na_Plan_forest (Z : Zs cks fns K mg) : NoAttr K (ga K "Plan") "forest" := noat_of (Z.c 87)
theorem hm_Plan_edges (Z : Zs cks fns K mg) : Meth K (ga K "Plan") "edges" (ma K (ga K "Plan") "edges") := meth_of (Z.c 88)
theorem er_NothingToUndo (Z : Zs cks fns K mg) : ErrF K (ga K "NothingToUndo") := err_of (Z.c 89)
theorem er_InvalidIndex (Z : Zs cks fns K mg) : ErrF K (ga K "InvalidIndex") := err_of (Z.c 90)
theorem er_InvalidWishes (Z : Zs cks fns K mg) : ErrF K (ga K "InvalidWishes") := err_of (Z.c 91)
theorem er_InvalidFixed (Z : Zs cks fns K mg) : ErrF K (ga K "InvalidFixed") := err_of (Z.c 92)
theorem er_InvalidLine (Z : Zs cks fns K mg) : ErrF K (ga K "InvalidLine") := err_of (Z.c 93)
theorem g_HeadwayError (Z : Zs cks fns K mg) : mg "HeadwayError" = some (.ref (ga K "HeadwayError")) := Z.glo (Z.c 94)
theorem g_InvalidFixed (Z : Zs cks fns K mg) : mg "InvalidFixed" = some (.ref (ga K "InvalidFixed")) := Z.glo (Z.c 95)
theorem g_InvalidIndex (Z : Zs cks fns K mg) : mg "InvalidIndex" = some (.ref (ga K "InvalidIndex")) := Z.glo (Z.c 96)
theorem g_InvalidLine (Z : Zs cks fns K mg) : mg "InvalidLine" = some (.ref (ga K "InvalidLine")) := Z.glo (Z.c 97)
theorem g_InvalidWishes (Z : Zs cks fns K mg) : mg "InvalidWishes" = some (.ref (ga K "InvalidWishes")) := Z.glo (Z.c 98)
theorem g_NothingToUndo (Z : Zs cks fns K mg) : mg "NothingToUndo" = some (.ref (ga K "NothingToUndo")) := Z.glo (Z.c 99)
theorem kf0 (Z : Zs cks fns K mg) : PySem.W.exmOne K (.ref (ga K "InvalidWishes")) (.ref (ga K "InvalidWishes")) = some true := exm_of2 (Z.c 100)
theorem kf1 (Z : Zs cks fns K mg) : PySem.W.exmOne K (.ref (ga K "NothingToUndo")) (.ref (ga K "NothingToUndo")) = some true := exm_of2 (Z.c 101)
theorem kf2 (Z : Zs cks fns K mg) : PySem.W.exmOne K (.ref (ga K "InvalidLine")) (.ref (ga K "InvalidLine")) = some true := exm_of2 (Z.c 102)
theorem kf3 (Z : Zs cks fns K mg) : PySem.W.exmOne K (.ref (ga K "InvalidIndex")) (.ref (ga K "InvalidLine")) = some false := exm_of2 (Z.c 103)
theorem kf4 (Z : Zs cks fns K mg) : PySem.W.exmOne K (.ref (ga K "InvalidIndex")) (.ref (ga K "InvalidIndex")) = some true := exm_of2 (Z.c 104)
end
abbrev R : PySem.W.OpenRow := PySem.W.OpenLaw.row PySem.Challenge.rw_onwardlines_k54_full_nets
def tfA : Frag → Addr := fun K => (ma K (ga K "Forest") "__init__")
abbrev hk : PySem.W.Hook := hookMT 6 cks fns tfA
def ob (s : PySem.W.SharedT) : AlMT := obsMT 6 cks fns tfA (HandSHeadRun.getT s)
theorem ob_eq (s : PySem.W.SharedT) : ob s = hk.obs s.abs := obsMT_eq (HandSHeadRun.getT_eq s)
def loose : List PySem.Str := (["_wall", "HeadwayError", "InvalidLine", "InvalidWishes", "InvalidFixed", "InvalidIndex", "NothingToUndo", "MOST_PLANNED", "MOST_WISHES_plans", "is_whole", "is_below", "is_pair", "do_fit", "are_planned", "is_wish", "are_wishes", "is_fixed", "are_fixed", "Edge", "Forest", "Plan", "MOST_LINES", "MOST_WISHES_net", "is_number_from", "State", "Net", "_law_tank", "_law_sip", "_law_blank", "_law_seen"] : List PySem.Str) ++ (["_law_due", "_law_same", "_law_put", "_law_refused", "_law_first_right", "_law_undone"] : List PySem.Str)
set_option maxHeartbeats 0 in
theorem run (w : World) : HandSHeadRun.RunEq R (PySem.W.view R.prog [40]) hk ob 20000 loose w := by
  intro os
  kernel_rfl
section
variable {w : World} {K : Frag} {mg : Str → Option Value} {base : Heap}
def sp_is_whole (K : Frag) : Sp := fun vs H Q E => ∃ (i : Int) (l : Int), vs = [.int i, .int l] ∧ Q (.bl (decide (i ≥ l))) H
theorem ok_is_whole (Z : Zs cks fns K mg) : FnOk PP w K mg base (L2.CX PP w) 1 (ga K "is_whole") (fdAt K (ga K "is_whole")) ["thing", "least"] (sp_is_whole K) := by
  refine L2.Fun.okX (u_is_whole Z) sc_is_whole (fun vs H Q E h => ?_) (fun cdv A outer s H vs Q E hr h => ?_)
  · obtain ⟨_, _, rfl, _⟩ := h
    rfl
  · obtain ⟨i, l, rfl, hq⟩ := h
    refine ⟨_, (pss_one (ps_ret (pe_and (pe_callB (crq call_isi) rfl (n_isinstance Z) (by decide +kernel) (pa_cons (pv 0) (pa_cons (pe_bltn (v := .ty "int") (u := .type "int") rfl (n_int Z) (by decide +kernel) rfl) pa_nil))) (pe_and (pe_not (pe_callB (crq call_isi) rfl (n_isinstance Z) (by decide +kernel) (pa_cons (pv 0) (pa_cons (pe_bltn (v := .ty "bool") (u := .type "bool") rfl (n_bool Z) (by decide +kernel) rfl) pa_nil)))) (pe_one (pe_cmpR op_ge (pv 0) (pv 1) (nomark _))))))), ?_⟩
    refine ⟨_, rfl, isi_int ?_⟩
    refine ⟨_, rfl, iteT ⟨_, rfl, isi_nbl ?_⟩⟩
    refine ⟨_, rfl, _, rfl, iteT ⟨_, rfl, _, rfl, _, _, rfl, rfl, hq⟩⟩
theorem cl_is_whole {K : Frag} {H : Hp} {Q : VK} {E : XK} {i : Int} {l : Int}  (k : Q (.bl (decide (i ≥ l))) H) : sq (sp_is_whole K) [.int i, .int l] H Q E := sqI ⟨i, l, rfl, k⟩
def sp_is_below (K : Frag) : Sp := fun vs H Q E => ∃ (i : Int) (l : Int), vs = [.int i, .int l] ∧ Q (.bl (decide (0 ≤ i ∧ i < l))) H
theorem ok_is_below (Z : Zs cks fns K mg) : FnOk PP w K mg base (L2.CX PP w) 3 (ga K "is_below") (fdAt K (ga K "is_below")) ["thing", "limit"] (sp_is_below K) := by
  refine L2.Fun.okX (u_is_below Z) sc_is_below (fun vs H Q E h => ?_) (fun cdv A outer s H vs Q E hr h => ?_)
  · obtain ⟨_, _, rfl, _⟩ := h
    rfl
  · obtain ⟨i, l, rfl, hq⟩ := h
    refine ⟨_, (pss_one (ps_ret (pe_and (pe_call (okq (ok_is_whole Z)) (hr.mono (by decide)) rfl (g_is_whole Z) (u_is_whole Z).kp (b_is_whole Z) .nil passL (pa_cons (pv 0) (pa_cons pe_int pa_nil))) (pe_one (pe_cmpR op_lt (pv 0) (pv 1) (nomark _)))))), ?_⟩
    refine ⟨_, rfl, cl_is_whole ?_⟩
    by_cases c : i ≥ 0
    · refine ⟨_, rfl, ifT c ⟨_, rfl, _, rfl, _, _, rfl, rfl, ?_⟩⟩
      rw [show decide (0 ≤ i ∧ i < l) = decide (i < l) from by simp; omega] at hq
      exact hq
    · refine ⟨_, rfl, ifFd c ?_⟩
      rw [show decide (0 ≤ i ∧ i < l) = false from by simp; omega] at hq
      exact hq
theorem cl_is_below {K : Frag} {H : Hp} {Q : VK} {E : XK} {i : Int} {l : Int}  (k : Q (.bl (decide (0 ≤ i ∧ i < l))) H) : sq (sp_is_below K) [.int i, .int l] H Q E := sqI ⟨i, l, rfl, k⟩
def sp_is_pair (K : Frag) : Sp := fun vs H Q E => ∃ (F : Hp) (v : V) (p : Int × Int) (l : Int), vs = [v, .int l] ∧ (rp K F v p) ∧ (Same F H) ∧ Q (.bl (decide (l ≤ p.1 ∧ 0 ≤ p.2))) H
theorem ok_is_pair (Z : Zs cks fns K mg) : FnOk PP w K mg base (L2.CX PP w) 4 (ga K "is_pair") (fdAt K (ga K "is_pair")) ["thing", "least"] (sp_is_pair K) := by
  refine L2.Fun.okX (u_is_pair Z) sc_is_pair (fun vs H Q E h => ?_) (fun cdv A outer s H vs Q E hr h => ?_)
  · obtain ⟨_, _, _, _, rfl, _⟩ := h
    rfl
  · obtain ⟨F, v, p, l, rfl, ⟨hp, hF, hq⟩⟩ := h
    refine ⟨_, (pss_one (ps_ret (pe_and (pe_callB (crq call_isi) rfl (n_isinstance Z) (by decide +kernel) (pa_cons (pv 0) (pa_cons (pe_bltn (v := .ty "tuple") (u := .type "tuple") rfl (n_tuple Z) (by decide +kernel) rfl) pa_nil))) (pe_and (pe_cmpR op_eq (pe_callB (crq call_len_seq) rfl (n_len Z) (by decide +kernel) (pa_cons (pv 0) pa_nil)) pe_int (nomark _)) (pe_and (pe_call (okq (ok_is_whole Z)) (hr.mono (by decide)) rfl (g_is_whole Z) (u_is_whole Z).kp (b_is_whole Z) .nil passL (pa_cons (pe_ix (ixq ix_tup) (pv 0) pe_int (fun _ _ => rfl)) (pa_cons (pv 1) pa_nil))) (pe_one (pe_call (okq (ok_is_whole Z)) (hr.mono (by decide)) rfl (g_is_whole Z) (u_is_whole Z).kp (b_is_whole Z) .nil passL (pa_cons (pe_ix (ixq ix_tup) (pv 0) pe_int (fun _ _ => rfl)) (pa_cons pe_int pa_nil))))))))), ?_⟩
    refine ⟨_, rfl, isi_pair hp hF ?_⟩
    refine ⟨_, rfl, iteT ⟨_, rfl, len_pair hp hF ?_⟩⟩
    refine ⟨rfl, _, rfl, ifT rfl ⟨_, rfl, rd_p0 hp hF fun u1 e1 => ?_⟩⟩
    cases e1
    refine ⟨_, rfl, cl_is_whole ?_⟩
    by_cases c : p.1 ≥ l
    · refine ⟨_, rfl, ifT c ⟨_, rfl, rd_p1 hp hF fun u2 e2 => ?_⟩⟩
      cases e2
      refine cl_is_whole ?_
      rw [show decide (l ≤ p.1 ∧ 0 ≤ p.2) = decide (p.2 ≥ 0) from by simp; omega] at hq
      exact hq
    · refine ⟨_, rfl, ifFd c ?_⟩
      rw [show decide (l ≤ p.1 ∧ 0 ≤ p.2) = false from by simp; omega] at hq
      exact hq
theorem cl_is_pair {K : Frag} {H : Hp} {Q : VK} {E : XK} {F : Hp} {v : V} {p : Int × Int} {l : Int} (hp : rp K F v p) (hF : Same F H) (k : Q (.bl (decide (l ≤ p.1 ∧ 0 ≤ p.2))) H) : sq (sp_is_pair K) [v, .int l] H Q E := sqI ⟨F, v, p, l, rfl, hp, hF, k⟩
def sp_do_fit (K : Frag) : Sp := fun vs H Q E => ∃ (v : V) (M : Addr → Prop) (xs : List Int), vs = [v] ∧ (rp K (Fr M H) v xs) ∧ (Alloc M H) ∧ (xs.length < 64) ∧ (∀ x ∈ xs, 1 ≤ x) ∧ ∀ H', Same H H' → Q (.bl (decide (FitP xs))) H'
theorem ok_do_fit (Z : Zs cks fns K mg) : FnOk PP w K mg base (L2.CX PP w) 2 (ga K "do_fit") (fdAt K (ga K "do_fit")) ["headways"] (sp_do_fit K) := by
  refine L2.Fun.okX (u_do_fit Z) sc_do_fit (fun vs H Q E h => ?_) (fun cdv A outer s H vs Q E hr h => ?_)
  · obtain ⟨_, _, _, rfl, _⟩ := h
    rfl
  · obtain ⟨v, M, xs, rfl, ⟨hp, hA, hl, h1, hq⟩⟩ := h
    refine ⟨_, (pss_cons (ps_set (i := 1) sc_do_fit.nd rfl (Or.inl rfl) (pe_callB (crq cr_sorted) rfl (n_sorted Z) (by decide +kernel) (pa_cons (pv 0) pa_nil)))
      (pss_one (ps_ret (pe_callB (crq (cr_all rfl)) rfl (n_all Z) (by decide +kernel) (pa_cons (pe_lc (own := [("one", 2), ("other", 3)]) rfl sc_do_fit.nd (pi_zip rfl (n_zip Z) (pa_cons (pv 1) (pa_cons (pe_slice (slq sl_list) (pv 1) (po_some pe_int) po_none) pa_nil))) (blkOk_by (own := [("one", 2), ("other", 3)]) (N := ["headways", "ordered", "one", "other"]) (sc := defScope s_do_fit) (by decide +kernel)) (fun _ _ _ _ _ => (show PG _ _ (gTup K 2 _) from pg_tup rfl (pgs_cons (pg_name (i := 2) sc_do_fit.nd rfl (Or.inl rfl)) (pgs_cons (pg_name (i := 3) sc_do_fit.nd rfl (Or.inl rfl)) pgs_nil)))) (fun _ _ _ _ _ => pts_nil) (fun _ _ _ _ _ => (pe_cmpR op_eq (pe_op op_mod (pv 3) (pv 2)) pe_int (nomark _)))) pa_nil))))), ?_⟩
    refine ⟨_, rfl, rd_sorted hA hp hl fun v1 H1 ys s1 pm so r1 => ?_⟩
    have hA1 := hA.same s1
    refine ⟨_, rfl, ?_⟩
    refine ⟨_, rfl, _, rfl, rd_sl (lo := some 1) (hi := none) hA1 r1 fun v2 H2 s2 r2 => ?_⟩
    have hA2 := hA1.same s2
    obtain ⟨a, b, zs, us, e, q1, q2, T⟩ := tw_zip (Rep.up (Fr.same s2) r1) r2
    refine ⟨a, b, zs, us, e, q1, q2, lc_mapF (fun p : Int × Int => decide (p.2 % p.1 = 0)) T hA2 ?_ ?_ ?_⟩
    · have := pm.length_eq
      rw [List.length_zip]
      omega
    · intro i x u H5 M5 C C0 hx up al s r hC
      refine rd_unP r Fr.sub fun u1 u2 e1 e2 => ?_
      cases e1
      cases e2
      have hm := (List.of_mem_zip (List.mem_of_getElem? hx)).1
      have hpos := h1 _ (pm.mem_iff.mp hm)
      refine ⟨rfl, _, rfl, _, rfl, _, _, rfl, rfl, by omega, rfl, ?_⟩
      rw [dvi]
      exact hC _ _ (Same.refl _) rfl
    · intro D H5 s5 r5
      refine rd_all r5 Fr.sub ?_
      rw [fit_all pm so h1 hl]
      exact hq _ (s1.trans (s2.trans s5))
theorem cl_do_fit {K : Frag} {H : Hp} {Q : VK} {E : XK} {v : V} {M : Addr → Prop} {xs : List Int} (hp : rp K (Fr M H) v xs) (hA : Alloc M H) (hl : xs.length < 64) (h1 : ∀ x ∈ xs, 1 ≤ x) (k : ∀ H', Same H H' → Q (.bl (decide (FitP xs))) H') : sq (sp_do_fit K) [v] H Q E := sqI ⟨v, M, xs, rfl, hp, hA, hl, h1, k⟩
def sp_are_planned (K : Frag) : Sp := fun vs H Q E => ∃ (v : V) (M : Addr → Prop) (xs : List (Int × Int)), vs = [v] ∧ (rp K (Fr M H) v xs) ∧ (Alloc M H) ∧ (xs.length ≤ 100000) ∧ ∀ H', Same H H' → Q (.bl (decide (PairsOk xs))) H'
theorem ok_are_planned (Z : Zs cks fns K mg) : FnOk PP w K mg base (L2.CX PP w) 6 (ga K "are_planned") (fdAt K (ga K "are_planned")) ["thing"] (sp_are_planned K) := by
  refine L2.Fun.okX (u_are_planned Z) sc_are_planned (fun vs H Q E h => ?_) (fun cdv A outer s H vs Q E hr h => ?_)
  · obtain ⟨_, _, _, rfl, _⟩ := h
    rfl
  · obtain ⟨v, M, xs, rfl, ⟨hp, hA, hl, hq⟩⟩ := h
    refine ⟨_, (pss_cons (ps_if (PW.pt (pw_or (pt_not (pt_val (pe_callB (crq call_isi) rfl (n_isinstance Z) (by decide +kernel) (pa_cons (pv 0) (pa_cons (pe_bltn (v := .ty "list") (u := .type "list") rfl (n_list Z) (by decide +kernel) rfl) pa_nil))))) (pw_or1 (pt_not (pt_chain op_le op_le pe_int (pe_callB (crq call_len_seq) rfl (n_len Z) (by decide +kernel) (pa_cons (pv 0) pa_nil)) (C8.pe_gc rfl (i_MOST_PLANNED Z)))))))
        (pss_one (ps_ret pe_bl))
        pss_nil)
      (pss_one (ps_ret (pe_and (pe_callB (crq (cr_all rfl)) rfl (n_all Z) (by decide +kernel) (pa_cons (pe_lc (own := [("pair", 1)]) rfl sc_are_planned.nd (pi_list (pv 0)) (blkOk_by (own := [("pair", 1)]) (N := ["thing", "pair", "every", "ride"]) (sc := defScope s_are_planned) (by decide +kernel)) (fun _ _ _ _ _ => (pg_name (i := 1) sc_are_planned.nd rfl (Or.inl rfl))) (fun _ _ _ _ _ => pts_nil) (fun _ _ _ _ _ => (pe_call (okq (ok_is_pair Z)) (hr.mono (by decide)) rfl (g_is_pair Z) (u_is_pair Z).kp (b_is_pair Z) .nil passL (pa_cons (pv 1) (pa_cons pe_int pa_nil))))) pa_nil)) (pe_one (pe_call (okq (ok_do_fit Z)) (hr.mono (by decide)) rfl (g_do_fit Z) (u_do_fit Z).kp (b_do_fit Z) .nil passL (pa_cons (pe_lc (own := [("every", 2), ("ride", 3)]) rfl sc_are_planned.nd (pi_list (pv 0)) (blkOk_by (own := [("every", 2), ("ride", 3)]) (N := ["thing", "pair", "every", "ride"]) (sc := defScope s_are_planned) (by decide +kernel)) (fun _ _ _ _ _ => (show PG _ _ (gTup K 2 _) from pg_tup rfl (pgs_cons (pg_name (i := 2) sc_are_planned.nd rfl (Or.inl rfl)) (pgs_cons (pg_name (i := 3) sc_are_planned.nd rfl (Or.inl rfl)) pgs_nil)))) (fun _ _ _ _ _ => pts_nil) (fun _ _ _ _ _ => (pv 2))) pa_nil))))))), ?_⟩
    refine ⟨_, rfl, isi_list hp Fr.sub ⟨_, rfl, iteF ?_⟩⟩
    refine ⟨_, rfl, rd_len hp Fr.sub ⟨_, _, rfl, rfl, _, rfl, ?_⟩⟩
    by_cases c1 : (1 : Int) ≤ (xs.length : Nat)
    · refine ifT c1 ⟨_, _, rfl, rfl, _, rfl, ?_⟩
      by_cases c2 : ((xs.length : Nat) : Int) ≤ 40
      · refine iteNS c2 ?_
        obtain ⟨a, e, q, T⟩ := tw_list hp
        refine ⟨_, rfl, a, e, q, lc_mapF (fun p : Int × Int => decide (1 ≤ p.1 ∧ 0 ≤ p.2)) T hA (by omega) (fun i x u H5 M5 C C0 hx up al s r hC => ?_) (fun D H5 s5 r5 => ?_)⟩
        · exact ⟨rfl, _, rfl, cl_is_pair r Fr.sub (hC _ _ (Same.refl _) rfl)⟩
        · refine rd_all r5 Fr.sub ?_
          rw [all_map]
          by_cases c3 : ∀ p ∈ xs, 1 ≤ p.1 ∧ 0 ≤ p.2
          · refine ⟨_, rfl, ifT c3 ?_⟩
            obtain ⟨a, e, q, T⟩ := tw_list (Rep.up (Fr.same s5) hp)
            refine ⟨_, rfl, a, e, q, lc_mapF (fun p : Int × Int => p.1) T (hA.same s5) (by omega) (fun i x u H6 M6 C C0 hx up al s r hC => ?_) (fun D H6 s6 r6 => ?_)⟩
            · refine rd_unP r Fr.sub fun u1 u2 e1 e2 => ?_
              cases e1
              exact ⟨rfl, _, rfl, hC _ _ (Same.refl _) rfl⟩
            · refine cl_do_fit r6 ((hA.same s5).same s6) (by rw [List.length_map]; omega) (fun x hx => ?_) fun H7 s7 => ?_
              · obtain ⟨p, hp, rfl⟩ := List.mem_map.mp hx
                exact (c3 p hp).1
              rw [show decide (FitP (xs.map fun p => p.1)) = decide (PairsOk xs) from decide_eq_decide.mpr ⟨fun z => ⟨⟨by omega, by omega⟩, c3, z⟩, fun z => z.2.2⟩]
              exact hq _ (s5.trans (s6.trans s7))
          · refine ⟨_, rfl, ifFd c3 ?_⟩
            have q9 := hq _ s5
            rw [show decide (PairsOk xs) = false from decide_eq_false fun z => c3 z.2.1] at q9
            exact q9
      · refine ifNT c2 ?_
        have q9 := hq H (Same.refl _)
        rw [show decide (PairsOk xs) = false from decide_eq_false fun z => c2 (by have := z.1.2; omega)] at q9
        exact q9
    · refine ifFd c1 ⟨_, rfl, ?_⟩
      have q9 := hq H (Same.refl _)
      rw [show decide (PairsOk xs) = false from decide_eq_false fun z => c1 (by have := z.1.1; omega)] at q9
      exact iteT q9
theorem cl_are_planned {K : Frag} {H : Hp} {Q : VK} {E : XK} {v : V} {M : Addr → Prop} {xs : List (Int × Int)} (hp : rp K (Fr M H) v xs) (hA : Alloc M H) (hl : xs.length ≤ 100000) (k : ∀ H', Same H H' → Q (.bl (decide (PairsOk xs))) H') : sq (sp_are_planned K) [v] H Q E := sqI ⟨v, M, xs, rfl, hp, hA, hl, k⟩
def sp_is_wish (K : Frag) : Sp := fun vs H Q E => ∃ (F : Hp) (v : V) (m : Int) (n : N3), vs = [.int m, v] ∧ (rp K F v n) ∧ (Same F H) ∧ Q (.bl (decide (WishOk1 m n))) H
theorem ok_is_wish (Z : Zs cks fns K mg) : FnOk PP w K mg base (L2.CX PP w) 5 (ga K "is_wish") (fdAt K (ga K "is_wish")) ["many", "thing"] (sp_is_wish K) := by
  refine L2.Fun.okX (u_is_wish Z) sc_is_wish (fun vs H Q E h => ?_) (fun cdv A outer s H vs Q E hr h => ?_)
  · obtain ⟨_, _, _, _, rfl, _⟩ := h
    rfl
  · obtain ⟨F, v, m, n, rfl, ⟨hp, hF, hq⟩⟩ := h
    refine ⟨_, (pss_cons (ps_if (PW.pt (pw_or (pt_not (pt_val (pe_callB (crq call_isi) rfl (n_isinstance Z) (by decide +kernel) (pa_cons (pv 1) (pa_cons (pe_bltn (v := .ty "tuple") (u := .type "tuple") rfl (n_tuple Z) (by decide +kernel) rfl) pa_nil))))) (pw_or1 (pt_cmpR op_ne (pe_callB (crq call_len_seq) rfl (n_len Z) (by decide +kernel) (pa_cons (pv 1) pa_nil)) pe_int (nomark _)))))
        (pss_one (ps_ret pe_bl))
        pss_nil)
      (pss_one (ps_ret (pe_and (pe_call (okq (ok_is_below Z)) (hr.mono (by decide)) rfl (g_is_below Z) (u_is_below Z).kp (b_is_below Z) .nil passL (pa_cons (pe_ix (ixq ix_tup) (pv 1) pe_int (fun _ _ => rfl)) (pa_cons (pv 0) pa_nil))) (pe_and (pe_call (okq (ok_is_below Z)) (hr.mono (by decide)) rfl (g_is_below Z) (u_is_below Z).kp (b_is_below Z) .nil passL (pa_cons (pe_ix (ixq ix_tup) (pv 1) pe_int (fun _ _ => rfl)) (pa_cons (pv 0) pa_nil))) (pe_one (pe_call (okq (ok_is_whole Z)) (hr.mono (by decide)) rfl (g_is_whole Z) (u_is_whole Z).kp (b_is_whole Z) .nil passL (pa_cons (pe_ix (ixq ix_tup) (pv 1) pe_int (fun _ _ => rfl)) (pa_cons pe_int pa_nil))))))))), ?_⟩
    refine ⟨_, rfl, isi_n3 hp hF ?_⟩
    refine ⟨_, rfl, iteF ⟨_, rfl, len_n3 hp hF ?_⟩⟩
    refine ⟨rfl, _, rfl, iteF ?_⟩
    refine ⟨_, rfl, rd_n0 hp hF ⟨_, rfl, cl_is_below ?_⟩⟩
    by_cases c1 : 0 ≤ n.e ∧ n.e < m
    · refine ⟨_, rfl, ifT c1 ⟨_, rfl, rd_n1 hp hF ⟨_, rfl, cl_is_below ?_⟩⟩⟩
      by_cases c2 : 0 ≤ n.a ∧ n.a < m
      · refine ⟨_, rfl, ifT c2 ⟨_, rfl, rd_n2 hp hF (cl_is_whole ?_)⟩⟩
        rw [show decide (WishOk1 m n) = decide (n.r ≥ 0) from decide_eq_decide.mpr ⟨fun z => z.2.2, fun z => ⟨c1, c2, z⟩⟩] at hq
        exact hq
      · refine ⟨_, rfl, ifFd c2 ?_⟩
        rw [show decide (WishOk1 m n) = false from decide_eq_false fun z => c2 z.2.1] at hq
        exact hq
    · refine ⟨_, rfl, ifFd c1 ?_⟩
      rw [show decide (WishOk1 m n) = false from decide_eq_false fun z => c1 z.1] at hq
      exact hq
theorem cl_is_wish {K : Frag} {H : Hp} {Q : VK} {E : XK} {F : Hp} {v : V} {m : Int} {n : N3} (hp : rp K F v n) (hF : Same F H) (k : Q (.bl (decide (WishOk1 m n))) H) : sq (sp_is_wish K) [.int m, v] H Q E := sqI ⟨F, v, m, n, rfl, hp, hF, k⟩
def sp_are_wishes (K : Frag) : Sp := fun vs H Q E => ∃ (v : V) (M : Addr → Prop) (m : Int) (xs : List N3), vs = [.int m, v] ∧ (rp K (Fr M H) v xs) ∧ (Alloc M H) ∧ (xs.length ≤ 100000) ∧ ∀ H', Same H H' → Q (.bl (decide (WishOk m xs))) H'
theorem ok_are_wishes (Z : Zs cks fns K mg) : FnOk PP w K mg base (L2.CX PP w) 7 (ga K "are_wishes") (fdAt K (ga K "are_wishes")) ["many", "thing"] (sp_are_wishes K) := by
  refine L2.Fun.okX (u_are_wishes Z) sc_are_wishes (fun vs H Q E h => ?_) (fun cdv A outer s H vs Q E hr h => ?_)
  · obtain ⟨_, _, _, _, rfl, _⟩ := h
    rfl
  · obtain ⟨v, M, m, xs, rfl, ⟨hp, hA, hl, hq⟩⟩ := h
    refine ⟨_, (pss_one (ps_ret (pe_and (pe_callB (crq call_isi) rfl (n_isinstance Z) (by decide +kernel) (pa_cons (pv 1) (pa_cons (pe_bltn (v := .ty "list") (u := .type "list") rfl (n_list Z) (by decide +kernel) rfl) pa_nil))) (pe_and (pe_cmpR op_le (pe_callB (crq call_len_seq) rfl (n_len Z) (by decide +kernel) (pa_cons (pv 1) pa_nil)) (C8.pe_gc rfl (i_MOST_WISHES_plans Z)) (nomark _)) (pe_one (pe_callB (crq (cr_all rfl)) rfl (n_all Z) (by decide +kernel) (pa_cons (pe_lc (own := [("wish", 2)]) rfl sc_are_wishes.nd (pi_list (pv 1)) (blkOk_by (own := [("wish", 2)]) (N := ["many", "thing", "wish"]) (sc := defScope s_are_wishes) (by decide +kernel)) (fun _ _ _ _ _ => (pg_name (i := 2) sc_are_wishes.nd rfl (Or.inl rfl))) (fun _ _ _ _ _ => pts_nil) (fun _ _ _ _ _ => (pe_call (okq (ok_is_wish Z)) (hr.mono (by decide)) rfl (g_is_wish Z) (u_is_wish Z).kp (b_is_wish Z) .nil passL (pa_cons (pv 0) (pa_cons (pv 2) pa_nil))))) pa_nil))))))), ?_⟩
    refine ⟨_, rfl, isi_list hp Fr.sub ⟨_, rfl, iteT ?_⟩⟩
    refine ⟨_, rfl, rd_len hp Fr.sub ?_⟩
    refine ⟨_, _, rfl, rfl, _, rfl, ?_⟩
    by_cases c1 : ((xs.length : Nat) : Int) ≤ 80
    · refine ifT c1 ?_
      obtain ⟨a, e, q, T⟩ := tw_list hp
      refine ⟨_, rfl, a, e, q, lc_mapF (fun n : N3 => decide (WishOk1 m n)) T hA (by omega) (fun i x u H5 M5 C C0 hx up al s r hC => ?_) (fun D H5 s5 r5 => ?_)⟩
      · exact ⟨rfl, _, rfl, _, rfl, cl_is_wish r Fr.sub (hC _ _ (Same.refl _) rfl)⟩
      · refine rd_all r5 Fr.sub ?_
        rw [all_map, show decide (∀ n ∈ xs, WishOk1 m n) = decide (WishOk m xs) from decide_eq_decide.mpr ⟨fun z => ⟨by omega, z⟩, fun z => z.2⟩]
        exact hq _ s5
    · refine ifFd c1 ?_
      have q9 := hq H (Same.refl _)
      rw [show decide (WishOk m xs) = false from decide_eq_false fun z => c1 (by have := z.1; omega)] at q9
      exact q9
theorem cl_are_wishes {K : Frag} {H : Hp} {Q : VK} {E : XK} {v : V} {M : Addr → Prop} {m : Int} {xs : List N3} (hp : rp K (Fr M H) v xs) (hA : Alloc M H) (hl : xs.length ≤ 100000) (k : ∀ H', Same H H' → Q (.bl (decide (WishOk m xs))) H') : sq (sp_are_wishes K) [.int m, v] H Q E := sqI ⟨v, M, m, xs, rfl, hp, hA, hl, k⟩
def sp_is_fixed (K : Frag) : Sp := fun vs H Q E => ∃ (F : Hp) (v : V) (u : V) (p : List (Int × Int)) (q : Int × Int), vs = [u, v] ∧ (rp K F u p) ∧ (rp K F v q) ∧ (Same F H) ∧ Q (.bl (decide (FixOk1 p q))) H
theorem ok_is_fixed (Z : Zs cks fns K mg) : FnOk PP w K mg base (L2.CX PP w) 5 (ga K "is_fixed") (fdAt K (ga K "is_fixed")) ["pairs", "thing"] (sp_is_fixed K) := by
  refine L2.Fun.okX (u_is_fixed Z) sc_is_fixed (fun vs H Q E h => ?_) (fun cdv A outer s H vs Q E hr h => ?_)
  · obtain ⟨_, _, _, _, _, rfl, _⟩ := h
    rfl
  · obtain ⟨F, v, u, p, q, rfl, ⟨hu, hp, hF, hq⟩⟩ := h
    refine ⟨_, (pss_cons (ps_if (PW.pt (pw_or (pt_not (pt_val (pe_callB (crq call_isi) rfl (n_isinstance Z) (by decide +kernel) (pa_cons (pv 1) (pa_cons (pe_bltn (v := .ty "tuple") (u := .type "tuple") rfl (n_tuple Z) (by decide +kernel) rfl) pa_nil))))) (pw_or (pt_cmpR op_ne (pe_callB (crq call_len_seq) rfl (n_len Z) (by decide +kernel) (pa_cons (pv 1) pa_nil)) pe_int (nomark _)) (pw_or1 (pt_not (pt_val (pe_call (okq (ok_is_below Z)) (hr.mono (by decide)) rfl (g_is_below Z) (u_is_below Z).kp (b_is_below Z) .nil passL (pa_cons (pe_ix (ixq ix_tup) (pv 1) pe_int (fun _ _ => rfl)) (pa_cons (pe_callB (crq call_len_seq) rfl (n_len Z) (by decide +kernel) (pa_cons (pv 0) pa_nil)) pa_nil)))))))))
        (pss_one (ps_ret pe_bl))
        pss_nil)
      (pss_one (ps_ret (pe_call (okq (ok_is_below Z)) (hr.mono (by decide)) rfl (g_is_below Z) (u_is_below Z).kp (b_is_below Z) .nil passL (pa_cons (pe_ix (ixq ix_tup) (pv 1) pe_int (fun _ _ => rfl)) (pa_cons (pe_ix (ixq ix_tup) (pe_ix (ixq ix_list) (pv 0) (pe_ix (ixq ix_tup) (pv 1) pe_int (fun _ _ => rfl)) (fun _ _ => rfl)) pe_int (fun _ _ => rfl)) pa_nil)))))), ?_⟩
    refine ⟨_, rfl, isi_pair hp hF ⟨_, rfl, iteF ?_⟩⟩
    refine ⟨_, rfl, len_pair hp hF ?_⟩
    refine ⟨rfl, _, rfl, iteF ?_⟩
    refine ⟨_, rfl, rd_p0 hp hF fun u1 e1 => ?_⟩
    cases e1
    refine ⟨_, rfl, rd_len hu hF (cl_is_below ?_)⟩
    by_cases c1 : 0 ≤ q.1 ∧ q.1 < (p.length : Nat)
    · refine ⟨_, rfl, iteNS c1 ?_⟩
      refine ⟨_, rfl, rd_p1 hp hF fun u1 e1 => ?_⟩
      cases e1
      refine ⟨_, rfl, _, rfl, rd_p0 hp hF fun u1 e1 => ?_⟩
      cases e1
      refine rd_ixL hu hF (lineAt_at c1.1 c1.2).1 fun u3 e3 => ?_
      refine rd_p0 e3 hF fun u4 e4 => ?_
      cases e4
      refine cl_is_below ?_
      rw [show decide (0 ≤ q.2 ∧ q.2 < (lineAt p q.1).1) = decide (FixOk1 p q) from decide_eq_decide.mpr ⟨fun z => ⟨c1, z⟩, fun z => z.2⟩]
      exact hq
    · refine ⟨_, rfl, ifNT c1 ?_⟩
      rw [show decide (FixOk1 p q) = false from decide_eq_false fun z => c1 z.1] at hq
      exact hq
theorem cl_is_fixed {K : Frag} {H : Hp} {Q : VK} {E : XK} {F : Hp} {v : V} {u : V} {p : List (Int × Int)} {q : Int × Int} (hu : rp K F u p) (hp : rp K F v q) (hF : Same F H) (k : Q (.bl (decide (FixOk1 p q))) H) : sq (sp_is_fixed K) [u, v] H Q E := sqI ⟨F, v, u, p, q, rfl, hu, hp, hF, k⟩
def sp_are_fixed (K : Frag) : Sp := fun vs H Q E => ∃ (v : V) (M : Addr → Prop) (u : V) (p : List (Int × Int)) (xs : List (Int × Int)), vs = [u, v] ∧ (rp K (Fr M H) u p) ∧ (rp K (Fr M H) v xs) ∧ (Alloc M H) ∧ (xs.length ≤ 1000) ∧ ∀ H', Same H H' → Q (.bl (decide (FixOk p xs))) H'
theorem ok_are_fixed (Z : Zs cks fns K mg) : FnOk PP w K mg base (L2.CX PP w) 7 (ga K "are_fixed") (fdAt K (ga K "are_fixed")) ["pairs", "thing"] (sp_are_fixed K) := by
  refine L2.Fun.okX (u_are_fixed Z) sc_are_fixed (fun vs H Q E h => ?_) (fun cdv A outer s H vs Q E hr h => ?_)
  · obtain ⟨_, _, _, _, _, rfl, _⟩ := h
    rfl
  · obtain ⟨v, M, u, p, xs, rfl, ⟨hu, hp, hA, hl, hq⟩⟩ := h
    refine ⟨_, (pss_cons (ps_if (PW.pt (pw_or (pt_not (pt_val (pe_callB (crq call_isi) rfl (n_isinstance Z) (by decide +kernel) (pa_cons (pv 1) (pa_cons (pe_bltn (v := .ty "list") (u := .type "list") rfl (n_list Z) (by decide +kernel) rfl) pa_nil))))) (pw_or1 (pt_not (pt_val (pe_callB (crq (cr_all rfl)) rfl (n_all Z) (by decide +kernel) (pa_cons (pe_lc (own := [("one", 4)]) rfl sc_are_fixed.nd (pi_list (pv 1)) (blkOk_by (own := [("one", 4)]) (N := ["pairs", "thing", "line", "at", "one"]) (sc := defScope s_are_fixed) (by decide +kernel)) (fun _ _ _ _ _ => (pg_name (i := 4) sc_are_fixed.nd rfl (Or.inl rfl))) (fun _ _ _ _ _ => pts_nil) (fun _ _ _ _ _ => (pe_call (okq (ok_is_fixed Z)) (hr.mono (by decide)) rfl (g_is_fixed Z) (u_is_fixed Z).kp (b_is_fixed Z) .nil passL (pa_cons (pv 0) (pa_cons (pv 4) pa_nil))))) pa_nil)))))))
        (pss_one (ps_ret pe_bl))
        pss_nil)
      (pss_one (ps_ret (pe_cmpR op_eq (pe_callB (crq call_len_set) rfl (n_len Z) (by decide +kernel) (pa_cons (pe_scI (own := [("line", 2), ("at", 3)]) rfl sc_are_fixed.nd (pi_list (pv 1)) (blkOk_by (own := [("line", 2), ("at", 3)]) (N := ["pairs", "thing", "line", "at", "one"]) (sc := defScope s_are_fixed) (by decide +kernel)) (fun _ _ _ _ _ => (show PG _ _ (gTup K 2 _) from pg_tup rfl (pgs_cons (pg_name (i := 2) sc_are_fixed.nd rfl (Or.inl rfl)) (pgs_cons (pg_name (i := 3) sc_are_fixed.nd rfl (Or.inl rfl)) pgs_nil)))) (fun _ _ _ _ _ => (pv 2))) pa_nil)) (pe_callB (crq call_len_seq) rfl (n_len Z) (by decide +kernel) (pa_cons (pv 1) pa_nil)) (nomark _))))), ?_⟩
    refine ⟨_, rfl, isi_list hp Fr.sub ⟨_, rfl, iteF ?_⟩⟩
    obtain ⟨a, e, q, T⟩ := tw_list hp
    refine ⟨_, rfl, a, e, q, lc_mapF (fun n : Int × Int => decide (FixOk1 p n)) T hA (by omega) (fun i x u2 H5 M5 C C0 hx up al s r hC => ?_) (fun D H5 s5 r5 => ?_)⟩
    · exact ⟨rfl, _, rfl, _, rfl, cl_is_fixed (Rep.up up hu) r Fr.sub (hC _ _ (Same.refl _) rfl)⟩
    refine rd_all r5 Fr.sub ?_
    rw [all_map]
    by_cases c1 : ∀ n ∈ xs, FixOk1 p n
    · refine ⟨_, rfl, iteNS c1 ?_⟩
      obtain ⟨a, e, q, T⟩ := tw_list (Rep.up (Fr.same s5) hp)
      refine ⟨_, rfl, a, e, q, sc_ints (fun n : Int × Int => n.1) T (hA.same s5) hl (fun i x u2 H6 C hx up al r hC => ?_) (fun D6 H6 S6 n6 s6 eD hn6 nd6 => ?_)⟩
      · refine rd_unP r Fr.sub fun u1 u2 e1 e2 => ?_
        cases e1
        exact ⟨rfl, _, rfl, hC _ (Same.refl _)⟩
      · refine call_lenS eD (by omega) ?_
        refine ⟨_, rfl, rd_len (Rep.up (Fr.same (s5.trans s6)) hp) Fr.sub ?_⟩
        refine ⟨rfl, ?_⟩
        rw [dvi]
        rw [show decide (((n6 : Nat) : Int) = ((xs.length : Nat) : Int)) = decide (FixOk p xs) from decide_eq_decide.mpr ⟨fun z => ⟨c1, nd6.mp (by omega)⟩, fun z => by have := nd6.mpr z.2; omega⟩]
        exact hq _ (s5.trans s6)
    · refine ⟨_, rfl, ifNT c1 ?_⟩
      have q9 := hq _ s5
      rw [show decide (FixOk p xs) = false from decide_eq_false fun z => c1 z.1] at q9
      exact q9
theorem cl_are_fixed {K : Frag} {H : Hp} {Q : VK} {E : XK} {v : V} {M : Addr → Prop} {u : V} {p : List (Int × Int)} {xs : List (Int × Int)} (hu : rp K (Fr M H) u p) (hp : rp K (Fr M H) v xs) (hA : Alloc M H) (hl : xs.length ≤ 1000) (k : ∀ H', Same H H' → Q (.bl (decide (FixOk p xs))) H') : sq (sp_are_fixed K) [u, v] H Q E := sqI ⟨v, M, u, p, xs, rfl, hu, hp, hA, hl, k⟩
end
section
variable {w : World} {K : Frag} {mg : Str → Option Value} {base : Heap}
def sp_Edge_init (K : Frag) : Sp := fun vs H Q E => ∃ (p : Addr) (dx : Addr) (x : Ed), vs = [.ref p, .int x.n, .int x.b, .int x.e, .int x.s, .int x.m] ∧ (H p = some (.ins (ga K "Edge") dx [])) ∧ Q .non (upd H p (.ins (ga K "Edge") dx (edF x)))
theorem ok_Edge_init (Z : Zs cks fns K mg) : FnOk PP w K mg base (L2.CX PP w) 1 (ma K (ga K "Edge") "__init__") (fdAt K (ma K (ga K "Edge") "__init__")) ["self", "number", "begin", "end", "shift", "modulus"] (sp_Edge_init K) := by
  refine L2.Fun.okX (u_Edge_init Z) sc_Edge_init (fun vs H Q E h => ?_) (fun cdv A outer s H vs Q E hr h => ?_)
  · obtain ⟨_, _, _, rfl, _⟩ := h
    rfl
  · obtain ⟨p, dx, x, rfl, ⟨hp, hq⟩⟩ := h
    refine ⟨_, (pss_cons (ps_fld (pv 0) (pv 1) rfl)
      (pss_cons (ps_fld (pv 0) (pv 2) rfl)
      (pss_cons (ps_fld (pv 0) (pv 3) rfl)
      (pss_cons (ps_fld (pv 0) (pv 4) rfl)
      (pss_one (ps_fld (pv 0) (pv 5) rfl)))))), ?_⟩
    refine ⟨_, rfl, _, rfl, p, _, dx, _, rfl, hp, c_Edge Z, na_Edge_number Z, (by first | exact pl0 | exact pl1 | exact pl2 | exact pl3 | exact pl4 | exact plE), ?_⟩
    refine ⟨_, rfl, _, rfl, p, _, dx, _, rfl, upd_same, c_Edge Z, na_Edge_begin Z, (by first | exact pl0 | exact pl1 | exact pl2 | exact pl3 | exact pl4 | exact plE), ?_⟩
    refine ⟨_, rfl, _, rfl, p, _, dx, _, rfl, upd_same, c_Edge Z, na_Edge_end Z, (by first | exact pl0 | exact pl1 | exact pl2 | exact pl3 | exact pl4 | exact plE), ?_⟩
    refine ⟨_, rfl, _, rfl, p, _, dx, _, rfl, upd_same, c_Edge Z, na_Edge_shift Z, (by first | exact pl0 | exact pl1 | exact pl2 | exact pl3 | exact pl4 | exact plE), ?_⟩
    refine ⟨_, rfl, _, rfl, p, _, dx, _, rfl, upd_same, c_Edge Z, na_Edge_modulus Z, (by first | exact pl0 | exact pl1 | exact pl2 | exact pl3 | exact pl4 | exact plE), ?_⟩
    rw [upd_upd, upd_upd, upd_upd, upd_upd, ed_new]
    exact hq
theorem cl_Edge_init {K : Frag} {H : Hp} {Q : VK} {E : XK} {p : Addr} {dx : Addr} {x : Ed} (hp : H p = some (.ins (ga K "Edge") dx [])) (k : Q .non (upd H p (.ins (ga K "Edge") dx (edF x)))) : sq (sp_Edge_init K) [.ref p, .int x.n, .int x.b, .int x.e, .int x.s, .int x.m] H Q E := sqI ⟨p, dx, x, rfl, hp, k⟩
theorem mk_Edge {K : Frag} {H : Hp} {Q : VK} {E : XK} {M : Addr → Prop} {x : Ed} (al : Alloc M H) (k : ∀ u H', Same H H' → rp K (Fr M H') u x → Q u H') : sqc (rMake (ga K "Edge") (sq (sp_Edge_init K)) E) [.int x.n, .int x.b, .int x.e, .int x.s, .int x.m] H Q := by
  rw [sqc_eq]
  intro p dx hp hd hne
  have s := mk_same (o := .own p) (o1 := .ins (ga K "Edge") dx []) (o2 := .ins (ga K "Edge") dx (edF x)) hp hd
  exact cl_Edge_init upd_same ⟨rfl, k _ _ s ⟨p, dx, rfl, Fr.get (al.new hp) upd_same⟩⟩

def sp_Forest_take (K : Frag) : Sp := fun vs H Q E => ∃ (M : Addr → Prop) (X : FA) (f : FS) (v : V) (e : Ed), vs = [.ref X.W, v] ∧ (Fo K M H X f) ∧ (Alloc M H) ∧ (rp K (Fr M H) v e) ∧ (0 ≤ e.b ∧ e.b < (f.near.length : Nat)) ∧ (0 ≤ e.e ∧ e.e < (f.near.length : Nat)) ∧ (f.chosen.length ≤ 1000) ∧ (∀ row ∈ f.near, row.length ≤ 1000) ∧ ∀ H', Fo K M H' X ⟨takeN f.near e, f.chosen ++ [e], f.torn⟩ → Alloc M H' → Ext (fM X) H H' → Q .non H'
theorem ok_Forest_take (Z : Zs cks fns K mg) : FnOk PP w K mg base (L2.CX PP w) 2 (ma K (ga K "Forest") "take") (fdAt K (ma K (ga K "Forest") "take")) ["self", "edge"] (sp_Forest_take K) := by
  refine L2.Fun.okX (u_Forest_take Z) sc_Forest_take (fun vs H Q E h => ?_) (fun cdv A outer s H vs Q E hr h => ?_)
  · obtain ⟨_, _, _, _, _, rfl, _⟩ := h
    rfl
  · obtain ⟨M, X, f, v, e, rfl, ⟨hf, hA, hv, hb, he, hc, hr, hq⟩⟩ := h
    refine ⟨_, (pss_cons (ps_expr (pe_bm PySem.F.plainAttrs_list PySem.F.slot_list_append PySem.F.type_list_append (mtq mt_append) (pe_fld (pv 0) rfl) (pa_cons (pv 1) pa_nil)))
      (pss_one (ps_for (passes_of rfl) rfl (pi_tup (pe_tupQ (pe_tup (pa_cons (pe_ix (ixq ix_list) (pe_fld (pv 0) rfl) (pe_fld (pv 1) rfl) (fun _ _ => rfl)) (pa_cons (pe_ix (ixq ix_list) (pe_fld (pv 0) rfl) (pe_fld (pv 1) rfl) (fun _ _ => rfl)) pa_nil))))) (pg_name (i := 2) sc_Forest_take.nd rfl (Or.inl rfl))
        (pss_one (ps_expr (pe_bm PySem.F.plainAttrs_list PySem.F.slot_list_append PySem.F.type_list_append (mtq mt_append) (pv 2) (pa_cons (pv 1) pa_nil))))))), ?_⟩
    obtain ⟨t, o, rt⟩ := hf.o
    obtain ⟨vs, eC, pC⟩ := hf.c
    refine ⟨_, rfl, X.W, _, X.dx, _, _, rfl, o, c_Forest Z, na_Forest_chosen Z, fo_c, .inl ⟨rfl, _, SqL.of eC⟩, _, rfl, ?_⟩
    show sqm rAppend (.ref X.C) [v] H _
    rw [sqm_eq]
    obtain ⟨f2, x2, s2⟩ := hf.choose eC hv
    have a2 : Alloc M (upd H X.C (.lst (vs ++ [v]))) := hA.wrM trivial
    refine ⟨X.C, vs, v, rfl, rfl, eC, Nat.lt_of_le_of_lt (show vs.length ≤ 1000 by rw [Paired.length pC]; exact hc) (by decide), ?_⟩
    have hv2 := Rep.up s2 hv
    generalize upd H X.C (.lst (vs ++ [v])) = H2 at *
    obtain ⟨p, pdx, rfl, ee⟩ := id hv2
    obtain ⟨t2, o2, rt2⟩ := f2.o
    obtain ⟨b1, row1, eb1, er1, q1, m1⟩ := f2.rowAt (i := e.b.toNat) (by show _ < f.near.length; omega)
    obtain ⟨b2, row2, eb2, er2, q2, m2⟩ := f2.rowAt (i := e.e.toNat) (by show _ < f.near.length; omega)
    refine ⟨_, rfl, X.W, _, X.dx, _, _, rfl, o2, c_Forest Z, na_Forest_near Z, fo_n, _, rfl, p, _, pdx, _, _, rfl, Fr.sub _ _ ee, c_Edge Z, na_Edge_begin Z, ed_b, ix_raw (SqL.of f2.n) (atI_nn hb.1 (by rw [List.getElem?_map, eb1]; rfl)) ?_⟩
    refine ⟨_, rfl, X.W, _, X.dx, _, _, rfl, o2, c_Forest Z, na_Forest_near Z, fo_n, _, rfl, p, _, pdx, _, _, rfl, Fr.sub _ _ ee, c_Edge Z, na_Edge_end Z, ed_e, ix_raw (SqL.of f2.n) (atI_nn he.1 (by rw [List.getElem?_map, eb2]; rfl)) ?_⟩
    show sqc rTupD [.ref b1, .ref b2] H2 _
    rw [sqc_eq]
    refine ⟨(by show 2 ≤ sizeLine; decide), fun T hT => ?_⟩
    have s3 : Same H2 (upd H2 T (.tup [.ref b1, .ref b2])) := Same.new hT
    have eT : upd H2 T (.tup [.ref b1, .ref b2]) T = some (.tup [.ref b1, .ref b2]) := upd_same
    generalize upd H2 T (.tup [.ref b1, .ref b2]) = H3 at *
    have nT : ¬ M T := a2.new hT
    refine ⟨T, rfl, ⟨_, SqT.of eT⟩, for_it (walk_tup (xs := [.ref b1, .ref b2])) (fun i σ H' => ∃ z, σ = [some (.ref X.W), some (.ref p), z] ∧ Fo K M H' X ⟨nearI f.near e i, f.chosen ++ [e], f.torn⟩ ∧ Alloc M H' ∧ Ext (fM X) H3 H') ⟨_, rfl, f2.same s3, a2.same s3, Ext.refl⟩ (fun i σ H' _ h => ?_) ?_ ?_⟩
    · obtain ⟨z, rfl, h1, h2, h3⟩ := h
      exact SqT.of (h3 _ _ (fun m => nT (f2.sub _ m)) eT)
    · rintro i x σ H4 H5 hi ⟨z, rfl, h1, h2, h3⟩ ⟨rfl, hx⟩
      have i2 : i < 2 := hi
      have hv4 : rp K (Fr M H5) (.ref p) e := Rep.up ((Fr.same s3).trans (Fr.ext (Ext.sub f2.sub h3))) hv2
      obtain ⟨b, j, ebj, ex, en, hl⟩ : ∃ b j, X.R[j]? = some b ∧ x = .ref b ∧ nearI f.near e (i + 1) = (nearI f.near e i).modify j (· ++ [e]) ∧ ∀ row ∈ nearI f.near e i, row.length ≤ 1001 := by
        match i, i2, hx with
        | 0, _, hx => exact ⟨b1, _, eb1, (Option.some.inj hx).symm, rfl, fun row hw => Nat.le_succ_of_le (hr row hw)⟩
        | 1, _, hx => exact ⟨b2, _, eb2, (Option.some.inj hx).symm, rfl, modLen hr⟩
      subst ex
      obtain ⟨row, erow, ws, ew, pw⟩ := pd_getL h1.r ebj
      refine ⟨_, rfl, .inl ⟨rfl, _, SqL.of ew⟩, _, rfl, ?_⟩
      obtain ⟨f6, x6, s6⟩ := h1.grow ebj ew hv4
      refine ⟨b, ws, _, rfl, rfl, ew, Nat.lt_of_le_of_lt (show ws.length ≤ 1001 by rw [Paired.length pw]; exact hl row (List.mem_of_getElem? erow)) (by decide), _, rfl, ?_, h2.wrM trivial, h3.trans x6⟩
      rw [en]
      exact f6
    · rintro σ H4 ⟨z, rfl, h1, h2, h3⟩
      exact hq _ h1 h2 (x2.trans ((Ext.same s3).trans h3))
theorem cl_Forest_take {K : Frag} {H : Hp} {Q : VK} {E : XK} {M : Addr → Prop} {X : FA} {f : FS} {v : V} {e : Ed} (hf : Fo K M H X f) (hA : Alloc M H) (hv : rp K (Fr M H) v e) (hb : 0 ≤ e.b ∧ e.b < (f.near.length : Nat)) (he : 0 ≤ e.e ∧ e.e < (f.near.length : Nat)) (hc : f.chosen.length ≤ 1000) (hr : ∀ row ∈ f.near, row.length ≤ 1000) (k : ∀ H', Fo K M H' X ⟨takeN f.near e, f.chosen ++ [e], f.torn⟩ → Alloc M H' → Ext (fM X) H H' → Q .non H') : sq (sp_Forest_take K) [.ref X.W, v] H Q E := sqI ⟨M, X, f, v, e, rfl, hf, hA, hv, hb, he, hc, hr, k⟩
end
section
variable {w : World} {K : Frag} {mg : Str → Option Value} {base : Heap}
def sp_Forest_reached (K : Frag) : Sp := fun vs H Q E => ∃ (M : Addr → Prop) (v : V) (f : FS) (i : Int), vs = [v, .int i] ∧ (rp K (Fr M H) v f) ∧ (Alloc M H) ∧ (NearOk f.near) ∧ (0 ≤ i) ∧ (i < (f.near.length : Nat)) ∧ (f.near.length ≤ 1000) ∧ ∀ D H', Same H H' → H D = none → rp K (Fr M H') (.ref D) (⟨reachF f.near i⟩ : RD) → Q (.ref D) H'
theorem ok_Forest_reached (Z : Zs cks fns K mg) : FnOk PP w K mg base (L2.CX PP w) 4 (ma K (ga K "Forest") "reached") (fdAt K (ma K (ga K "Forest") "reached")) ["self", "start"] (sp_Forest_reached K) := by
  refine L2.Fun.okX (u_Forest_reached Z) sc_Forest_reached (fun vs H Q E h => ?_) (fun cdv A outer s H vs Q E hr h => ?_)
  · obtain ⟨_, _, _, _, rfl, _⟩ := h
    rfl
  · obtain ⟨M, v, f, i, rfl, ⟨hv, hA, ok, h0, h1, hz, hq⟩⟩ := h
    refine ⟨_, (pss_cons (ps_set (i := 2) sc_Forest_reached.nd rfl (Or.inl rfl) (pe_disp (pps_cons (pv 1) (pe_tupQ (pe_tup (pa_cons pe_int (pa_cons pe_non (pa_cons (pe_lstQ (pe_lst pa_nil)) pa_nil))))) pps_nil) (by rfl) (by rfl) (fun z => by cases z) (by decide)))
      (pss_cons (ps_set (i := 3) sc_Forest_reached.nd rfl (Or.inl rfl) (pe_lstQ (pe_lst (pa_cons (pv 1) pa_nil))))
      (C8.pss_cut (ps_while (passes_of rfl) (pt_cmpR (opq (op_neE hr.units)) (pv 3) (pe_lstQ (pe_lst pa_nil)) (nomark _))
        (pss_cons (ps_set (i := 4) sc_Forest_reached.nd rfl (Or.inl rfl) (pe_bm0 PySem.F.plainAttrs_list PySem.F.slot_list_pop PySem.F.type_list_pop mt_pop (pv 3)))
      (pss_cons (ps_asg (pe_dget (u1 hr.units) (pv 2) (pv 4) (fun _ _ => rfl)) (pg_tup rfl (pgs_cons (pg_name (i := 5) sc_Forest_reached.nd rfl (Or.inl rfl)) (pgs_cons (pg_name (i := 6) sc_Forest_reached.nd rfl (Or.inl rfl)) (pgs_cons (pg_name (i := 7) sc_Forest_reached.nd rfl (Or.inl rfl)) pgs_nil)))))
      (pss_one (ps_for (passes_of rfl) rfl (pi_list (pe_ix (ixq ix_list) (pe_fld (pv 0) rfl) (pv 4) (fun _ _ => rfl))) (pg_name (i := 8) sc_Forest_reached.nd rfl (Or.inl rfl))
        (pss_cons (ps_set (i := 9) sc_Forest_reached.nd rfl (Or.inl rfl) (pe_cmpR op_eq (pe_fld (pv 8) rfl) (pv 4) (nomark _)))
      (pss_cons (ps_set (i := 10) sc_Forest_reached.nd rfl (Or.inl rfl) (pe_ifQ (pe_ifExp (pt_val (pv 9)) (pe_fld (pv 8) rfl) (pe_fld (pv 8) rfl))))
      (pss_one (ps_if (pt_cmp (pc_dnotin (u1 hr.units) (pv 10) (pv 2)) (by rfl))
        (pss_cons (ps_set (i := 11) sc_Forest_reached.nd rfl (Or.inl rfl) (pe_ifQ (pe_ifExp (pt_cmpR op_isN (pv 6) pe_non (nomark _)) (pe_fld (pv 8) rfl) (pe_callB (call_min2 rfl) rfl (n_min Z) (by decide +kernel) (pa_cons (pv 6) (pa_cons (pe_fld (pv 8) rfl) pa_nil))))))
      (pss_cons (ps_asg (pe_tupQ (pe_tup (pa_cons (pe_op op_add (pv 5) (pe_ifQ (pe_ifExp (pt_val (pv 9)) (pe_fld (pv 8) rfl) (pe_un un_neg (pe_fld (pv 8) rfl))))) (pa_cons (pv 11) (pa_cons (pe_lstQ (pe_lst (StX.pa_star (pv 7) (pa_cons (pe_tupQ (pe_tup (pa_cons (pv 8) (pa_cons (pv 9) pa_nil)))) pa_nil)))) pa_nil))))) (pg_sub (pv 2) (pv 10) (set_dict (u1 hr.units))))
      (pss_one (ps_expr (pe_bm PySem.F.plainAttrs_list PySem.F.slot_list_append PySem.F.type_list_append (mtq mt_append) (pv 3) (pa_cons (pv 10) pa_nil))))))
        pss_nil)))))))))
      (pss_one (ps_ret (pv 2)))))), ?_⟩
    obtain ⟨p, pdx, l, c, t, rfl, ep, rl, rc, rt⟩ := id hv
    intro D hD
    have s1 : Same H (upd H D (.dK [])) := Same.new hD
    have A1 : Alloc (Ad D M) (upd H D (.dK [])) := hA.putO trivial
    have e1 : upd H D (.dK []) D = some (.dK []) := upd_same
    generalize upd H D (.dK []) = H1 at *
    refine ⟨_, rfl, rd_lst (K := K) (xs := ([] : List (Ed × Bool))) A1 (by decide) .nil fun v1 H2 s2 r2 => ?_⟩
    refine rd_tupT (x := (0 : Int)) (y := (none : Option Int)) (A1.same s2) rfl rfl r2 fun v3 H3 s3 r3 => ?_
    refine ⟨s3 _ _ (s2 _ _ e1), [(.inl i, v3)], rfl, (by show 1 ≤ 15; decide), ?_⟩
    have s4 : Same H (upd H3 D (.dK (mergeK [] [(Sum.inl i, v3)]))) := fun b o e => by
      rw [upd_ne (ne_of_none e hD)]
      exact s3 _ _ (s2 _ _ (s1 _ _ e))
    have e4 : upd H3 D (.dK (mergeK [] [(Sum.inl i, v3)])) D = some (.dK [(.inl i, v3)]) := upd_same
    have A4 : Alloc (Ad D M) (upd H3 D (.dK (mergeK [] [(Sum.inl i, v3)]))) := ((A1.same s2).same s3).wrM trivial
    have r4 := Rep.up (Fr.wr (H := H3) (o := .dK (mergeK [] [(Sum.inl i, v3)])) (show Ad D M D from .inl rfl)) r3
    generalize upd H3 D (.dK (mergeK [] [(Sum.inl i, v3)])) = H4 at *
    refine ⟨_, rfl, sqcI (r := rLstD) ⟨(by show 1 ≤ sizeLine; decide), fun Wl hW => ?_⟩⟩
    have s5 : Same H (upd H4 Wl (.lst [.int i])) := s4.trans (Same.new hW)
    have R5 : Rs K (Ad Wl (Ad D M)) (upd H4 Wl (.lst [.int i])) D Wl (start9 i) := ⟨⟨_, by rw [upd_ne (ne_of_none e4 hW)]; exact e4, .cons ⟨rfl, Rep.up (Fr.put hW) r4⟩ .nil⟩, upd_same, .inr (.inl rfl), .inl rfl, A4.putO trivial⟩
    have nW : H Wl = none := Same.fin s4 hW
    generalize upd H4 Wl (.lst [.int i]) = H5 at *
    refine ⟨fun σ H' => ∃ (st : St9) (z4 z5 z6 z7 z8 z9 z10 z11 : Option V), σ = [some (.ref p), some (.int i), some (.ref D), some (.ref Wl), z4, z5, z6, z7, z8, z9, z10, z11] ∧ Same H H' ∧ Rs K (Ad Wl (Ad D M)) H' D Wl st ∧ st.1 = reachF f.near i, ?_, ?_⟩
    · refine ⟨fun m σ H' => ∃ (j : Nat) (z4 z5 z6 z7 z8 z9 z10 z11 : Option V), j ≤ 2 * f.near.length ∧ m = 2 * f.near.length - j ∧ σ = [some (.ref p), some (.int i), some (.ref D), some (.ref Wl), z4, z5, z6, z7, z8, z9, z10, z11] ∧ Same H H' ∧ Rs K (Ad Wl (Ad D M)) H' D Wl (iter9 f.near (start9 i) j), ⟨_, 0, _, _, _, _, _, _, _, _, Nat.zero_le _, rfl, rfl, s5, R5⟩, ?_⟩
      rintro m σ H6 ⟨j, z4, z5, z6, z7, z8, z9, z10, z11, hj, rfl, rfl, s6, R6⟩
      obtain ⟨okJ, mJ⟩ := iter9_ok ok h0 h1 j
      obtain ⟨st, hst⟩ : ∃ st, iter9 f.near (start9 i) j = st := ⟨_, rfl⟩
      have hst1 : iter9 f.near (start9 i) (j + 1) = turn9 f.near st := by rw [← hst]; rfl
      rw [hst] at okJ mJ R6
      refine ⟨_, rfl, sqcI (r := rLstD) ⟨Nat.zero_le _, fun q hq0 => ?_⟩⟩
      have s7 := Same.new (o := .lst []) hq0
      have R7 := R6.same s7
      refine ne_nil (SqL.of R7.w) (SqL.of upd_same) ?_
      have s67 := s6.trans s7
      generalize upd H6 q (.lst []) = H7 at *
      cases hl : st.2.getLast? with
      | none =>
        have e0 : st.2 = [] := List.getLast?_eq_none_iff.mp hl
        rw [e0]
        refine ⟨_, rfl, iteF ?_⟩
        exact ⟨st, _, _, _, _, _, _, _, _, rfl, s67, R7, by rw [← hst]; exact (reach_at ok h0 h1 hj (by rw [hst]; exact e0)).symm⟩
      | some here =>
        have ne : st.2 ≠ [] := fun z => by rw [z] at hl; cases hl
        have ne2 : (!(st.2.map V.int).isEmpty) = true := by
          cases hs2 : st.2 with
          | nil => exact absurd hs2 ne
          | cons _ _ => rfl
        rw [ne2]
        have mj := mJ ne
        have lp := List.length_pos_iff.mpr ne
        have j1 : j + 1 ≤ 2 * f.near.length := by
          unfold meas9 at mj
          omega
        refine ⟨_, rfl, iteT ⟨fun σ' H' => ∃ (z4 z5 z6 z7 z8 z9 z10 z11 : Option V), σ' = [some (.ref p), some (.int i), some (.ref D), some (.ref Wl), z4, z5, z6, z7, z8, z9, z10, z11] ∧ Same H H' ∧ Rs K (Ad Wl (Ad D M)) H' D Wl (turn9 f.near st), fun σ' H' h => ?_, ?_⟩⟩
        · obtain ⟨z4, z5, z6, z7, z8, z9, z10, z11, e, h2, h3⟩ := h
          exact ⟨_, by omega, j + 1, _, _, _, _, _, _, _, _, j1, rfl, e, h2, by rw [hst1]; exact h3⟩
        refine ⟨_, rfl, .inl ⟨rfl, _, SqL.of R7.w⟩, Wl, st.2.map V.int, .int here, rfl, rfl, R7.w, (by rw [List.length_map, List.getElem?_map, ← List.getLast?_eq_getElem?, hl]; rfl), ?_⟩
        obtain ⟨R8, x8⟩ := R7.pop
        have s8 : Same H (upd H7 Wl (.lst (st.2.map V.int).dropLast)) := fun b o e => x8 _ _ (fun z => z.elim (fun z => by rw [z, hD] at e; cases e) fun z => by rw [z, nW] at e; cases e) (s67 _ _ e)
        generalize upd H7 Wl (.lst (st.2.map V.int).dropLast) = H8 at *
        have hin : here ∈ st.1.map Prod.fst := okJ.sub here (List.mem_of_getLast? hl)
        obtain ⟨kvs, u, r, eD, ev, er, ru⟩ := R8.get hin
        refine ⟨_, rfl, _, rfl, D, u, rfl, (by have g := DGet.k (k := Sum.inl here) eD; rw [ev] at g; exact g), ?_⟩
        refine rd_unT ru Fr.sub fun w1 w2 w3 g1 g2 g3 => ?_
        obtain rfl : w1 = V.int r.a := g1
        obtain ⟨pp, hpp, epp⟩ := List.mem_map.mp hin
        have hb := okJ.bd pp hpp
        rw [epp] at hb
        obtain ⟨p', pdx', l', c', t', ee, ep8, rl8, _, _⟩ := Rep.up (fr_two s8 hD nW) hv
        cases ee
        obtain ⟨row, erow⟩ : ∃ row, f.near[here.toNat]? = some row := ⟨_, List.getElem?_eq_getElem (by omega)⟩
        have rw9 : rowAt f.near here = row := by
          unfold rowAt
          rw [erow]
          rfl
        refine ⟨_, rfl, p, _, _, _, _, rfl, Fr.sub _ _ ep8, c_Forest Z, na_Forest_near Z, fo_n, _, rfl, rd_ixL rl8 Fr.sub (atI_nn hb.1 erow) fun ur er9 => ?_⟩
        obtain ⟨a, ea, qa, T⟩ := tw_list er9
        refine ⟨a, ea, qa, for_tw T (Ad Wl (Ad D M)) (fun n σ H' => ∃ (z8 z9 z10 z11 : Option V), σ = [some (.ref p), some (.int i), some (.ref D), some (.ref Wl), some (.int here), some (.int r.a), some w2, some w3, z8, z9, z10, z11] ∧ Ext (fun b => b = D ∨ b = Wl) H8 H' ∧ Rs K (Ad Wl (Ad D M)) H' D Wl ((row.take n).foldl (goE here r) (st.1, st.2.dropLast))) ⟨_, _, _, _, rfl, Ext.refl, R8⟩ ?_ ?_ ?_⟩
        · rintro n σ H9 ⟨z8, z9, z10, z11, rfl, x9, R9⟩
          exact ⟨Fr.ext (Ext.sub (fun b z => z.elim (fun z => .inr (.inl z)) .inl) x9), R9.al⟩
        · rintro n x u9 σ H9 H10 hx ⟨z8, z9, z10, z11, rfl, x9, R9⟩ s10 sF al ru9
          have R10 := R9.same s10
          have x10 := x9.trans (Ext.same s10)
          obtain ⟨q1, qdx, rfl, eq1⟩ := id ru9
          have g2' := Rep.up sF g2
          have g3' := Rep.up sF g3
          refine ⟨_, rfl, q1, _, qdx, _, _, rfl, Fr.sub _ _ eq1, c_Edge Z, na_Edge_begin Z, ed_b, _, rfl, rfl, ?_⟩
          rw [dvi]
          refine ⟨_, rfl, _, rfl, rd_ifx (fun v H' => v = .int (therE here x) ∧ H' = H10) (fun c Q' kk => ?_) (fun c Q' kk => ?_) ?_⟩
          · have c := of_decide_eq_true c
            exact ⟨_, rfl, q1, _, qdx, _, _, rfl, Fr.sub _ _ eq1, c_Edge Z, na_Edge_end Z, ed_e, kk _ _ ⟨by unfold therE; rw [if_pos c], rfl⟩⟩
          · have c := of_decide_eq_false c
            exact ⟨_, rfl, q1, _, qdx, _, _, rfl, Fr.sub _ _ eq1, c_Edge Z, na_Edge_begin Z, ed_b, kk _ _ ⟨by unfold therE; rw [if_neg c], rfl⟩⟩
          rintro v9 H11 ⟨rfl, rfl⟩
          obtain ⟨okC, msC⟩ := foldE_ok (here := here) (r := r) (row := row.take n) (st := (st.1, st.2.dropLast)) ⟨okJ.nd, okJ.bd, fun k hk => okJ.sub k (List.dropLast_subset _ hk)⟩ (fun e he => ok row (List.mem_of_getElem? erow) e (List.mem_of_mem_take he))
          have tf := take_fold (f := goE here r) (b := (st.1, st.2.dropLast)) hx
          obtain ⟨kvs9, e9D, p9⟩ := R10.d
          refine ⟨_, rfl, _, rfl, D, _, rfl, DGet.k (k := Sum.inl (therE here x)) e9D, _, rfl, ?_⟩
          generalize (row.take n).foldl (goE here r) (st.1, st.2.dropLast) = cu at *
          rcases p9.val (therE here x) with ⟨v', r', k1, k2, _⟩ | ⟨k1, k2⟩
          · rw [k1]
            refine iteF ⟨_, _, _, _, rfl, x10, ?_⟩
            have kk : keyIn cu.1 (therE here x) = true := by rw [← getR_isSome, k2]; rfl
            rw [tf, show goE here r cu x = cu from if_pos kk]
            exact R10
          rw [k1]
          refine iteT ?_
          have kn : keyIn cu.1 (therE here x) = false := by rw [← getR_isSome, k2]; rfl
          obtain ⟨L9, hL9⟩ : ∃ L, (match r.b with | none => x.m | some m => if x.m < m then x.m else m) = L := ⟨_, rfl⟩
          refine ⟨_, rfl, rfl, _, rfl, rd_ifx (fun v H' => v = .int L9 ∧ H' = H11) (fun c Q' kk => ?_) (fun c Q' kk => ?_) ?_⟩
          · refine ⟨_, rfl, q1, _, qdx, _, _, rfl, Fr.sub _ _ eq1, c_Edge Z, na_Edge_modulus Z, ed_m, kk _ _ ⟨?_, rfl⟩⟩
            have c := of_decide_eq_true c
            cases hb9 : r.b with
            | none => rw [← hL9, hb9]
            | some m =>
              rw [hb9] at g2'
              have z : w2 = V.int m := g2'
              rw [z] at c
              cases c
          · have c := of_decide_eq_false c
            cases hb9 : r.b with
            | none =>
              rw [hb9] at g2'
              exact absurd (show w2 = V.non from g2') c
            | some m =>
              rw [hb9] at g2'
              have z : w2 = V.int m := g2'
              refine ⟨_, rfl, _, rfl, q1, _, qdx, _, _, rfl, Fr.sub _ _ eq1, c_Edge Z, na_Edge_modulus Z, ed_m, m, x.m, by rw [z], kk _ _ ⟨?_, rfl⟩⟩
              rw [← hL9, hb9]
          rintro v9 H12 ⟨rfl, rfl⟩
          refine ⟨_, rfl, _, rfl, _, rfl, rd_ifx (fun v H' => v = .int (if x.b = here then x.s else -x.s) ∧ H' = H12) (fun c Q' kk => ?_) (fun c Q' kk => ?_) ?_⟩
          · have c := of_decide_eq_true c
            exact ⟨_, rfl, q1, _, qdx, _, _, rfl, Fr.sub _ _ eq1, c_Edge Z, na_Edge_shift Z, ed_s, kk _ _ ⟨by rw [if_pos c], rfl⟩⟩
          · have c := of_decide_eq_false c
            exact ⟨_, rfl, q1, _, qdx, _, _, rfl, Fr.sub _ _ eq1, c_Edge Z, na_Edge_shift Z, ed_s, _, rfl, kk _ _ ⟨by rw [if_neg c], rfl⟩⟩
          rintro v9 H13 ⟨rfl, rfl⟩
          obtain ⟨p3, vs3, rfl, e3, pd3⟩ := g3'
          refine ⟨_, _, rfl, rfl, _, rfl, _, rfl, p3, vs3, rfl, .inr (SqL.of (Fr.sub _ _ e3)), ?_⟩
          have way := iter9_way ok h0 h1 j
          rw [hst] at way
          have rlen : r.c.length < 1000 := by
            obtain ⟨r2, er2, mr2⟩ := getR_some hin
            rw [er] at er2
            cases er2
            have q1 := way _ mr2
            have q2 := okJ.len
            have q1 : r.c.length < st.1.length := q1
            omega
          have klen : kvs9.length ≤ 1000 := by
            have q1 := Paired.length p9
            have q2 := okC.len
            omega
          have wlen : (cu.2.map V.int).length ≤ 2000 := by
            rw [List.length_map]
            have q1 : (st.2.dropLast).length = st.2.length - 1 := List.length_dropLast
            unfold meas9 at msC mj
            have q2 : 2 * (f.near.length - cu.1.length) + cu.2.length ≤ 2 * (f.near.length - st.1.length) + st.2.dropLast.length := msC
            omega
          refine ⟨_, rfl, _, rfl, rd_pair R10.al ru9 (show rp K _ (V.bl (decide (x.b = here))) (decide (x.b = here)) from rfl) fun v14 H14 s14 r14 => ?_⟩
          refine rd_lst (K := K) (xs := r.c ++ [(x, decide (x.b = here))]) (R10.al.same s14) (by rw [List.length_append, Paired.length pd3]; exact rlen) (pd_app (Paired.mapP pd3 fun _ _ q => Rep.up (Fr.same s14) q) (.cons r14 .nil)) fun v15 H15 s15 r15 => ?_
          refine rd_tupT (x := r.a + (if x.b = here then x.s else -x.s)) (y := some L9) ((R10.al.same s14).same s15) rfl rfl r15 fun v16 H16 s16 r16 => ?_
          have sA := s14.trans (s15.trans s16)
          have R16 := R10.same sA
          have e16 := sA _ _ e9D
          refine ⟨_, rfl, _, rfl, D, _, rfl, DPut.k (k := Sum.inl (therE here x)) e16 (Nat.lt_of_le_of_lt klen (by decide)), ?_⟩
          obtain ⟨R17, x17⟩ := R16.put e16 kn r16
          generalize upd H16 D (.dK (putK kvs9 (Sum.inl (therE here x)) v16)) = H17 at *
          obtain ⟨R18, x18⟩ := R17.push (k := therE here x)
          refine ⟨_, rfl, .inl ⟨rfl, _, SqL.of R17.w⟩, _, rfl, sqmI (r := rAppend) ⟨Wl, _, _, rfl, rfl, R17.w, Nat.lt_of_le_of_lt wlen (by decide), ?_⟩⟩
          refine ⟨_, _, _, _, rfl, x10.trans ((Ext.same sA).trans (x17.trans x18)), ?_⟩
          rw [tf, show goE here r cu x = (cu.1 ++ [(therE here x, nextR here r x)], cu.2 ++ [therE here x]) from if_neg (by rw [kn]; decide), show nextR here r x = ⟨r.a + (if x.b = here then x.s else -x.s), some L9, r.c ++ [(x, decide (x.b = here))]⟩ from by rw [← hL9]; rfl]
          exact R18
        · rintro σ H9 ⟨z8, z9, z10, z11, rfl, x9, R9⟩
          rw [List.take_length] at R9
          have s9 : Same H H9 := fun b o e => x9 _ _ (fun z => z.elim (fun z => by rw [z, hD] at e; cases e) fun z => by rw [z, nW] at e; cases e) (s8 _ _ e)
          refine ⟨_, _, _, _, _, _, _, _, rfl, s9, ?_⟩
          have e9 : turn9 f.near st = row.foldl (goE here r) (st.1, st.2.dropLast) := by
            unfold turn9
            rw [hl]
            show (rowAt f.near here).foldl (goE here ((getR st.1 here).getD ⟨0, none, []⟩)) (st.1, st.2.dropLast) = _
            rw [er, rw9]
            rfl
          rw [e9]
          exact R9
    · rintro σ H6 ⟨st, z4, z5, z6, z7, z8, z9, z10, z11, rfl, s6, R6, e6⟩
      refine ⟨_, rfl, hq D H6 s6 hD ?_⟩
      obtain ⟨kvs, eD, pd⟩ := R6.d
      rw [e6] at pd
      exact ⟨D, kvs, rfl, Fr.get (hA.new hD) eD, pd.up (Fr.mono fun b m => .inr (.inr m))⟩
theorem cl_Forest_reached {K : Frag} {H : Hp} {Q : VK} {E : XK} {M : Addr → Prop} {v : V} {f : FS} {i : Int} (hv : rp K (Fr M H) v f) (hA : Alloc M H) (ok : NearOk f.near) (h0 : 0 ≤ i) (h1 : i < (f.near.length : Nat)) (hz : f.near.length ≤ 1000) (k : ∀ D H', Same H H' → H D = none → rp K (Fr M H') (.ref D) (⟨reachF f.near i⟩ : RD) → Q (.ref D) H') : sq (sp_Forest_reached K) [v, .int i] H Q E := sqI ⟨M, v, f, i, rfl, hv, hA, ok, h0, h1, hz, k⟩
end
section
variable {w : World} {K : Frag} {mg : Str → Option Value} {base : Heap}
def sp_Forest_init (K : Frag) : Sp := fun vs H Q E => ∃ (p : Addr) (dx : Addr) (M : Addr → Prop) (m : Nat) (v : V) (es : List Ed), vs = [.ref p, .int (m : Nat), v] ∧ (H p = some (.ins (ga K "Forest") dx [])) ∧ (Alloc M H) ∧ (¬ M p) ∧ (M (tabAt K (ma K (ga K "Forest") "__init__"))) ∧ (LamX.TabS H (tabAt K (ma K (ga K "Forest") "__init__")) (Str.ofString "Forest.__init__.<locals>.<lambda>")) ∧ (rp K (Fr (Ad p M) H) v es) ∧ (m ≤ 900) ∧ (es.length ≤ 450) ∧ (∀ e ∈ es, 0 ≤ e.b ∧ e.b < ((m + 1 : Nat) : Int) ∧ 0 ≤ e.e ∧ e.e < ((m + 1 : Nat) : Int) ∧ 1 ≤ e.m) ∧ ∀ H', Ext (fun b => b = p ∨ b = tabAt K (ma K (ga K "Forest") "__init__")) H H' → LamX.TabS H' (tabAt K (ma K (ga K "Forest") "__init__")) (Str.ofString "Forest.__init__.<locals>.<lambda>") → rp K (Fr M H') (.ref p) (forestF m es) → Q .non H'
theorem ok_Forest_init (Z : Zs cks fns K mg) (TB : TbF K mg base (ma K (ga K "Forest") "__init__")) : FnOk PP w K mg base (L2.CX PP w) 9 (ma K (ga K "Forest") "__init__") (fdAt K (ma K (ga K "Forest") "__init__")) ["self", "many", "edges"] (sp_Forest_init K) := by
  refine Fw.Fun.okL (u_Forest_init Z) sc_Forest_init (fun vs H Q E h => ?_) (fun cdv A outer s H vs Q E hcd hr h => ?_)
  · obtain ⟨_, _, _, _, _, _, rfl, _⟩ := h
    rfl
  · obtain ⟨p, dx, M, m, v, es, rfl, ⟨hp, hA, np, hP, hT, hv, hm, hn, hb, hq⟩⟩ := h
    refine ⟨_, (pss_cons (ps_fld (pv 0) (pe_lc (own := [("line", 5)]) rfl sc_Forest_init.nd (pi_range1 rfl (n_range Z) (pa_cons (pe_op op_add (pv 1) pe_int) pa_nil)) (blkOk_by (own := [("line", 5)]) (N := ["self", "many", "edges", "edge", "known", "line"]) (sc := defScope s_Forest_init) (by decide +kernel)) (fun _ _ _ _ _ => (pg_name (i := 5) sc_Forest_init.nd rfl (Or.inl rfl))) (fun _ _ _ _ _ => pts_nil) (fun _ _ _ _ _ => (pe_lstQ (pe_lst pa_nil)))) rfl)
      (pss_cons (ps_fld (pv 0) (pe_lstQ (pe_lst pa_nil)) rfl)
      (pss_cons (ps_fld (pv 0) pe_non rfl)
      (pss_one (ps_for (passes_of rfl) rfl (pi_list (pe_sortedL (k := 5) (q := "Forest.__init__.<locals>.<lambda>") (nm := "one") (N := ["one"]) (pv 2) rfl (n_sorted Z) (hr.mono (by decide)) TB hcd rfl rfl (by decide +kernel) ⟨rfl, rfl, rfl, by decide +kernel, rfl, by decide +kernel, by decide +kernel⟩ (fun _ _ _ _ _ => rfl) (fun f c' A outer s H hr => (pe_un un_neg (show PE _ _ (tFld K (tVar 0) "modulus") from pe_fld (pv 0) rfl))))) (pg_name (i := 3) sc_Forest_init.nd rfl (Or.inl rfl))
        (pss_cons (ps_set (i := 4) sc_Forest_init.nd rfl (Or.inl rfl) (pe_meth (pv 0) (c_Forest Z) (hm_Forest_reached Z) (okq (ok_Forest_reached Z)) (hr.mono (by decide)) (b_Forest_reached Z) .nil passL (pa_cons (pe_fld (pv 3) rfl) pa_nil)))
      (pss_one (ps_if (pt_cmp (pc_dnotin (u1 hr.units) (pe_fld (pv 3) rfl) (pv 4)) (by rfl))
        (pss_one (ps_expr (pe_meth (pv 0) (c_Forest Z) (hm_Forest_take Z) (okq (ok_Forest_take Z)) (hr.mono (by decide)) (b_Forest_take Z) .nil passL (pa_cons (pv 3) pa_nil))))
        (pss_one (ps_if (PW.pt (pw_and (pt_cmpR op_isN (pe_fld (pv 0) rfl) pe_non (nomark _)) (pw_and1 (pt_cmpR op_ne (pe_op op_mod (pe_op op_sub (pe_ix (ixq ix_tup) (pe_dget (u1 hr.units) (pv 4) (pe_fld (pv 3) rfl) (fun _ _ => rfl)) pe_int (fun _ _ => rfl)) (pe_fld (pv 3) rfl)) (pe_fld (pv 3) rfl)) pe_int (nomark _)))))
        (pss_one (ps_fld (pv 0) (pv 3) rfl))
        pss_nil)))))))))), ?_⟩
    refine ⟨_, rfl, _, _, rfl, rfl, _, rfl, (by omega), (by omega), ?_⟩
    clear TB hcd
    generalize tabAt K (ma K (ga K "Forest") "__init__") = P at *
    intro N hN
    refine lc_rows hN (by omega) (fun x H0 C hC => ⟨rfl, sqcI (r := rLstD) ⟨Nat.zero_le _, hC⟩⟩) (fun R H1 hRl hRn hRa hRD hRN s1 => ?_)
    refine ⟨_, rfl, p, ga K "Forest", dx, _, rfl, s1 _ _ hp, c_Forest Z, na_Forest_near Z, pl0, ?_⟩
    refine sqcI (r := rLstD) ⟨Nat.zero_le _, fun C hC => ?_⟩
    have e2 : upd H1 p (.ins (ga K "Forest") dx (putF "near" (.ref N) [])) p = some (.ins (ga K "Forest") dx (putF "near" (.ref N) [])) := upd_same
    have nCp : p ≠ C := fun z => by rw [← z, e2] at hC; cases hC
    refine ⟨_, rfl, p, ga K "Forest", dx, _, rfl, (by rw [upd_ne nCp]; exact e2), c_Forest Z, na_Forest_chosen Z, pl1, ?_⟩
    refine ⟨_, rfl, p, ga K "Forest", dx, _, rfl, upd_same, c_Forest Z, na_Forest_torn Z, pl2, ?_⟩
    rw [upd_upd, fo_new]
    have eC1 : H1 C = none := by rw [upd_ne nCp.symm] at hC; exact hC
    have nNp : N ≠ p := fun z => by rw [z, hp] at hN; cases hN
    have nNC : N ≠ C := fun z => by rw [z, eC1] at hRN; cases hRN
    have nCR : C ∉ R := fun z => by rw [(hRa _ z).1] at eC1; cases eC1
    have nRp : ∀ a ∈ R, a ≠ p := fun a ha z => by have := (hRa _ ha).2; rw [z, hp] at this; cases this
    obtain ⟨H5, hH5⟩ : ∃ z, z = upd (upd (upd H1 p (.ins (ga K "Forest") dx (putF "near" (.ref N) []))) C (.lst [])) p (.ins (ga K "Forest") dx (foF (.ref N) (.ref C) .non)) := ⟨_, rfl⟩
    rw [← hH5]
    have o5 : H5 p = some (.ins (ga K "Forest") dx (foF (.ref N) (.ref C) .non)) := by rw [hH5, upd_same]
    have n5 : H5 N = some (.lst (R.map V.ref)) := by rw [hH5, upd_ne nNp, upd_ne nNC, upd_ne nNp]; exact hRN
    have c5 : H5 C = some (.lst []) := by rw [hH5, upd_ne nCp.symm, upd_same]
    have r5 : ∀ a ∈ R, H5 a = some (.lst []) := fun a ha => by rw [hH5, upd_ne (nRp a ha), upd_ne (fun z => nCR (by rw [← z]; exact ha)), upd_ne (nRp a ha)]; exact (hRa a ha).1
    have hCn : H C = none := Same.fin s1 eC1
    have f5 : ∀ b o, b ≠ p → H b = some o → H5 b = some o := fun b o n e => by rw [hH5, upd_ne n, upd_ne (ne_of_none e hCn), upd_ne n]; exact s1 _ _ e
    clear hH5 hC e2
    obtain ⟨X, hX⟩ : ∃ X : FA, X = ⟨p, dx, N, C, R⟩ := ⟨_, rfl⟩
    have fresh : ∀ b, fM X b → b = p ∨ H b = none := fun b m => by
      rw [hX] at m
      rcases m with m | m | m | m
      · exact .inl m
      · exact .inr (by rw [show b = N from m]; exact hN)
      · exact .inr (by rw [show b = C from m]; exact hCn)
      · exact .inr (hRa b m).2
    have sub1 : ∀ b, fM X b → (fM X b ∨ M b) := fun b m => .inl m
    have hf5 : Fo K (fun b => fM X b ∨ M b) H5 X ⟨List.replicate (m + 1) [], [], none⟩ := by
      have e : R.length = m + 1 := by rw [hRl]; omega
      have := Fo.start (K := K) (M := fun b => fM X b ∨ M b) (H := H5) (X := X) (by rw [hX]; exact o5) (by rw [hX]; exact n5) (by rw [hX]; exact r5) (by rw [hX]; exact c5) (by rw [hX]; exact hRn) (by rw [hX]; exact nCR) (by rw [hX]; exact hRD) (by rw [hX]; exact nNC) sub1
      rw [show X.R.length = m + 1 from by rw [hX]; exact e] at this
      exact this
    have XW : X.W = p := by rw [hX]
    have Xdx : X.dx = dx := by rw [hX]
    have A5 : Alloc (fun b => fM X b ∨ M b) H5 := fun b z => by
      rcases z with z | z
      · rw [hX] at z
        rcases z with z | z | z | z
        · rw [z]
          exact ⟨_, o5, .inr (.inl (by rw [fo_n]; rfl))⟩
        · rw [z]
          exact ⟨_, n5, trivial⟩
        · rw [z]
          exact ⟨_, c5, trivial⟩
        · exact ⟨_, r5 b z, trivial⟩
      · obtain ⟨o, e, w⟩ := hA b z
        exact ⟨o, f5 b o (fun y => np (by rw [← y]; exact z)) e, w⟩
    have hv5 : rp K (Fr (fun b => fM X b ∨ M b) H5) v es := Rep.up (fun b o e => by
      have e2 := Fr.sub _ _ e
      have nb := Fr.no e
      refine Fr.get (fun z => ?_) (f5 b o (fun y => nb (.inl y)) e2)
      rcases z with z | z
      · rcases fresh b z with y | y
        · exact nb (.inl y)
        · rw [y] at e2; cases e2
      · exact nb (.inr z)) hv
    have hT5 : LamX.TabS H5 P (Str.ofString "Forest.__init__.<locals>.<lambda>") := tabS_ext (T := fun b => b = p) hT (fun b o n e => f5 b o n e) (fun b z o e => by rw [z, hp] at e; cases e; exact .inr ⟨_, _, _, rfl⟩)
    obtain ⟨a0, vs, rfl, ev, pd⟩ := id hv5
    have ev := Fr.sub _ _ ev
    obtain ⟨ps5, eP5, _⟩ := id hT5
    refine ⟨_, rfl, a0, vs, es.map (fun e => -e.m), rfl, ev, (fun z => by rw [z, eP5] at ev; cases ev), (by rw [List.length_map, Paired.length pd]), hT5, fun H6 keep hT6 => ⟨fun i y z hy hz => ?_, fun D hD => ?_⟩⟩
    · obtain ⟨x, hx, q, qdx, rfl, eq⟩ := pd_getL pd hy
      rw [List.getElem?_map, hx] at hz
      cases hz
      have eq := Fr.sub _ _ eq
      exact ⟨_, rfl, q, _, qdx, _, _, rfl, keep _ _ (fun z => by rw [z, eP5] at eq; cases eq) eq, c_Edge Z, na_Edge_modulus Z, ed_m, _, rfl, rfl, rfl⟩
    have np5 : ∀ b, fM X b → b ≠ P := fun b m z => by
      rcases hf5.kind b m _ (by rw [z]; exact eP5) with ⟨w, y⟩ | ⟨_, _, _, y⟩ <;> cases y
    have k7 : ∀ b o, b ≠ P → H5 b = some o → upd H6 D (.lst ((stabK ((es.map fun e => -e.m).zip vs)).map (·.2))) b = some o := fun b o n e => by
      rw [upd_ne (ne_of_none (keep b o n e) hD)]
      exact keep b o n e
    have sF7 : Same (Fr (fun b => fM X b ∨ M b) H5) (Fr (fun b => fM X b ∨ M b) (upd H6 D (.lst ((stabK ((es.map fun e => -e.m).zip vs)).map (·.2))))) := fun b o e => Fr.get (Fr.no e) (k7 b o (fun z => Fr.no e (by rw [z]; exact .inr hP)) (Fr.sub _ _ e))
    have hf7 := hf5.keep sF7 fun b o m e => k7 b o (np5 b m) e
    have hT7 := tabS_same hT6 (Same.new (o := .lst ((stabK ((es.map fun e => -e.m).zip vs)).map (·.2))) hD)
    have A7 : Alloc (fun b => fM X b ∨ M b) (upd H6 D (.lst ((stabK ((es.map fun e => -e.m).zip vs)).map (·.2)))) := fun b z => by
      by_cases y : b = P
      · obtain ⟨ps, eP, _⟩ := hT7
        rw [y]
        exact ⟨_, eP, trivial⟩
      · obtain ⟨o, e, w⟩ := A5 b z
        exact ⟨o, k7 b o y e, w⟩
    have nD : ¬ (fM X D ∨ M D) := fun z => by
      by_cases y : D = P
      · obtain ⟨ps, eP, _⟩ := hT6
        rw [y, eP] at hD
        cases hD
      · obtain ⟨o, e, w⟩ := A5 D z
        rw [keep D o y e] at hD
        cases hD
    have rL7 : rp K (Fr (fun b => fM X b ∨ M b) (upd H6 D (.lst ((stabK ((es.map fun e => -e.m).zip vs)).map (·.2))))) (.ref D) (sortE es) := ⟨D, _, rfl, Fr.get nD upd_same, ((pairR_pd (Paired.mapP pd fun _ _ q => Rep.up sF7 q) (es.map fun e => -e.m)).stab).pd⟩
    generalize upd H6 D (.lst ((stabK ((es.map fun e => -e.m).zip vs)).map (·.2))) = H7 at *
    obtain ⟨a, ea, qa, T⟩ := tw_list rL7
    have fk : ∀ n, n ≤ (sortE es).length → FOk (m + 1) n (((sortE es).take n).foldl addE ⟨List.replicate (m + 1) [], [], none⟩) := FOk.fold fun e he => by
      have := hb e (sortE_mem he)
      exact ⟨this.1, this.2.1, this.2.2.1, this.2.2.2.1⟩
    refine ⟨a, ea, qa, for_tw T (fun b => fM X b ∨ M b) (fun n σ H' => ∃ (z3 z4 z5 : Option V), σ = [some (.ref p), some (.int (m : Nat)), some (.ref a0), z3, z4, z5] ∧ Fo K (fun b => fM X b ∨ M b) H' X (((sortE es).take n).foldl addE ⟨List.replicate (m + 1) [], [], none⟩) ∧ Alloc (fun b => fM X b ∨ M b) H' ∧ Ext (fM X) H7 H') ⟨_, _, _, rfl, hf7, A7, Ext.refl⟩ ?_ ?_ ?_⟩
    · rintro n σ H8 ⟨z3, z4, z5, rfl, hf8, A8, x8⟩
      exact ⟨Fr.ext (Ext.sub sub1 x8), A8⟩
    · rintro n e u σ H8 H9 hx ⟨z3, z4, z5, rfl, hf8, A8, x8⟩ s9 sF A9 ru
      have hn1 : n < (sortE es).length := (List.getElem?_eq_some_iff.mp hx).1
      have fok := fk n (by omega)
      have hln : (sortE es).length ≤ 450 := by rw [sortE_len]; exact hn
      have be := hb e (sortE_mem (List.mem_of_getElem? hx))
      have tf := take_fold (f := addE) (b := (⟨List.replicate (m + 1) [], [], none⟩ : FS)) hx
      have hf9 := hf8.same s9
      have x9 := x8.trans (Ext.same s9)
      generalize ((sortE es).take n).foldl addE ⟨List.replicate (m + 1) [], [], none⟩ = f at *
      obtain ⟨q, qdx, rfl, eq⟩ := id ru
      obtain ⟨t, o, rt⟩ := hf9.o
      rw [XW] at o
      have A0 : Alloc (fun b => (fM X b ∨ M b) ∧ ¬ fM X b) H9 := fun b z => A9 b z.1
      have data := hf9.data
      rw [XW] at data
      have lenN := fok.len
      refine ⟨_, rfl, p, X.dx, _, rfl, o, fo_no, _, rfl, q, _, qdx, _, _, rfl, Fr.sub _ _ eq, c_Edge Z, na_Edge_begin Z, ed_b, cl_Forest_reached data A0 fok.near be.1 (by rw [lenN]; exact be.2.1) (by rw [lenN]; omega) fun D9 H10 s10 hD9 r10 => ?_⟩
      obtain ⟨D9', kvs, ee, eD, pk⟩ := r10
      cases ee
      have eD := Fr.sub _ _ eD
      have hf10 := hf9.same s10
      have A10 := A9.same s10
      have x10 := x9.trans (Ext.same s10)
      have eq10 := s10 _ _ (Fr.sub _ _ eq)
      have ru10 := Rep.up (Fr.same s10) ru
      have o10 := s10 _ _ o
      have rt10 := Rep.up (Fr.same s10) rt
      refine ⟨_, rfl, q, _, qdx, _, _, rfl, eq10, c_Edge Z, na_Edge_end Z, ed_e, _, rfl, D9, _, rfl, DGet.k (k := Sum.inl e.e) eD, _, rfl, ?_⟩
      have hadd : addE f e = match getR (reachF f.near e.b) e.e with
        | none => ⟨takeN f.near e, f.chosen ++ [e], f.torn⟩
        | some r => if f.torn = none ∧ (r.a - e.s) % e.m ≠ 0 then ⟨f.near, f.chosen, some e⟩ else f := rfl
      rcases pk.val e.e with ⟨v1, r, k1, k2, rv1⟩ | ⟨k1, k2⟩
      · rw [k2] at hadd
        rw [k1]
        refine iteF ⟨_, rfl, p, _, X.dx, _, _, rfl, o10, c_Forest Z, na_Forest_torn Z, fo_t, rfl, _, rfl, ?_⟩
        cases htn : f.torn with
        | some e' =>
          rw [htn] at rt10
          obtain ⟨qq, _, z, _⟩ := rt10
          rw [z]
          refine ifFd (fun y => by cases y) (iteF ⟨_, _, _, rfl, ?_, A10, x10⟩)
          rw [tf, hadd]
          show Fo K _ H10 X (if f.torn = none ∧ _ then _ else f)
          rw [if_neg (fun y => by rw [htn] at y; cases y.1)]
          exact hf10
        | none =>
          rw [htn] at rt10
          have z : t = V.non := rt10
          rw [z]
          refine ifT rfl ⟨_, rfl, _, rfl, q, _, qdx, _, _, rfl, eq10, c_Edge Z, na_Edge_end Z, ed_e, D9, v1, rfl, (by have g := DGet.k (k := Sum.inl e.e) eD; rw [k1] at g; exact g), rd_t0 rv1 Fr.sub fun u9 e9 => ?_⟩
          cases e9
          refine ⟨_, rfl, q, _, qdx, _, _, rfl, eq10, c_Edge Z, na_Edge_shift Z, ed_s, _, _, rfl, rfl, _, rfl, q, _, qdx, _, _, rfl, eq10, c_Edge Z, na_Edge_modulus Z, ed_m, _, _, rfl, rfl, (by omega), rfl, _, rfl, ?_⟩
          rw [dvi]
          by_cases c : (r.a - e.s) % e.m = 0
          · refine iteNS c ⟨_, _, _, rfl, ?_, A10, x10⟩
            rw [tf, hadd]
            show Fo K _ H10 X (if f.torn = none ∧ _ then _ else f)
            rw [if_neg (fun y => y.2 c)]
            exact hf10
          · refine ifNT c ⟨_, rfl, _, rfl, p, ga K "Forest", X.dx, _, rfl, o10, c_Forest Z, na_Forest_torn Z, plE, ?_⟩
            rw [fo_pt]
            obtain ⟨f11, x11⟩ := hf10.tear (t := t) (by rw [XW]; exact o10) ru10
            rw [XW] at f11 x11
            refine ⟨_, _, _, rfl, ?_, A10.wrM (.inr (.inl (by rw [fo_n]; rfl))), x10.trans x11⟩
            rw [tf, hadd]
            show Fo K _ _ X (if f.torn = none ∧ _ then _ else f)
            rw [if_pos ⟨htn, c⟩]
            exact f11
      · rw [k2] at hadd
        rw [k1]
        subst XW
        refine iteT ⟨_, rfl, X.W, X.dx, _, rfl, o10, fo_no, _, rfl, cl_Forest_take hf10 A10 ru10 ⟨be.1, by rw [lenN]; exact be.2.1⟩ ⟨be.2.2.1, by rw [lenN]; exact be.2.2.2.1⟩ (Nat.le_trans fok.ch (by omega)) (fun row hr => Nat.le_trans (fok.rows row hr) (by omega)) fun H11 f11 a11 x11 => ?_⟩
        refine ⟨_, _, _, rfl, ?_, a11, x10.trans x11⟩
        rw [tf, hadd]
        exact f11
    · rintro σ H8 ⟨z3, z4, z5, rfl, hf8, A8, x8⟩
      rw [List.take_length] at hf8
      have nfr : ∀ b, M b → ¬ fM X b := fun b mb z => by
        rcases fresh b z with y | y
        · exact np (by rw [← y]; exact mb)
        · obtain ⟨o, e, _⟩ := hA b mb
          rw [y] at e
          cases e
      refine hq H8 (fun b o n e => x8 b o (fun z => ?_) (k7 b o (fun y => n (.inr y)) (f5 b o (fun y => n (.inl y)) e))) (tabS_ext hT7 x8 hf7.kind) ?_
      · rcases fresh b z with y | y
        · exact n (.inl y)
        · rw [y] at e; cases e
      · have data := Rep.up (Fr.mono fun b mb => ⟨.inr mb, nfr b mb⟩) hf8.data
        rw [XW] at data
        exact data
theorem cl_Forest_init {K : Frag} {H : Hp} {Q : VK} {E : XK} {p : Addr} {dx : Addr} {M : Addr → Prop} {m : Nat} {v : V} {es : List Ed} (hp : H p = some (.ins (ga K "Forest") dx [])) (hA : Alloc M H) (np : ¬ M p) (hP : M (tabAt K (ma K (ga K "Forest") "__init__"))) (hT : LamX.TabS H (tabAt K (ma K (ga K "Forest") "__init__")) (Str.ofString "Forest.__init__.<locals>.<lambda>")) (hv : rp K (Fr (Ad p M) H) v es) (hm : m ≤ 900) (hn : es.length ≤ 450) (hb : ∀ e ∈ es, 0 ≤ e.b ∧ e.b < ((m + 1 : Nat) : Int) ∧ 0 ≤ e.e ∧ e.e < ((m + 1 : Nat) : Int) ∧ 1 ≤ e.m) (k : ∀ H', Ext (fun b => b = p ∨ b = tabAt K (ma K (ga K "Forest") "__init__")) H H' → LamX.TabS H' (tabAt K (ma K (ga K "Forest") "__init__")) (Str.ofString "Forest.__init__.<locals>.<lambda>") → rp K (Fr M H') (.ref p) (forestF m es) → Q .non H') : sq (sp_Forest_init K) [.ref p, .int (m : Nat), v] H Q E := sqI ⟨p, dx, M, m, v, es, rfl, hp, hA, np, hP, hT, hv, hm, hn, hb, k⟩
theorem mk_Forest {K : Frag} {H : Hp} {Q : VK} {E : XK} {M : Addr → Prop} {m : Nat} {v : V} {es : List Ed} (al : Alloc M H) (hP : M (tabAt K (ma K (ga K "Forest") "__init__"))) (hT : LamX.TabS H (tabAt K (ma K (ga K "Forest") "__init__")) (Str.ofString "Forest.__init__.<locals>.<lambda>")) (hv : rp K (Fr M H) v es) (hm : m ≤ 900) (hn : es.length ≤ 450) (hb : ∀ e ∈ es, 0 ≤ e.b ∧ e.b < ((m + 1 : Nat) : Int) ∧ 0 ≤ e.e ∧ e.e < ((m + 1 : Nat) : Int) ∧ 1 ≤ e.m)
    (k : ∀ u H', Ext (fun b => b = tabAt K (ma K (ga K "Forest") "__init__")) H H' → LamX.TabS H' (tabAt K (ma K (ga K "Forest") "__init__")) (Str.ofString "Forest.__init__.<locals>.<lambda>") → rp K (Fr M H') u (forestF m es) → Q u H') : sqc (rMake (ga K "Forest") (sq (sp_Forest_init K)) E) [.int (m : Nat), v] H Q := by
  rw [sqc_eq]
  intro x dx hx hd hne
  have s : Same H (upd (upd H dx (.own x)) x (.ins (ga K "Forest") dx [])) := fun b o e => by
    rw [upd_ne (ne_of_none e hx), upd_ne (ne_of_none e hd)]
    exact e
  refine cl_Forest_init (p := x) upd_same (al.same s) (al.new hx) hP (tabS_same hT s) (Rep.up (fun b o e => ?_) hv) hm hn hb fun H' x' t' r' => ⟨rfl, k _ _ (fun b o n e => ?_) t' r'⟩
  · have e2 := Fr.sub _ _ e
    exact Fr.get (fun z => z.elim (fun y => by rw [y, hx] at e2; cases e2) (Fr.no e)) (s _ _ e2)
  · exact x' b o (fun z => z.elim (fun y => by rw [y, hx] at e; cases e) n) (s _ _ e)

end
section
variable {w : World} {K : Frag} {mg : Str → Option Value} {base : Heap}
def sp_Plan_edges (K : Frag) : Sp := fun vs H Q E => ∃ (p : Addr) (dx : Addr) (M : Addr → Prop) (a : V) (b : V) (D : Addr) (ps : List (Int × Int)) (ws : List N3) (ds : List (Int × Int)), vs = [.ref p] ∧ (H p = some (.ins (ga K "Plan") dx (plF4 a b (.ref D) (.int (ps.length : Nat))))) ∧ (Alloc M H) ∧ (M D) ∧ (H D = some (.dK (diK ds))) ∧ (rp K (Fr M H) a ps) ∧ (rp K (Fr M H) b ws) ∧ (WishOk (ps.length : Nat) ws) ∧ (FixOk ps ds) ∧ (ds.length ≤ 300) ∧ ∀ u H', Same H H' → rp K (Fr M H') u (edgesF ps ws ds) → Q u H'
theorem ok_Plan_edges (Z : Zs cks fns K mg) : FnOk PP w K mg base (L2.CX PP w) 3 (ma K (ga K "Plan") "edges") (fdAt K (ma K (ga K "Plan") "edges")) ["self"] (sp_Plan_edges K) := by
  refine L2.Fun.okX (u_Plan_edges Z) sc_Plan_edges (fun vs H Q E h => ?_) (fun cdv A outer s H vs Q E hr h => ?_)
  · obtain ⟨_, _, _, _, _, _, _, _, _, rfl, _⟩ := h
    rfl
  · obtain ⟨p, dx, M, a, b, D, ps, ws, ds, rfl, ⟨ho, hA, hD, eD, ha, hb, hw, hd, hdl, hq⟩⟩ := h
    refine ⟨_, (pss_cons (ps_set (i := 1) sc_Plan_edges.nd rfl (Or.inl rfl) (pe_lstQ (pe_lst pa_nil)))
      (C8.pss_cut (ps_for (passes_of rfl) rfl (pi_enum rfl (n_enumerate Z) (pa_cons (pe_fld (pv 0) rfl) pa_nil)) (pg_tup rfl (pgs_cons (pg_name (i := 2) sc_Plan_edges.nd rfl (Or.inl rfl)) (pgs_cons (pg_tup rfl (pgs_cons (pg_name (i := 3) sc_Plan_edges.nd rfl (Or.inl rfl)) (pgs_cons (pg_name (i := 4) sc_Plan_edges.nd rfl (Or.inl rfl)) (pgs_cons (pg_name (i := 5) sc_Plan_edges.nd rfl (Or.inl rfl)) pgs_nil)))) pgs_nil)))
        (pss_one (ps_expr (pe_bm PySem.F.plainAttrs_list PySem.F.slot_list_append PySem.F.type_list_append (mtq mt_append) (pv 1) (pa_cons (pe_makeQ (pe_make (M_Edge Z) (okq (ok_Edge_init Z)) (hr.mono (by decide)) rfl (g_Edge Z) (b_Edge_init Z) .nil passL (pa_cons (pv 2) (pa_cons (pv 3) (pa_cons (pv 4) (pa_cons (pe_op op_add (pe_ix (ixq ix_tup) (pe_ix (ixq ix_list) (pe_fld (pv 0) rfl) (pv 3) (fun _ _ => rfl)) pe_int (fun _ _ => rfl)) (pv 5)) (pa_cons (pe_callB (call_min2 rfl) rfl (n_min Z) (by decide +kernel) (pa_cons (pe_ix (ixq ix_tup) (pe_ix (ixq ix_list) (pe_fld (pv 0) rfl) (pv 3) (fun _ _ => rfl)) pe_int (fun _ _ => rfl)) (pa_cons (pe_ix (ixq ix_tup) (pe_ix (ixq ix_list) (pe_fld (pv 0) rfl) (pv 4) (fun _ _ => rfl)) pe_int (fun _ _ => rfl)) pa_nil))) pa_nil))))))) pa_nil)))))
      (C8.pss_cut (ps_lock (ps_for (passes_of rfl) rfl (pi_items (pe_fld (pv 0) rfl)) (pg_tup rfl (pgs_cons (pg_name (i := 6) sc_Plan_edges.nd rfl (Or.inl rfl)) (pgs_cons (pg_name (i := 7) sc_Plan_edges.nd rfl (Or.inl rfl)) pgs_nil)))
        (pss_one (ps_expr (pe_bm PySem.F.plainAttrs_list PySem.F.slot_list_append PySem.F.type_list_append (mtq mt_append) (pv 1) (pa_cons (pe_makeQ (pe_make (M_Edge Z) (okq (ok_Edge_init Z)) (hr.mono (by decide)) rfl (g_Edge Z) (b_Edge_init Z) .nil passL (pa_cons (pe_op op_add (pe_callB (crq call_len_seq) rfl (n_len Z) (by decide +kernel) (pa_cons (pe_fld (pv 0) rfl) pa_nil)) (pv 6)) (pa_cons (pe_fld (pv 0) rfl) (pa_cons (pv 6) (pa_cons (pv 7) (pa_cons (pe_ix (ixq ix_tup) (pe_ix (ixq ix_list) (pe_fld (pv 0) rfl) (pv 6) (fun _ _ => rfl)) pe_int (fun _ _ => rfl)) pa_nil))))))) pa_nil))))))
      (pss_one (ps_ret (pv 1)))))), ?_⟩
    refine rd_mut (K := K) (α := Ed) hA fun F H1 hF s1 m1 f1 A1 => ?_
    have nF : p ≠ F := fun z => by rw [← z, ho] at hF; cases hF
    refine ⟨fun σ H' => ∃ (z2 z3 z4 z5 z6 z7 : Option V), σ = [some (.ref p), some (.ref F), z2, z3, z4, z5, z6, z7] ∧ Same H H' ∧ Mu K (Ad F M) H' F (ws.zipIdx.map fun q => wishE ps q.2 q.1) ∧ Alloc (Ad F M) H', ?_, ?_⟩
    · obtain ⟨a1, z1, e1, q1, T⟩ := tw_enum (Rep.up f1 hb)
      refine ⟨_, rfl, p, _, dx, _, _, rfl, s1 _ _ ho, c_Plan Z, na_Plan_wished Z, p4_w, a1, z1, e1, q1, for_tw T (Ad F M) (fun n σ H' => ∃ (z2 z3 z4 z5 z6 z7 : Option V), σ = [some (.ref p), some (.ref F), z2, z3, z4, z5, z6, z7] ∧ Ext (fun b => b = F) H1 H' ∧ Mu K (Ad F M) H' F ((ws.take n).zipIdx.map fun q => wishE ps q.2 q.1) ∧ Alloc (Ad F M) H') ⟨_, _, _, _, _, _, rfl, Ext.refl, m1, A1⟩ ?_ ?_ ?_⟩
      · rintro n σ H2 ⟨z2, z3, z4, z5, z6, z7, rfl, x2, m2, A2⟩
        exact ⟨Fr.ext (Ext.sub (fun b z => .inl z) x2), A2⟩
      · rintro n x u σ H2 H3 hx ⟨z2, z3, z4, z5, z6, z7, rfl, x2, m2, A2⟩ s3 sF A3 ru
        obtain ⟨w, hw1, rfl⟩ := enI_at hx
        have wm := List.mem_of_getElem? hw1
        obtain ⟨⟨w1, w2⟩, ⟨w3, w4⟩, w5⟩ := hw.2 w wm
        have hn := (List.getElem?_eq_some_iff.mp hw1).1
        have hwl := hw.1
        have s03 : Same H H3 := fun b o e => s3 _ _ (x2 _ _ (fun z => by rw [z, hF] at e; cases e) (s1 _ _ e))
        have ho3 := s03 _ _ ho
        have m3 := m2.same s3
        have ha3 : rp K (Fr (Ad F M) H3) a ps := Rep.up sF (Rep.up f1 ha)
        refine rd_unE ru Fr.sub ?_
        refine ⟨_, rfl, m3.ty, _, rfl, _, rfl, _, rfl, _, rfl, p, _, dx, _, _, rfl, ho3, c_Plan Z, na_Plan_pairs Z, p4_p, _, rfl, rd_ixL ha3 Fr.sub (lineAt_at w1 w2).1 fun u1 r1 => rd_p1 r1 Fr.sub fun u2 e2 => ?_⟩
        cases e2
        refine ⟨_, rfl, _, _, rfl, rfl, ?_⟩
        refine ⟨_, rfl, p, _, dx, _, _, rfl, ho3, c_Plan Z, na_Plan_pairs Z, p4_p, _, rfl, rd_ixL ha3 Fr.sub (lineAt_at w1 w2).1 fun u1 r1 => rd_p0 r1 Fr.sub fun u2 e2 => ?_⟩
        cases e2
        refine ⟨_, rfl, p, _, dx, _, _, rfl, ho3, c_Plan Z, na_Plan_pairs Z, p4_p, _, rfl, rd_ixL ha3 Fr.sub (lineAt_at w3 w4).1 fun u1 r1 => rd_p0 r1 Fr.sub fun u2 e2 => ?_⟩
        cases e2
        refine ⟨_, _, rfl, mk_Edge (x := wishE ps n w) A3 fun u9 H4 s4 r9 => ?_⟩
        refine rd_app (m3.same s4) (.inl rfl) (A3.same s4) r9 (by rw [List.length_map, List.length_zipIdx, List.length_take]; omega) fun H5 m5 f5 x5 A5 => ?_
        refine ⟨_, _, _, _, _, _, rfl, x2.trans ((Ext.same (s3.trans s4)).trans (Ext.sub (fun b z => z.elim id fun z => z.elim) x5)), ?_, A5⟩
        rw [zipIdx_take hw1, List.map_append]
        exact m5
      · rintro σ H2 ⟨z2, z3, z4, z5, z6, z7, rfl, x2, m2, A2⟩
        rw [enI_len, List.take_length] at m2
        exact ⟨_, _, _, _, _, _, rfl, fun b o e => x2 _ _ (fun z => by rw [z, hF] at e; cases e) (s1 _ _ e), m2, A2⟩
    rintro σ H2 ⟨z2, z3, z4, z5, z6, z7, rfl, s2, m2, A2⟩
    have eD2 := s2 _ _ eD
    have nFD : D ≠ F := fun z => by rw [z, hF] at eD; cases eD
    refine ⟨fun σ H' => ∃ (z2 z3 z4 z5 z6 z7 : Option V), σ = [some (.ref p), some (.ref F), z2, z3, z4, z5, z6, z7] ∧ Same H H' ∧ Mu K (Ad F M) H' F (edgesF ps ws ds), ?_, ?_⟩
    · refine ⟨D, _, eD2, trivial, fun od => ?_⟩
      have nDp : p ≠ D := fun z => by rw [← z, ho] at eD; cases eD
      refine ⟨_, rfl, p, _, dx, _, _, rfl, (by rw [upd_ne nDp]; exact s2 _ _ ho), c_Plan Z, na_Plan_settled Z, p4_s, D, od, _, rfl, upd_same, ?_⟩
      have L0 : upd H2 D (.frz od (.dK (diK ds))) D = some (.frz od (.dK (diK ds))) := upd_same
      have Lo : ∀ b o, b ≠ D → H2 b = some o → upd H2 D (.frz od (.dK (diK ds))) b = some o := fun b o n e => by rw [upd_ne n]; exact e
      have Lm : Mu K (Ad F M) (upd H2 D (.frz od (.dK (diK ds)))) F (ws.zipIdx.map fun q => wishE ps q.2 q.1) := m2.ext (Fr.wr (.inr hD)) fun o e => Lo _ _ nFD.symm e
      have LA : Alloc (Ad F M) (upd H2 D (.frz od (.dK (diK ds)))) := A2.wrM trivial
      have Lf : Same (Fr M H) (Fr (Ad F M) (upd H2 D (.frz od (.dK (diK ds))))) := fun b o e => Fr.get (fun z => z.elim (fun z => by rw [z] at e; have e := Fr.sub _ _ e; rw [hF] at e; cases e) (Fr.no e)) (Lo b o (fun z => Fr.no e (by rw [z]; exact hD)) (s2 _ _ (Fr.sub _ _ e)))
      have back : ∀ b o, b ≠ D → upd H2 D (.frz od (.dK (diK ds))) b = some o → H2 b = some o := fun b o n e => by rw [upd_ne n] at e; exact e
      generalize upd H2 D (.frz od (.dK (diK ds))) = L at *
      refine for_it walk_items (fun n σ H' => ∃ (z2 z3 z4 z5 z6 z7 : Option V), σ = [some (.ref p), some (.ref F), z2, z3, z4, z5, z6, z7] ∧ Ext (fun b => b = F) L H' ∧ Mu K (Ad F M) H' F ((ws.zipIdx.map fun q => wishE ps q.2 q.1) ++ (ds.take n).map (fixE ps ws.length)) ∧ Alloc (Ad F M) H') ⟨_, _, _, _, _, _, rfl, Ext.refl, by rw [List.take_zero, List.map_nil, List.append_nil]; exact Lm, LA⟩ (fun n σ H' _ h => ?_) ?_ ?_
      · obtain ⟨_, _, _, _, _, _, _, x, _⟩ := h
        exact x _ _ nFD L0
      · rintro n u σ H3 H4 hn ⟨z2, z3, z4, z5, z6, z7, rfl, x3, m3, A3⟩ ⟨T, t1, t2, rfl, hT, rfl, y1, y2⟩
        have hn' : n < ds.length := by
          rw [show (diK ds).length = ds.length from List.length_map _] at hn
          exact hn
        obtain ⟨q, hq1⟩ : ∃ q, ds[n]? = some q := ⟨_, List.getElem?_eq_getElem hn'⟩
        have e1 : (diK ds)[n]? = some (.inl q.1, .int q.2) := by
          unfold diK
          rw [List.getElem?_map, hq1]
          rfl
        have y1 : ((diK ds)[n]?).map (fun kv => kV kv.1) = some t1 := y1
        have y2 : ((diK ds)[n]?).map Prod.snd = some t2 := y2
        rw [e1] at y1 y2
        cases y1
        cases y2
        obtain ⟨⟨w1, w2⟩, w3, w4⟩ := hd.1 q (List.mem_of_getElem? hq1)
        have s4 : Same H3 (upd H3 T (.tup [kV (Sum.inl q.1), .int q.2])) := Same.new hT
        have eT : upd H3 T (.tup [kV (Sum.inl q.1), .int q.2]) T = some (.tup [.int q.1, .int q.2]) := upd_same
        generalize upd H3 T (.tup [kV (Sum.inl q.1), .int q.2]) = H4 at *
        have ho4 := s4 _ _ (x3 _ _ nF (Lo _ _ nDp (s2 _ _ ho)))
        have sF4 := Lf.trans ((Fr.ext (Ext.sub (fun b z => .inl z) x3)).trans (Fr.same s4))
        have ha4 := Rep.up sF4 ha
        have hb4 := Rep.up sF4 hb
        have m4 := m3.same s4
        have A4 := A3.same s4
        refine ⟨T, _, rfl, SqT.of eT, rfl, _, _, rfl, _, _, rfl, rfl, ?_⟩
        refine ⟨_, rfl, m4.ty, _, rfl, p, _, dx, _, _, rfl, ho4, c_Plan Z, na_Plan_wished Z, p4_w, rd_len hb4 Fr.sub ?_⟩
        refine ⟨_, rfl, _, _, rfl, rfl, _, rfl, p, _, dx, _, _, rfl, ho4, c_Plan Z, na_Plan_clock Z, p4_c, _, rfl, _, rfl, ?_⟩
        refine ⟨_, rfl, p, _, dx, _, _, rfl, ho4, c_Plan Z, na_Plan_pairs Z, p4_p, _, rfl, rd_ixL ha4 Fr.sub (lineAt_at w1 w2).1 fun u1 r1 => rd_p0 r1 Fr.sub fun u2 e2 => ?_⟩
        cases e2
        refine mk_Edge (x := fixE ps ws.length q) A4 fun u9 H5 s5 r9 => ?_
        have hwl := hw.1
        refine rd_app (m4.same s5) (.inl rfl) (A4.same s5) r9 (by rw [List.length_append, List.length_map, List.length_zipIdx, List.length_map, List.length_take]; omega) fun H6 m6 f6 x6 A6 => ?_
        refine ⟨_, _, _, _, _, _, rfl, x3.trans ((Ext.same (s4.trans s5)).trans (Ext.sub (fun b z => z.elim id fun z => z.elim) x6)), ?_, A6⟩
        rw [tk_map hq1, ← List.append_assoc]
        exact m6
      · rintro σ H3 ⟨z2, z3, z4, z5, z6, z7, rfl, x3, m3, A3⟩
        rw [show (diK ds).length = ds.length from List.length_map _, List.take_length] at m3
        refine ⟨x3 _ _ nFD L0, _, _, _, _, _, _, rfl, fun b o e => ?_, m3.ext (Fr.wr (.inr hD)) fun o e => by rw [upd_ne nFD.symm]; exact e⟩
        by_cases c : b = D
        · rw [c, upd_same]
          rw [c, eD] at e
          exact e
        · rw [upd_ne c]
          exact x3 _ _ (fun z => by rw [z, hF] at e; cases e) (Lo b o c (s2 _ _ e))
    rintro σ H3 ⟨z2, z3, z4, z5, z6, z7, rfl, s3, m3⟩
    exact ⟨_, rfl, hq _ _ s3 (m3.done (hA.new hF))⟩
theorem cl_Plan_edges {K : Frag} {H : Hp} {Q : VK} {E : XK} {p : Addr} {dx : Addr} {M : Addr → Prop} {a : V} {b : V} {D : Addr} {ps : List (Int × Int)} {ws : List N3} {ds : List (Int × Int)} (ho : H p = some (.ins (ga K "Plan") dx (plF4 a b (.ref D) (.int (ps.length : Nat))))) (hA : Alloc M H) (hD : M D) (eD : H D = some (.dK (diK ds))) (ha : rp K (Fr M H) a ps) (hb : rp K (Fr M H) b ws) (hw : WishOk (ps.length : Nat) ws) (hd : FixOk ps ds) (hdl : ds.length ≤ 300) (k : ∀ u H', Same H H' → rp K (Fr M H') u (edgesF ps ws ds) → Q u H') : sq (sp_Plan_edges K) [.ref p] H Q E := sqI ⟨p, dx, M, a, b, D, ps, ws, ds, rfl, ho, hA, hD, eD, ha, hb, hw, hd, hdl, k⟩
end
section
variable {w : World} {K : Frag} {mg : Str → Option Value} {base : Heap}
def sp_Plan_init (K : Frag) : Sp := fun vs H Q E => ∃ (p : Addr) (dx : Addr) (M : Addr → Prop) (va : V) (vb : V) (vc : V) (ps : List (Int × Int)) (ws : List N3) (ds : List (Int × Int)), vs = [.ref p, va, vb, vc] ∧ (H p = some (.ins (ga K "Plan") dx [])) ∧ (Alloc M H) ∧ (¬ M p) ∧ (M (tabAt K (ma K (ga K "Forest") "__init__"))) ∧ (LamX.TabS H (tabAt K (ma K (ga K "Forest") "__init__")) (Str.ofString "Forest.__init__.<locals>.<lambda>")) ∧ (rp K (Fr (Ad p M) H) va ps) ∧ (rp K (Fr (Ad p M) H) vb ws) ∧ (rp K (Fr (Ad p M) H) vc ds) ∧ (PairsOk ps) ∧ (WishOk (ps.length : Nat) ws) ∧ (FixOk ps ds) ∧ ∀ H', Ext (fun b => b = p ∨ b = tabAt K (ma K (ga K "Forest") "__init__")) H H' → LamX.TabS H' (tabAt K (ma K (ga K "Forest") "__init__")) (Str.ofString "Forest.__init__.<locals>.<lambda>") → rp K (Fr M H') (.ref p) (planF ps ws ds) → Q .non H'
theorem ok_Plan_init (Z : Zs cks fns K mg) (TB : TbF K mg base (ma K (ga K "Forest") "__init__")) : FnOk PP w K mg base (L2.CX PP w) 12 (ma K (ga K "Plan") "__init__") (fdAt K (ma K (ga K "Plan") "__init__")) ["self", "lines", "wishes", "fixed"] (sp_Plan_init K) := by
  refine L2.Fun.okX (u_Plan_init Z) sc_Plan_init (fun vs H Q E h => ?_) (fun cdv A outer s H vs Q E hr h => ?_)
  · obtain ⟨_, _, _, _, _, _, _, _, _, rfl, _⟩ := h
    rfl
  · obtain ⟨p, dx, M, va, vb, vc, ps, ws, ds, rfl, ⟨hp, hA, np, hP, hT, ha, hb, hc, ok1, ok2, ok3, hq⟩⟩ := h
    refine ⟨_, (pss_cons (ps_if (pt_not (pt_val (pe_call (okq (ok_are_planned Z)) (hr.mono (by decide)) rfl (g_are_planned Z) (u_are_planned Z).kp (b_are_planned Z) .nil passL (pa_cons (pv 1) pa_nil))))
        (pss_one (ps_raise rfl (takes_of rfl rfl rfl rfl) (pmk_own PySem.F.excBase_ValueError (er_InvalidWishes Z).x (g_InvalidWishes Z) (er_InvalidWishes Z).k (raises_own (er_InvalidWishes Z).b (er_InvalidWishes Z).t) rfl)))
        pss_nil)
      (pss_cons (ps_if (pt_not (pt_val (pe_call (okq (ok_are_wishes Z)) (hr.mono (by decide)) rfl (g_are_wishes Z) (u_are_wishes Z).kp (b_are_wishes Z) .nil passL (pa_cons (pe_callB (crq call_len_seq) rfl (n_len Z) (by decide +kernel) (pa_cons (pv 1) pa_nil)) (pa_cons (pv 2) pa_nil)))))
        (pss_one (ps_raise rfl (takes_of rfl rfl rfl rfl) (pmk_own PySem.F.excBase_ValueError (er_InvalidWishes Z).x (g_InvalidWishes Z) (er_InvalidWishes Z).k (raises_own (er_InvalidWishes Z).b (er_InvalidWishes Z).t) rfl)))
        pss_nil)
      (pss_cons (ps_if (pt_not (pt_val (pe_call (okq (ok_are_fixed Z)) (hr.mono (by decide)) rfl (g_are_fixed Z) (u_are_fixed Z).kp (b_are_fixed Z) .nil passL (pa_cons (pv 1) (pa_cons (pv 3) pa_nil)))))
        (pss_one (ps_raise rfl (takes_of rfl rfl rfl rfl) (pmk_own PySem.F.excBase_ValueError (er_InvalidFixed Z).x (g_InvalidFixed Z) (er_InvalidFixed Z).k (raises_own (er_InvalidFixed Z).b (er_InvalidFixed Z).t) rfl)))
        pss_nil)
      (pss_cons (ps_fld (pv 0) (pe_callTy (crq call_list_of) rfl (n_list Z) (by decide +kernel) (pa_cons (pv 1) pa_nil)) rfl)
      (pss_cons (ps_fld (pv 0) (pe_callTy (crq call_list_of) rfl (n_list Z) (by decide +kernel) (pa_cons (pv 2) pa_nil)) rfl)
      (pss_cons (ps_fld (pv 0) (pe_callTy (crq (call_dictP rfl)) rfl (n_dict Z) (by decide +kernel) (pa_cons (pv 3) pa_nil)) rfl)
      (pss_cons (ps_fld (pv 0) (pe_callB (crq call_len_seq) rfl (n_len Z) (by decide +kernel) (pa_cons (pv 1) pa_nil)) rfl)
      (pss_one (ps_fld (pv 0) (pe_makeQ (pe_make (M_Forest Z) (okq (ok_Forest_init Z TB)) (hr.mono (by decide)) rfl (g_Forest Z) (b_Forest_init Z) .nil passL (pa_cons (pe_callB (crq call_len_seq) rfl (n_len Z) (by decide +kernel) (pa_cons (pv 1) pa_nil)) (pa_cons (pe_meth0 (pv 0) (c_Plan Z) (hm_Plan_edges Z) (okq (ok_Plan_edges Z)) (hr.mono (by decide)) (b_Plan_edges Z) .nil passL) pa_nil)))) rfl))))))))), ?_⟩
    have A1 : Alloc (Ad p M) H := fun b z => z.elim (fun z => by rw [z]; exact ⟨_, hp, .inl (by show (0 : Nat) ≠ 3; decide)⟩) (hA b)
    have l1 := ok1.1.2
    have l2 := ok2.1
    have l3 := fix_len ok3
    refine ⟨_, rfl, cl_are_planned ha A1 (by omega) fun H1 s1 => ⟨_, rfl, iteNS ok1 ?_⟩⟩
    have A2 := A1.same s1
    have ha1 := Rep.up (Fr.same s1) ha
    have hb1 := Rep.up (Fr.same s1) hb
    have hc1 := Rep.up (Fr.same s1) hc
    refine ⟨_, rfl, rd_len ha1 Fr.sub ⟨_, rfl, cl_are_wishes hb1 A2 (by omega) fun H2 s2 => ⟨_, rfl, iteNS ok2 ?_⟩⟩⟩
    have A3 := A2.same s2
    have ha2 := Rep.up (Fr.same s2) ha1
    have hb2 := Rep.up (Fr.same s2) hb1
    have hc2 := Rep.up (Fr.same s2) hc1
    refine ⟨_, rfl, _, rfl, cl_are_fixed ha2 hc2 A3 (by omega) fun H3 s3 => ⟨_, rfl, iteNS ok3 ?_⟩⟩
    have A4 := A3.same s3
    have s03 := s1.trans (s2.trans s3)
    have ha3 := Rep.up (Fr.same s3) ha2
    have hb3 := Rep.up (Fr.same s3) hb2
    have hc3 := Rep.up (Fr.same s3) hc2
    have hp3 := s03 _ _ hp
    have x3 : Ext (fun b => b = p) H H3 := Ext.same s03
    clear ha2 hb2 hc2 ha1 hb1 hc1 A1 A2 A3 s1 s2 s3 s03
    refine ⟨_, rfl, rd_lis A4 ha3 fun v1 H4 s4 r4 => ⟨_, rfl, p, ga K "Plan", dx, _, rfl, s4 _ _ hp3, c_Plan Z, na_Plan_pairs Z, pl0, ?_⟩⟩
    have w5 : Same (Fr (Ad p M) H4) (Fr (Ad p M) (upd H4 p (.ins (ga K "Plan") dx (putF "pairs" v1 [])))) := Fr.wr (.inl rfl)
    have A5 : Alloc (Ad p M) (upd H4 p (.ins (ga K "Plan") dx (putF "pairs" v1 []))) := (A4.same s4).wrM mp1
    have o5 : upd H4 p (.ins (ga K "Plan") dx (putF "pairs" v1 [])) p = some (.ins (ga K "Plan") dx (putF "pairs" v1 [])) := upd_same
    have x5 : Ext (fun b => b = p) H (upd H4 p (.ins (ga K "Plan") dx (putF "pairs" v1 []))) := fun b o n e => by rw [upd_ne n]; exact s4 _ _ (x3 _ _ n e)
    generalize upd H4 p (.ins (ga K "Plan") dx (putF "pairs" v1 [])) = H5 at *
    have ha5 := Rep.up ((Fr.same s4).trans w5) ha3
    have hb5 := Rep.up ((Fr.same s4).trans w5) hb3
    have hc5 := Rep.up ((Fr.same s4).trans w5) hc3
    have r5 := Rep.up w5 r4
    clear ha3 hb3 hc3 r4 w5 A4 x3 hp3 s4
    refine ⟨_, rfl, rd_lis A5 hb5 fun v2 H6 s6 q6 => ⟨_, rfl, p, ga K "Plan", dx, _, rfl, s6 _ _ o5, c_Plan Z, na_Plan_wished Z, pl1, ?_⟩⟩
    have w7 : Same (Fr (Ad p M) H6) (Fr (Ad p M) (upd H6 p (.ins (ga K "Plan") dx (putF "wished" v2 (putF "pairs" v1 []))))) := Fr.wr (.inl rfl)
    have A7 : Alloc (Ad p M) (upd H6 p (.ins (ga K "Plan") dx (putF "wished" v2 (putF "pairs" v1 [])))) := (A5.same s6).wrM mp2
    have o7 : upd H6 p (.ins (ga K "Plan") dx (putF "wished" v2 (putF "pairs" v1 []))) p = some (.ins (ga K "Plan") dx (putF "wished" v2 (putF "pairs" v1 []))) := upd_same
    have x7 : Ext (fun b => b = p) H (upd H6 p (.ins (ga K "Plan") dx (putF "wished" v2 (putF "pairs" v1 [])))) := fun b o n e => by rw [upd_ne n]; exact s6 _ _ (x5 _ _ n e)
    generalize upd H6 p (.ins (ga K "Plan") dx (putF "wished" v2 (putF "pairs" v1 []))) = H7 at *
    have u7 := (Fr.same s6).trans w7
    have ha7 := Rep.up u7 ha5
    have hc7 := Rep.up u7 hc5
    have r7 := Rep.up u7 r5
    have q7 := Rep.up w7 q6
    clear ha5 hb5 hc5 r5 q6 w7 u7 A5 x5 o5 s6
    refine ⟨_, rfl, rd_dict hc7 Fr.sub ok3.2 fun D hD => ⟨_, rfl, p, ga K "Plan", dx, _, rfl, (by rw [upd_ne (fun z => by rw [← z, o7] at hD; cases hD)]; exact o7), c_Plan Z, na_Plan_settled Z, pl2, ?_⟩⟩
    have nDp : D ≠ p := fun z => by rw [z, o7] at hD; cases hD
    have nMD : ¬ Ad p M D := A7.new hD
    refine ⟨_, rfl, rd_len (xs := ps) (F := Fr (Ad D (Ad p M)) (upd (upd H7 D (.dK (diK ds))) p (.ins (ga K "Plan") dx (putF "settled" (.ref D) (putF "wished" v2 (putF "pairs" v1 [])))))) (Rep.up ((Fr.put hD).trans (Fr.wr (.inr (.inl rfl)))) ha7) Fr.sub ⟨_, rfl, p, ga K "Plan", dx, _, rfl, upd_same, c_Plan Z, na_Plan_clock Z, pl3, ?_⟩⟩
    rw [upd_upd, p4_new]
    have s8 : Same (Fr (Ad p M) H7) (Fr (Ad D (Ad p M)) (upd (upd H7 D (.dK (diK ds))) p (.ins (ga K "Plan") dx (plF4 v1 v2 (.ref D) (.int (ps.length : Nat)))))) := (Fr.put hD).trans (Fr.wr (.inr (.inl rfl)))
    have A8 : Alloc (Ad D (Ad p M)) (upd (upd H7 D (.dK (diK ds))) p (.ins (ga K "Plan") dx (plF4 v1 v2 (.ref D) (.int (ps.length : Nat))))) := (A7.putO (o := .dK (diK ds)) trivial).wrM mp4
    have o8 : upd (upd H7 D (.dK (diK ds))) p (.ins (ga K "Plan") dx (plF4 v1 v2 (.ref D) (.int (ps.length : Nat)))) p = some (.ins (ga K "Plan") dx (plF4 v1 v2 (.ref D) (.int (ps.length : Nat)))) := upd_same
    have e8 : upd (upd H7 D (.dK (diK ds))) p (.ins (ga K "Plan") dx (plF4 v1 v2 (.ref D) (.int (ps.length : Nat)))) D = some (.dK (diK ds)) := by rw [upd_ne nDp, upd_same]
    have x8 : Ext (fun b => b = p) H (upd (upd H7 D (.dK (diK ds))) p (.ins (ga K "Plan") dx (plF4 v1 v2 (.ref D) (.int (ps.length : Nat))))) := fun b o n e => by
      have e2 := x7 _ _ n e
      rw [upd_ne n, upd_ne (ne_of_none e2 hD)]
      exact e2
    generalize upd (upd H7 D (.dK (diK ds))) p (.ins (ga K "Plan") dx (plF4 v1 v2 (.ref D) (.int (ps.length : Nat)))) = H8 at *
    have ha8 := Rep.up s8 ha7
    have r8 := Rep.up s8 r7
    have q8 := Rep.up s8 q7
    have hT8 := tabS_ext hT x8 fun b z o e => by rw [show b = p from z, hp] at e; cases e; exact .inr ⟨_, _, _, rfl⟩
    refine ⟨_, rfl, rd_len ha8 Fr.sub ⟨_, rfl, p, dx, _, rfl, o8, p4_no, cl_Plan_edges o8 A8 (.inl rfl) e8 r8 q8 ok2 ok3 (by omega) fun u H9 s9 r9 => ?_⟩⟩
    have hT9 := tabS_same hT8 s9
    refine mk_Forest (m := ps.length) (A8.same s9) (.inr (.inr hP)) hT9 r9 (by omega) (edgesF_len ok1 ok2 ok3) (edgesF_ok ok1 ok2 ok3) fun u2 H10 x10 t10 r10 => ?_
    obtain ⟨ps9, eP9, _⟩ := id hT9
    have o9 := s9 _ _ o8
    have npP : p ≠ tabAt K (ma K (ga K "Forest") "__init__") := fun z => by rw [z, eP9] at o9; cases o9
    have nDP : D ≠ tabAt K (ma K (ga K "Forest") "__init__") := fun z => by have := s9 _ _ e8; rw [z, eP9] at this; cases this
    have o10 := x10 _ _ npP o9
    refine ⟨_, rfl, p, ga K "Plan", dx, _, rfl, o10, c_Plan Z, na_Plan_forest Z, p4_len, ?_⟩
    rw [pl_new]
    have xF : Same (Fr (Ad D (Ad p M)) H8) (Fr (Ad D (Ad p M)) H10) := (Fr.same s9).trans (Fr.ext (Ext.sub (fun b z => by rw [show b = _ from z]; exact .inr (.inr hP)) x10))
    have wF : Same (Fr (Ad D (Ad p M)) H10) (Fr M (upd H10 p (.ins (ga K "Plan") dx (plF v1 v2 (.ref D) (.int (ps.length : Nat)) u2)))) := (Fr.wr (.inr (.inl rfl))).trans (Fr.mono fun b m => .inr (.inr m))
    refine hq _ (fun b o n e => ?_) (tabS_ext (T := fun b => b = p) t10 (fun b o n e => by rw [upd_ne n]; exact e) fun b z o e => by rw [show b = p from z, o10] at e; cases e; exact .inr ⟨_, _, _, rfl⟩) ⟨p, dx, v1, v2, .ref D, u2, rfl, Fr.get np upd_same, Rep.up (xF.trans wF) r8, Rep.up (xF.trans wF) q8, ⟨D, rfl, Fr.get (fun z => nMD (.inr z)) ?_⟩, Rep.up wF r10⟩
    · rw [upd_ne (fun z => n (.inl z))]
      exact x10 _ _ (fun z => n (.inr z)) (s9 _ _ (x8 _ _ (fun z => n (.inl z)) e))
    · rw [upd_ne nDp]
      exact x10 _ _ nDP (s9 _ _ e8)
theorem cl_Plan_init {K : Frag} {H : Hp} {Q : VK} {E : XK} {p : Addr} {dx : Addr} {M : Addr → Prop} {va : V} {vb : V} {vc : V} {ps : List (Int × Int)} {ws : List N3} {ds : List (Int × Int)} (hp : H p = some (.ins (ga K "Plan") dx [])) (hA : Alloc M H) (np : ¬ M p) (hP : M (tabAt K (ma K (ga K "Forest") "__init__"))) (hT : LamX.TabS H (tabAt K (ma K (ga K "Forest") "__init__")) (Str.ofString "Forest.__init__.<locals>.<lambda>")) (ha : rp K (Fr (Ad p M) H) va ps) (hb : rp K (Fr (Ad p M) H) vb ws) (hc : rp K (Fr (Ad p M) H) vc ds) (ok1 : PairsOk ps) (ok2 : WishOk (ps.length : Nat) ws) (ok3 : FixOk ps ds) (k : ∀ H', Ext (fun b => b = p ∨ b = tabAt K (ma K (ga K "Forest") "__init__")) H H' → LamX.TabS H' (tabAt K (ma K (ga K "Forest") "__init__")) (Str.ofString "Forest.__init__.<locals>.<lambda>") → rp K (Fr M H') (.ref p) (planF ps ws ds) → Q .non H') : sq (sp_Plan_init K) [.ref p, va, vb, vc] H Q E := sqI ⟨p, dx, M, va, vb, vc, ps, ws, ds, rfl, hp, hA, np, hP, hT, ha, hb, hc, ok1, ok2, ok3, k⟩
theorem mk_Plan {K : Frag} {H : Hp} {Q : VK} {E : XK} {M : Addr → Prop} {va vb vc : V} {ps ds : List (Int × Int)} {ws : List N3} (al : Alloc M H) (hP : M (tabAt K (ma K (ga K "Forest") "__init__"))) (hT : LamX.TabS H (tabAt K (ma K (ga K "Forest") "__init__")) (Str.ofString "Forest.__init__.<locals>.<lambda>")) (ha : rp K (Fr M H) va ps) (hb : rp K (Fr M H) vb ws) (hc : rp K (Fr M H) vc ds) (ok1 : PairsOk ps) (ok2 : WishOk (ps.length : Nat) ws) (ok3 : FixOk ps ds)
    (k : ∀ u H', Ext (fun b => b = tabAt K (ma K (ga K "Forest") "__init__")) H H' → LamX.TabS H' (tabAt K (ma K (ga K "Forest") "__init__")) (Str.ofString "Forest.__init__.<locals>.<lambda>") → rp K (Fr M H') u (planF ps ws ds) → Q u H') : sqc (rMake (ga K "Plan") (sq (sp_Plan_init K)) E) [va, vb, vc] H Q := by
  rw [sqc_eq]
  intro x dx hx hd hne
  have s : Same H (upd (upd H dx (.own x)) x (.ins (ga K "Plan") dx [])) := fun b o e => by
    rw [upd_ne (ne_of_none e hx), upd_ne (ne_of_none e hd)]
    exact e
  have f : Same (Fr M H) (Fr (Ad x M) (upd (upd H dx (.own x)) x (.ins (ga K "Plan") dx []))) := fun b o e => by
    have e2 := Fr.sub _ _ e
    exact Fr.get (fun z => z.elim (fun y => by rw [y, hx] at e2; cases e2) (Fr.no e)) (s _ _ e2)
  refine cl_Plan_init (p := x) upd_same (al.same s) (al.new hx) hP (tabS_same hT s) (Rep.up f ha) (Rep.up f hb) (Rep.up f hc) ok1 ok2 ok3 fun H' x' t' r' => ⟨rfl, k _ _ (fun b o n e => ?_) t' r'⟩
  exact x' b o (fun z => z.elim (fun y => by rw [y, hx] at e; cases e) n) (s _ _ e)

end
section
variable {w : World} {K : Frag} {mg : Str → Option Value} {base : Heap}
def sp_is_number_from (K : Frag) : Sp := fun vs H Q E => ∃ (i : Int) (l : Int), vs = [.int i, .int l] ∧ Q (.bl (decide (i ≥ l))) H
theorem ok_is_number_from (Z : Zs cks fns K mg) : FnOk PP w K mg base (L2.CX PP w) 1 (ga K "is_number_from") (fdAt K (ga K "is_number_from")) ["thing", "least"] (sp_is_number_from K) := by
  refine L2.Fun.okX (u_is_number_from Z) sc_is_number_from (fun vs H Q E h => ?_) (fun cdv A outer s H vs Q E hr h => ?_)
  · obtain ⟨_, _, rfl, _⟩ := h
    rfl
  · obtain ⟨i, l, rfl, hq⟩ := h
    refine ⟨_, (pss_one (ps_ret (pe_and (pe_callB call_isi rfl (n_isinstance Z) (by decide +kernel) (pa_cons (pv 0) (pa_cons (pe_bltn (v := .ty "int") (u := .type "int") rfl (n_int Z) (by decide +kernel) rfl) pa_nil))) (pe_and (pe_not (pe_callB call_isi rfl (n_isinstance Z) (by decide +kernel) (pa_cons (pv 0) (pa_cons (pe_bltn (v := .ty "bool") (u := .type "bool") rfl (n_bool Z) (by decide +kernel) rfl) pa_nil)))) (pe_one (pe_cmpR op_ge (pv 0) (pv 1) (nomark _))))))), ?_⟩
    exact ⟨_, rfl, _, _, _, _, true, rfl, .ty "int", .base (.int _), kit_ty (by decide +kernel), _, rfl, iteT ⟨_, rfl, _, _, _, _, false, rfl, .ty "bool", .base (.int _), kit_ty (by decide +kernel), _, rfl, _, rfl, iteT ⟨_, rfl, _, rfl, _, _, rfl, rfl, hq⟩⟩⟩
theorem cl_is_number_from {K : Frag} {H : Hp} {Q : VK} {E : XK} {i l : Int} (k : Q (.bl (decide (i ≥ l))) H) : sq (sp_is_number_from K) [.int i, .int l] H Q E := sqI ⟨i, l, rfl, k⟩
def sp_State_init (K : Frag) : Sp := fun vs H Q E => ∃ (p : Addr) (dx : Addr) (a : V) (b : V) (c : V), vs = [.ref p, a, b, c] ∧ H p = some (.ins (ga K "State") dx []) ∧ Q .non (upd H p (.ins (ga K "State") dx (soF a b c)))
theorem ok_State_init (Z : Zs cks fns K mg) : FnOk PP w K mg base (L2.CX PP w) 1 (ma K (ga K "State") "__init__") (fdAt K (ma K (ga K "State") "__init__")) ["self", "lines", "wishes", "fixed"] (sp_State_init K) := by
  refine L2.Fun.okX (u_State_init Z) sc_State_init (fun vs H Q E h => ?_) (fun cdv A outer s H vs Q E hr h => ?_)
  · obtain ⟨_, _, _, _, _, rfl, _⟩ := h
    rfl
  · obtain ⟨p, dx, a, b, c, rfl, ⟨hp, hq⟩⟩ := h
    refine ⟨_, (pss_cons (ps_fld (pv 0) (pv 1) rfl)
      (pss_cons (ps_fld (pv 0) (pv 2) rfl)
      (pss_one (ps_fld (pv 0) (pv 3) rfl)))), ?_⟩
    refine ⟨_, rfl, _, rfl, p, _, dx, _, rfl, hp, c_State Z, na_State_all_lines Z, (by first | exact pl0 | exact pl1 | exact pl2 | exact plN), ?_⟩
    refine ⟨_, rfl, _, rfl, p, _, dx, _, rfl, upd_same, c_State Z, na_State_all_wishes Z, (by first | exact pl0 | exact pl1 | exact pl2 | exact plN), ?_⟩
    refine ⟨_, rfl, _, rfl, p, _, dx, _, rfl, upd_same, c_State Z, na_State_all_fixed Z, (by first | exact pl0 | exact pl1 | exact pl2 | exact plN), ?_⟩
    rw [upd_upd, upd_upd, so_new]
    exact hq

theorem oh_State_init (Z : Zs cks fns K mg) : FnE PP w K mg base (L2.CX PP w) 1 (ma K (ga K "State") "__init__") (fdAt K (ma K (ga K "State") "__init__")) ["self", "lines", "wishes", "fixed"] (fun _ _ _ => sp_State_init K) := by
  refine Fw.Fun.okE (u_State_init Z) sc_State_init (fun ea cls d vs H Q E h => ?_) (fun cdv A outer s H vs Q E p cls d err hr h => ?_)
  · obtain ⟨_, _, _, _, _, rfl, _⟩ := h
    rfl
  · obtain ⟨p, dx, a, b, c, rfl, ⟨hp, hq⟩⟩ := h
    have hs := Has.pin (CX := L2.CX PP w) (P := PP) (w := w) (K := K) (mg := mg) (base := base) (N := ["self", "lines", "wishes", "fixed"]) (qual := "State.__init__") (scope := defScope s_State_init) (f := (ma K (ga K "State") "__init__")) (cd := cdv) (A := A) (outer := outer) (s := s) (H := H) (E := E) err
    refine ⟨_, (pss_cons (ps_fld (pv 0) (pv 1) rfl)
      (pss_cons (ps_fld (pv 0) (pv 2) rfl)
      (pss_one (ps_fld (pv 0) (pv 3) rfl)))), ?_⟩
    refine ⟨_, rfl, _, rfl, p, _, dx, _, rfl, hp, c_State Z, na_State_all_lines Z, (by first | exact pl0 | exact pl1 | exact pl2 | exact plN), ?_⟩
    refine ⟨_, rfl, _, rfl, p, _, dx, _, rfl, upd_same, c_State Z, na_State_all_wishes Z, (by first | exact pl0 | exact pl1 | exact pl2 | exact plN), ?_⟩
    refine ⟨_, rfl, _, rfl, p, _, dx, _, rfl, upd_same, c_State Z, na_State_all_fixed Z, (by first | exact pl0 | exact pl1 | exact pl2 | exact plN), ?_⟩
    rw [upd_upd, upd_upd, so_new]
    exact hq
def sp_Net_init (K : Frag) : Sp := fun vs H Q E => ∃ (p : Addr) (dx : Addr), vs = [.ref p] ∧ H p = some (.ins (ga K "Net") dx []) ∧ ∀ S Mk H', S ≠ Mk → H S = none → H Mk = none → (∀ b o, b ≠ p → H b = some o → H' b = some o) → H' p = some (.ins (ga K "Net") dx (ntF (.ref S) (.ref Mk))) → H' S = some (.lst []) → H' Mk = some (.lst []) → Q .non H'
theorem ok_Net_init (Z : Zs cks fns K mg) : FnOk PP w K mg base (L2.CX PP w) 1 (ma K (ga K "Net") "__init__") (fdAt K (ma K (ga K "Net") "__init__")) ["self"] (sp_Net_init K) := by
  refine L2.Fun.okX (u_Net_init Z) sc_Net_init (fun vs H Q E h => ?_) (fun cdv A outer s H vs Q E hr h => ?_)
  · obtain ⟨_, _, rfl, _⟩ := h
    rfl
  · obtain ⟨p, dx, rfl, ⟨hp, hq⟩⟩ := h
    refine ⟨_, (pss_cons (ps_fld (pv 0) (pe_lst pa_nil) rfl)
      (pss_one (ps_fld (pv 0) (pe_lst pa_nil) rfl))), ?_⟩
    refine ⟨(by show 0 ≤ sizeLine; decide), fun S hS => ?_⟩
    have nS : S ≠ p := fun z => by rw [z, hp] at hS; cases hS
    refine ⟨_, rfl, p, _, dx, _, rfl, (by rw [upd_ne nS.symm]; exact hp), c_Net Z, na_Net_states Z, (by first | exact pl0 | exact pl1 | exact pl2 | exact plN), ?_⟩
    refine ⟨(by show 0 ≤ sizeLine; decide), fun Mk hM => ?_⟩
    have hM2 : H Mk = none ∧ Mk ≠ S ∧ Mk ≠ p := by
      by_cases c : Mk = p
      · rw [c, upd_same] at hM
        cases hM
      · rw [upd_ne c] at hM
        by_cases d : Mk = S
        · rw [d, upd_same] at hM
          cases hM
        · rw [upd_ne d] at hM
          exact ⟨hM, d, c⟩
    obtain ⟨hM1, nMS, nMp⟩ := hM2
    refine ⟨_, rfl, p, _, dx, _, rfl, (by rw [upd_ne nMp.symm]; exact upd_same), c_Net Z, na_Net_marks Z, (by first | exact pl0 | exact pl1 | exact pl2 | exact plN), ?_⟩
    rw [nt_new]
    refine hq S Mk _ nMS.symm hS hM1 (fun b o n e => ?_) upd_same ?_ ?_
    · have b1 : b ≠ S := fun z => by rw [z, hS] at e; cases e
      have b2 : b ≠ Mk := fun z => by rw [z, hM1] at e; cases e
      rw [upd_ne n, upd_ne b2, upd_ne n, upd_ne b1]
      exact e
    · rw [upd_ne nS, upd_ne nMS.symm, upd_ne nS]
      exact upd_same
    · rw [upd_ne nMp]
      exact upd_same
end
section
variable {w : World} {K : Frag} {mg : Str → Option Value} {base : Heap}
theorem mk_State {K : Frag} {H : Hp} {Q : VK} {E : XK} {M : Addr → Prop} {a b c : V} {x : List (Int × Int)} {y : List N3} {z : List (Int × Int)} (al : Alloc M H) (ha : rp K (Fr M H) a x) (hb : rp K (Fr M H) b y) (hc : rp K (Fr M H) c z) (k : ∀ u H', Same H H' → rp K (Fr M H') u (⟨⟨x, y, z⟩⟩ : SO) → Q u H') : sqc (rMake (ga K "State") (sp_State_init K) E) [a, b, c] H Q := by
  rw [sqc_eq]
  intro p dx hp hd hne
  have s := mk_same (o := .own p) (o1 := .ins (ga K "State") dx []) (o2 := .ins (ga K "State") dx (soF a b c)) hp hd
  refine ⟨p, dx, a, b, c, rfl, upd_same, rfl, k _ _ s ?_⟩
  exact ⟨p, dx, a, b, c, rfl, Fr.get (al.new hp) upd_same, Rep.up (Fr.same s) ha, Rep.up (Fr.same s) hb, Rep.up (Fr.same s) hc⟩
/-- the same, not wrapped -/
theorem mk_StateR {K : Frag} {H : Hp} {Q : VK} {E : XK} {M : Addr → Prop} {a b c : V} {x : List (Int × Int)} {y : List N3} {z : List (Int × Int)} (al : Alloc M H) (ha : rp K (Fr M H) a x) (hb : rp K (Fr M H) b y) (hc : rp K (Fr M H) c z) (k : ∀ u H', Same H H' → rp K (Fr M H') u (⟨⟨x, y, z⟩⟩ : SO) → Q u H') : rMake (ga K "State") (sp_State_init K) E [a, b, c] H Q := by
  have q := mk_State (Q := Q) (E := E) al ha hb hc k
  rw [sqc_eq] at q
  exact q
structure Ns (K : Frag) (M : Addr → Prop) (H : Hp) (X : NA) (sts : List SO) (ms : List Int) : Prop where
  n : Nt K M H X sts ms
  al : Alloc M H
theorem Ns.same {K : Frag} {M : Addr → Prop} {H H' : Hp} {X : NA} {sts : List SO} {ms : List Int} (h : Ns K M H X sts ms) (s : Same H H') : Ns K M H' X sts ms := ⟨h.n.same s, h.al.same s⟩

def sp_Net_present (K : Frag) : Sp := fun vs H Q E => ∃ (M : Addr → Prop) (X : NA) (sts : List SO) (ms : List Int), vs = [.ref X.W] ∧ Nt K M H X sts ms ∧ Alloc M H ∧ ∀ u H', Same H H' → rp K (Fr M H') u (topS sts) → Q u H'
theorem ok_Net_present (Z : Zs cks fns K mg) : FnOk PP w K mg base (L2.CX PP w) 4 (ma K (ga K "Net") "present") (fdAt K (ma K (ga K "Net") "present")) ["self"] (sp_Net_present K) := by
  refine L2.Fun.okX (u_Net_present Z) sc_Net_present (fun vs H Q E h => ?_) (fun cdv A outer s H vs Q E hr h => ?_)
  · obtain ⟨_, _, _, _, rfl, _⟩ := h
    rfl
  · obtain ⟨M, X, sts, ms, rfl, ⟨hn, hA, hq⟩⟩ := h
    refine ⟨_, (pss_one (ps_ret (pe_ifExp (pt_cmpR (op_neE hr.units) (pe_fld (pv 0) rfl) (pe_lst pa_nil) (nomark _)) (pe_ix ix_list (pe_fld (pv 0) rfl) (pe_un un_neg pe_int) (fun _ _ => rfl)) (pe_make (M_State Z) (ok_State_init Z) (hr.mono (by decide)) rfl (g_State Z) (b_State_init Z) .nil passL (pa_cons (pe_lst pa_nil) (pa_cons (pe_lst pa_nil) (pa_cons (pe_lst pa_nil) pa_nil))))))), ?_⟩
    obtain ⟨vs, eS, pd⟩ := hn.s
    refine ⟨_, rfl, X.W, _, X.dx, _, _, rfl, hn.o, c_Net Z, na_Net_states Z, nt_s, (by show 0 ≤ sizeLine; decide), fun q hq0 => ?_⟩
    have s1 := Same.new (o := .lst []) hq0
    have hn1 := hn.same s1
    have hA1 := hA.same s1
    refine ⟨X.S, q, vs, rfl, rfl, SqL.of (s1 _ _ eS), SqL.of upd_same, _, rfl, ?_⟩
    cases e : sts.getLast? with
    | none =>
      have e0 : sts = [] := List.getLast?_eq_none_iff.mp e
      subst e0
      cases pd
      refine iteF ?_
      refine ⟨(by show 0 ≤ sizeLine; decide), fun q1 h1 => ⟨(by show 0 ≤ sizeLine; decide), fun q2 h2 => ⟨(by show 0 ≤ sizeLine; decide), fun q3 h3 => ?_⟩⟩⟩
      have z1 := Same.new (o := .lst []) h1
      have z2 := Same.new (o := .lst []) h2
      have z3 := Same.new (o := .lst []) h3
      have a1 := hA1.same z1
      have a2 := a1.same z2
      have a3 := a2.same z3
      refine mk_StateR (x := []) (y := []) (z := []) (M := M) a3 ?_ ?_ ?_ fun u H9 s9 r9 => hq u H9 (s1.trans (z1.trans (z2.trans (z3.trans s9)))) r9
      · exact ⟨q1, [], rfl, Fr.get (hA1.new h1) (z3 _ _ (z2 _ _ upd_same)), .nil⟩
      · exact ⟨q2, [], rfl, Fr.get (a1.new h2) (z3 _ _ upd_same), .nil⟩
      · exact ⟨q3, [], rfl, Fr.get (a2.new h3) upd_same, .nil⟩
    | some x =>
      obtain ⟨u, eu, ru⟩ := pd_last pd e
      have ne : vs.isEmpty = false := by
        cases vs with
        | nil => cases eu
        | cons _ _ => rfl
      rw [show (if true = true then !vs.isEmpty else vs.isEmpty) = true by rw [ne]; rfl]
      refine iteT ⟨_, rfl, X.W, _, X.dx, _, _, rfl, hn1.o, c_Net Z, na_Net_states Z, nt_s, _, rfl, X.S, vs, -1, u, rfl, rfl, SqL.of (s1 _ _ eS), atI_last eu, hq u _ s1 ?_⟩
      unfold topS
      rw [e]
      exact Rep.up (Fr.same s1) ru
theorem cl_Net_present {K : Frag} {H : Hp} {Q : VK} {E : XK} {M : Addr → Prop} {X : NA} {sts : List SO} {ms : List Int} (hn : Nt K M H X sts ms) (hA : Alloc M H) (k : ∀ u H', Same H H' → rp K (Fr M H') u (topS sts) → Q u H') : sq (sp_Net_present K) [.ref X.W] H Q E := sqI ⟨M, X, sts, ms, rfl, hn, hA, k⟩
theorem oh_Net_present (Z : Zs cks fns K mg) : FnE PP w K mg base (L2.CX PP w) 4 (ma K (ga K "Net") "present") (fdAt K (ma K (ga K "Net") "present")) ["self"] (fun _ _ _ => sp_Net_present K) := by
  refine Fw.Fun.okE (u_Net_present Z) sc_Net_present (fun ea cls d vs H Q E h => ?_) (fun cdv A outer s H vs Q E p cls d err hr h => ?_)
  · obtain ⟨_, _, _, _, rfl, _⟩ := h
    rfl
  · obtain ⟨M, X, sts, ms, rfl, ⟨hn, hA, hq⟩⟩ := h
    have hs := Has.pin (CX := L2.CX PP w) (P := PP) (w := w) (K := K) (mg := mg) (base := base) (N := ["self"]) (qual := "Net.present") (scope := defScope s_Net_present) (f := (ma K (ga K "Net") "present")) (cd := cdv) (A := A) (outer := outer) (s := s) (H := H) (E := E) err
    refine ⟨_, (pss_one (ps_ret (pe_ifExp (pt_cmpR (op_neE (roomU hr)) (pe_fld (pv 0) rfl) (pe_lst pa_nil) (nomark _)) (pe_ix ix_list (pe_fld (pv 0) rfl) (pe_un un_neg pe_int) (fun _ _ => rfl)) (pe_makeE (M_State Z) (oh_State_init Z) (hr.mono (by decide)) hs rfl (g_State Z) (b_State_init Z) passL (pa_cons (pe_lst pa_nil) (pa_cons (pe_lst pa_nil) (pa_cons (pe_lst pa_nil) pa_nil))))))), ?_⟩
    obtain ⟨vs, eS, pd⟩ := hn.s
    refine ⟨_, rfl, X.W, _, X.dx, _, _, rfl, hn.o, c_Net Z, na_Net_states Z, nt_s, (by show 0 ≤ sizeLine; decide), fun q hq0 => ?_⟩
    have s1 := Same.new (o := .lst []) hq0
    have hn1 := hn.same s1
    have hA1 := hA.same s1
    refine ⟨X.S, q, vs, rfl, rfl, SqL.of (s1 _ _ eS), SqL.of upd_same, _, rfl, ?_⟩
    cases e : sts.getLast? with
    | none =>
      have e0 : sts = [] := List.getLast?_eq_none_iff.mp e
      subst e0
      cases pd
      refine iteF ?_
      refine ⟨(by show 0 ≤ sizeLine; decide), fun q1 h1 => ⟨(by show 0 ≤ sizeLine; decide), fun q2 h2 => ⟨(by show 0 ≤ sizeLine; decide), fun q3 h3 => ?_⟩⟩⟩
      have z1 := Same.new (o := .lst []) h1
      have z2 := Same.new (o := .lst []) h2
      have z3 := Same.new (o := .lst []) h3
      have a1 := hA1.same z1
      have a2 := a1.same z2
      have a3 := a2.same z3
      refine mk_StateR (x := []) (y := []) (z := []) (M := M) a3 ?_ ?_ ?_ fun u H9 s9 r9 => hq u H9 (s1.trans (z1.trans (z2.trans (z3.trans s9)))) r9
      · exact ⟨q1, [], rfl, Fr.get (hA1.new h1) (z3 _ _ (z2 _ _ upd_same)), .nil⟩
      · exact ⟨q2, [], rfl, Fr.get (a1.new h2) (z3 _ _ upd_same), .nil⟩
      · exact ⟨q3, [], rfl, Fr.get (a2.new h3) upd_same, .nil⟩
    | some x =>
      obtain ⟨u, eu, ru⟩ := pd_last pd e
      have ne : vs.isEmpty = false := by
        cases vs with
        | nil => cases eu
        | cons _ _ => rfl
      rw [show (if true = true then !vs.isEmpty else vs.isEmpty) = true by rw [ne]; rfl]
      refine iteT ⟨_, rfl, X.W, _, X.dx, _, _, rfl, hn1.o, c_Net Z, na_Net_states Z, nt_s, _, rfl, X.S, vs, -1, u, rfl, rfl, SqL.of (s1 _ _ eS), atI_last eu, hq u _ s1 ?_⟩
      unfold topS
      rw [e]
      exact Rep.up (Fr.same s1) ru
end
section
variable {w : World} {K : Frag} {mg : Str → Option Value} {base : Heap}
def sp_Net_need_line (K : Frag) : Sp := fun vs H Q E => ∃ (M : Addr → Prop) (X : NA) (sts : List SO) (ms : List Int) (i : Int), vs = [.ref X.W, .int i] ∧ Nt K M H X sts ms ∧ Alloc M H ∧ ((0 ≤ i ∧ i < ((topS sts).t.a.length : Nat) ∧ ∀ H', Same H H' → Q .non H') ∨ (¬ (0 ≤ i ∧ i < (((topS sts).t.a.length : Nat) : Int)) ∧ ∀ H', Same H H' → E (.ref (ga K "InvalidIndex")) none H'))
theorem ok_Net_need_line (Z : Zs cks fns K mg) : FnOk PP w K mg base (L2.CX PP w) 5 (ma K (ga K "Net") "need_line") (fdAt K (ma K (ga K "Net") "need_line")) ["self", "index"] (sp_Net_need_line K) := by
  refine L2.Fun.okX (u_Net_need_line Z) sc_Net_need_line (fun vs H Q E h => ?_) (fun cdv A outer s H vs Q E hr h => ?_)
  · obtain ⟨_, _, _, _, _, rfl, _⟩ := h
    rfl
  · obtain ⟨M, X, sts, ms, i, rfl, ⟨hn, hA, hq⟩⟩ := h
    refine ⟨_, (pss_one (ps_if (pt_not (pt_chain op_le op_lt pe_int (pv 1) (pe_callB call_len_seq rfl (n_len Z) (by decide +kernel) (pa_cons (pe_fld (pe_meth0 (pv 0) (c_Net Z) (hm_Net_present Z) (ok_Net_present Z) (hr.mono (by decide)) (b_Net_present Z) .nil passL) rfl) pa_nil))))
        (pss_one (ps_raise rfl (takes_of rfl rfl rfl rfl) (pmk_own PySem.F.excBase_ValueError (er_InvalidIndex Z).x (g_InvalidIndex Z) (er_InvalidIndex Z).k (raises_own (er_InvalidIndex Z).b (er_InvalidIndex Z).t) rfl)))
        pss_nil)), ?_⟩
    rcases hq with ⟨h0, h1, hq⟩ | ⟨hno, hE⟩
    · refine ⟨_, rfl, _, _, rfl, rfl, _, rfl, ifT h0 ⟨_, rfl, X.W, X.dx, _, rfl, hn.o, nt_no, ⟨M, X, sts, ms, rfl, hn, hA, fun u H1 s1 r => ?_⟩⟩⟩
      obtain ⟨p, dxs, va, vb, vc, rfl, e, ra, rb, rc⟩ := r
      obtain ⟨q, vs, rfl, eq, pd⟩ := ra
      refine ⟨p, _, dxs, _, _, rfl, (Fr.sub _ _ e), c_State Z, na_State_all_lines Z, so_l, q, vs, rfl, .inl (SqL.of (Fr.sub _ _ eq)), ?_⟩
      rw [Paired.length pd]
      exact ⟨_, _, rfl, rfl, _, rfl, iteNS h1 (hq _ s1)⟩
    · by_cases h0 : 0 ≤ i
      · have h1 : ¬ i < (((topS sts).t.a.length : Nat) : Int) := fun z => hno ⟨h0, z⟩
        refine ⟨_, rfl, _, _, rfl, rfl, _, rfl, ifT h0 ⟨_, rfl, X.W, X.dx, _, rfl, hn.o, nt_no, ⟨M, X, sts, ms, rfl, hn, hA, fun u H1 s1 r => ?_⟩⟩⟩
        obtain ⟨p, dxs, va, vb, vc, rfl, e, ra, rb, rc⟩ := r
        obtain ⟨q, vs, rfl, eq, pd⟩ := ra
        refine ⟨p, _, dxs, _, _, rfl, (Fr.sub _ _ e), c_State Z, na_State_all_lines Z, so_l, q, vs, rfl, .inl (SqL.of (Fr.sub _ _ eq)), ?_⟩
        rw [Paired.length pd]
        exact ⟨_, _, rfl, rfl, _, rfl, ifNT h1 (hE _ s1)⟩
      · exact ⟨_, rfl, _, _, rfl, rfl, _, rfl, ifF h0 ⟨_, rfl, iteT (hE _ (Same.refl _))⟩⟩
theorem cl_Net_need_line {K : Frag} {H : Hp} {Q : VK} {E : XK} {M : Addr → Prop} {X : NA} {sts : List SO} {ms : List Int} {i : Int} (hn : Nt K M H X sts ms) (hA : Alloc M H) (h0 : 0 ≤ i) (h1 : i < ((topS sts).t.a.length : Nat)) (k : ∀ H', Same H H' → Q .non H') : sq (sp_Net_need_line K) [.ref X.W, .int i] H Q E := sqI ⟨M, X, sts, ms, i, rfl, hn, hA, .inl ⟨h0, h1, k⟩⟩
theorem clx_Net_need_line {K : Frag} {H : Hp} {Q : VK} {E : XK} {M : Addr → Prop} {X : NA} {sts : List SO} {ms : List Int} {i : Int} (hn : Nt K M H X sts ms) (hA : Alloc M H) (hno : ¬ (0 ≤ i ∧ i < (((topS sts).t.a.length : Nat) : Int))) (k : ∀ H', Same H H' → E (.ref (ga K "InvalidIndex")) none H') : sq (sp_Net_need_line K) [.ref X.W, .int i] H Q E := sqI ⟨M, X, sts, ms, i, rfl, hn, hA, .inr ⟨hno, k⟩⟩
def sp_Net_lines (K : Frag) : Sp := fun vs H Q E => ∃ (M : Addr → Prop) (X : NA) (sts : List SO) (ms : List Int), vs = [.ref X.W] ∧ Nt K M H X sts ms ∧ Alloc M H ∧ ∀ l H', Same H H' → H l = none → rp K (Fr M H') (.ref l) (topS sts).t.a → Q (.ref l) H'
theorem ok_Net_lines (Z : Zs cks fns K mg) : FnOk PP w K mg base (L2.CX PP w) 5 (ma K (ga K "Net") "lines") (fdAt K (ma K (ga K "Net") "lines")) ["self"] (sp_Net_lines K) := by
  refine L2.Fun.okX (u_Net_lines Z) sc_Net_lines (fun vs H Q E h => ?_) (fun cdv A outer s H vs Q E hr h => ?_)
  · obtain ⟨_, _, _, _, rfl, _⟩ := h
    rfl
  · obtain ⟨M, X, sts, ms, rfl, ⟨hn, hA, hq⟩⟩ := h
    refine ⟨_, (pss_one (ps_ret (pe_callTy call_list_of rfl (n_list Z) (by decide +kernel) (pa_cons (pe_fld (pe_meth0 (pv 0) (c_Net Z) (hm_Net_present Z) (ok_Net_present Z) (hr.mono (by decide)) (b_Net_present Z) .nil passL) rfl) pa_nil)))), ?_⟩
    refine ⟨_, rfl, X.W, X.dx, _, rfl, hn.o, nt_no, ⟨M, X, sts, ms, rfl, hn, hA, fun u H1 s1 r => ?_⟩⟩
    obtain ⟨p, dxs, va, vb, vc, rfl, e, ra, rb, rc⟩ := r
    obtain ⟨q, vs, e9, eq, pd⟩ := ra
    subst e9
    refine ⟨p, _, dxs, _, _, rfl, (Fr.sub _ _ e), c_State Z, na_State_all_lines Z, so_l, q, vs, rfl, .inl (SqL.of (Fr.sub _ _ eq)), fun l hl => ?_⟩
    have s2 := Same.new (o := .lst vs) hl
    exact hq l _ (s1.trans s2) (Same.fin s1 hl) ⟨l, vs, rfl, Fr.get ((hA.same s1).new hl) upd_same, Paired.mapP pd fun _ _ r => Rep.up (Fr.same s2) r⟩
theorem cl_Net_lines {K : Frag} {H : Hp} {Q : VK} {E : XK} {M : Addr → Prop} {X : NA} {sts : List SO} {ms : List Int} (hn : Nt K M H X sts ms) (hA : Alloc M H) (k : ∀ l H', Same H H' → H l = none → rp K (Fr M H') (.ref l) (topS sts).t.a → Q (.ref l) H') : sq (sp_Net_lines K) [.ref X.W] H Q E := sqI ⟨M, X, sts, ms, rfl, hn, hA, k⟩
theorem oh_Net_lines (Z : Zs cks fns K mg) : FnE PP w K mg base (L2.CX PP w) 5 (ma K (ga K "Net") "lines") (fdAt K (ma K (ga K "Net") "lines")) ["self"] (fun _ _ _ => sp_Net_lines K) := by
  refine Fw.Fun.okE (u_Net_lines Z) sc_Net_lines (fun ea cls d vs H Q E h => ?_) (fun cdv A outer s H vs Q E p cls d err hr h => ?_)
  · obtain ⟨_, _, _, _, rfl, _⟩ := h
    rfl
  · obtain ⟨M, X, sts, ms, rfl, ⟨hn, hA, hq⟩⟩ := h
    have hs := Has.pin (CX := L2.CX PP w) (P := PP) (w := w) (K := K) (mg := mg) (base := base) (N := ["self"]) (qual := "Net.lines") (scope := defScope s_Net_lines) (f := (ma K (ga K "Net") "lines")) (cd := cdv) (A := A) (outer := outer) (s := s) (H := H) (E := E) err
    refine ⟨_, (pss_one (ps_ret (pe_callTy call_list_of rfl (n_list Z) (by decide +kernel) (pa_cons (pe_fld (pe_meth0E (pv 0) (c_Net Z) (hm_Net_present Z) (oh_Net_present Z) (hr.mono (by decide)) hs (b_Net_present Z) passL) rfl) pa_nil)))), ?_⟩
    refine ⟨_, rfl, X.W, X.dx, _, rfl, hn.o, nt_no, ⟨M, X, sts, ms, rfl, hn, hA, fun u H1 s1 r => ?_⟩⟩
    obtain ⟨p, dxs, va, vb, vc, rfl, e, ra, rb, rc⟩ := r
    obtain ⟨q, vs, e9, eq, pd⟩ := ra
    subst e9
    refine ⟨p, _, dxs, _, _, rfl, (Fr.sub _ _ e), c_State Z, na_State_all_lines Z, so_l, q, vs, rfl, .inl (SqL.of (Fr.sub _ _ eq)), fun l hl => ?_⟩
    have s2 := Same.new (o := .lst vs) hl
    exact hq l _ (s1.trans s2) (Same.fin s1 hl) ⟨l, vs, rfl, Fr.get ((hA.same s1).new hl) upd_same, Paired.mapP pd fun _ _ r => Rep.up (Fr.same s2) r⟩
def sp_Net_wishes (K : Frag) : Sp := fun vs H Q E => ∃ (M : Addr → Prop) (X : NA) (sts : List SO) (ms : List Int), vs = [.ref X.W] ∧ Nt K M H X sts ms ∧ Alloc M H ∧ ∀ l H', Same H H' → H l = none → rp K (Fr M H') (.ref l) (topS sts).t.b → Q (.ref l) H'
theorem ok_Net_wishes (Z : Zs cks fns K mg) : FnOk PP w K mg base (L2.CX PP w) 5 (ma K (ga K "Net") "wishes") (fdAt K (ma K (ga K "Net") "wishes")) ["self"] (sp_Net_wishes K) := by
  refine L2.Fun.okX (u_Net_wishes Z) sc_Net_wishes (fun vs H Q E h => ?_) (fun cdv A outer s H vs Q E hr h => ?_)
  · obtain ⟨_, _, _, _, rfl, _⟩ := h
    rfl
  · obtain ⟨M, X, sts, ms, rfl, ⟨hn, hA, hq⟩⟩ := h
    refine ⟨_, (pss_one (ps_ret (pe_callTy call_list_of rfl (n_list Z) (by decide +kernel) (pa_cons (pe_fld (pe_meth0 (pv 0) (c_Net Z) (hm_Net_present Z) (ok_Net_present Z) (hr.mono (by decide)) (b_Net_present Z) .nil passL) rfl) pa_nil)))), ?_⟩
    refine ⟨_, rfl, X.W, X.dx, _, rfl, hn.o, nt_no, ⟨M, X, sts, ms, rfl, hn, hA, fun u H1 s1 r => ?_⟩⟩
    obtain ⟨p, dxs, va, vb, vc, rfl, e, ra, rb, rc⟩ := r
    obtain ⟨q, vs, e9, eq, pd⟩ := rb
    subst e9
    refine ⟨p, _, dxs, _, _, rfl, (Fr.sub _ _ e), c_State Z, na_State_all_wishes Z, so_w, q, vs, rfl, .inl (SqL.of (Fr.sub _ _ eq)), fun l hl => ?_⟩
    have s2 := Same.new (o := .lst vs) hl
    exact hq l _ (s1.trans s2) (Same.fin s1 hl) ⟨l, vs, rfl, Fr.get ((hA.same s1).new hl) upd_same, Paired.mapP pd fun _ _ r => Rep.up (Fr.same s2) r⟩
theorem cl_Net_wishes {K : Frag} {H : Hp} {Q : VK} {E : XK} {M : Addr → Prop} {X : NA} {sts : List SO} {ms : List Int} (hn : Nt K M H X sts ms) (hA : Alloc M H) (k : ∀ l H', Same H H' → H l = none → rp K (Fr M H') (.ref l) (topS sts).t.b → Q (.ref l) H') : sq (sp_Net_wishes K) [.ref X.W] H Q E := sqI ⟨M, X, sts, ms, rfl, hn, hA, k⟩
theorem oh_Net_wishes (Z : Zs cks fns K mg) : FnE PP w K mg base (L2.CX PP w) 5 (ma K (ga K "Net") "wishes") (fdAt K (ma K (ga K "Net") "wishes")) ["self"] (fun _ _ _ => sp_Net_wishes K) := by
  refine Fw.Fun.okE (u_Net_wishes Z) sc_Net_wishes (fun ea cls d vs H Q E h => ?_) (fun cdv A outer s H vs Q E p cls d err hr h => ?_)
  · obtain ⟨_, _, _, _, rfl, _⟩ := h
    rfl
  · obtain ⟨M, X, sts, ms, rfl, ⟨hn, hA, hq⟩⟩ := h
    have hs := Has.pin (CX := L2.CX PP w) (P := PP) (w := w) (K := K) (mg := mg) (base := base) (N := ["self"]) (qual := "Net.wishes") (scope := defScope s_Net_wishes) (f := (ma K (ga K "Net") "wishes")) (cd := cdv) (A := A) (outer := outer) (s := s) (H := H) (E := E) err
    refine ⟨_, (pss_one (ps_ret (pe_callTy call_list_of rfl (n_list Z) (by decide +kernel) (pa_cons (pe_fld (pe_meth0E (pv 0) (c_Net Z) (hm_Net_present Z) (oh_Net_present Z) (hr.mono (by decide)) hs (b_Net_present Z) passL) rfl) pa_nil)))), ?_⟩
    refine ⟨_, rfl, X.W, X.dx, _, rfl, hn.o, nt_no, ⟨M, X, sts, ms, rfl, hn, hA, fun u H1 s1 r => ?_⟩⟩
    obtain ⟨p, dxs, va, vb, vc, rfl, e, ra, rb, rc⟩ := r
    obtain ⟨q, vs, e9, eq, pd⟩ := rb
    subst e9
    refine ⟨p, _, dxs, _, _, rfl, (Fr.sub _ _ e), c_State Z, na_State_all_wishes Z, so_w, q, vs, rfl, .inl (SqL.of (Fr.sub _ _ eq)), fun l hl => ?_⟩
    have s2 := Same.new (o := .lst vs) hl
    exact hq l _ (s1.trans s2) (Same.fin s1 hl) ⟨l, vs, rfl, Fr.get ((hA.same s1).new hl) upd_same, Paired.mapP pd fun _ _ r => Rep.up (Fr.same s2) r⟩
def sp_Net_fixed (K : Frag) : Sp := fun vs H Q E => ∃ (M : Addr → Prop) (X : NA) (sts : List SO) (ms : List Int), vs = [.ref X.W] ∧ Nt K M H X sts ms ∧ Alloc M H ∧ ∀ l H', Same H H' → H l = none → rp K (Fr M H') (.ref l) (topS sts).t.c → Q (.ref l) H'
theorem ok_Net_fixed (Z : Zs cks fns K mg) : FnOk PP w K mg base (L2.CX PP w) 5 (ma K (ga K "Net") "fixed") (fdAt K (ma K (ga K "Net") "fixed")) ["self"] (sp_Net_fixed K) := by
  refine L2.Fun.okX (u_Net_fixed Z) sc_Net_fixed (fun vs H Q E h => ?_) (fun cdv A outer s H vs Q E hr h => ?_)
  · obtain ⟨_, _, _, _, rfl, _⟩ := h
    rfl
  · obtain ⟨M, X, sts, ms, rfl, ⟨hn, hA, hq⟩⟩ := h
    refine ⟨_, (pss_one (ps_ret (pe_callTy call_list_of rfl (n_list Z) (by decide +kernel) (pa_cons (pe_fld (pe_meth0 (pv 0) (c_Net Z) (hm_Net_present Z) (ok_Net_present Z) (hr.mono (by decide)) (b_Net_present Z) .nil passL) rfl) pa_nil)))), ?_⟩
    refine ⟨_, rfl, X.W, X.dx, _, rfl, hn.o, nt_no, ⟨M, X, sts, ms, rfl, hn, hA, fun u H1 s1 r => ?_⟩⟩
    obtain ⟨p, dxs, va, vb, vc, rfl, e, ra, rb, rc⟩ := r
    obtain ⟨q, vs, e9, eq, pd⟩ := rc
    subst e9
    refine ⟨p, _, dxs, _, _, rfl, (Fr.sub _ _ e), c_State Z, na_State_all_fixed Z, so_f, q, vs, rfl, .inl (SqL.of (Fr.sub _ _ eq)), fun l hl => ?_⟩
    have s2 := Same.new (o := .lst vs) hl
    exact hq l _ (s1.trans s2) (Same.fin s1 hl) ⟨l, vs, rfl, Fr.get ((hA.same s1).new hl) upd_same, Paired.mapP pd fun _ _ r => Rep.up (Fr.same s2) r⟩
theorem cl_Net_fixed {K : Frag} {H : Hp} {Q : VK} {E : XK} {M : Addr → Prop} {X : NA} {sts : List SO} {ms : List Int} (hn : Nt K M H X sts ms) (hA : Alloc M H) (k : ∀ l H', Same H H' → H l = none → rp K (Fr M H') (.ref l) (topS sts).t.c → Q (.ref l) H') : sq (sp_Net_fixed K) [.ref X.W] H Q E := sqI ⟨M, X, sts, ms, rfl, hn, hA, k⟩
theorem oh_Net_fixed (Z : Zs cks fns K mg) : FnE PP w K mg base (L2.CX PP w) 5 (ma K (ga K "Net") "fixed") (fdAt K (ma K (ga K "Net") "fixed")) ["self"] (fun _ _ _ => sp_Net_fixed K) := by
  refine Fw.Fun.okE (u_Net_fixed Z) sc_Net_fixed (fun ea cls d vs H Q E h => ?_) (fun cdv A outer s H vs Q E p cls d err hr h => ?_)
  · obtain ⟨_, _, _, _, rfl, _⟩ := h
    rfl
  · obtain ⟨M, X, sts, ms, rfl, ⟨hn, hA, hq⟩⟩ := h
    have hs := Has.pin (CX := L2.CX PP w) (P := PP) (w := w) (K := K) (mg := mg) (base := base) (N := ["self"]) (qual := "Net.fixed") (scope := defScope s_Net_fixed) (f := (ma K (ga K "Net") "fixed")) (cd := cdv) (A := A) (outer := outer) (s := s) (H := H) (E := E) err
    refine ⟨_, (pss_one (ps_ret (pe_callTy call_list_of rfl (n_list Z) (by decide +kernel) (pa_cons (pe_fld (pe_meth0E (pv 0) (c_Net Z) (hm_Net_present Z) (oh_Net_present Z) (hr.mono (by decide)) hs (b_Net_present Z) passL) rfl) pa_nil)))), ?_⟩
    refine ⟨_, rfl, X.W, X.dx, _, rfl, hn.o, nt_no, ⟨M, X, sts, ms, rfl, hn, hA, fun u H1 s1 r => ?_⟩⟩
    obtain ⟨p, dxs, va, vb, vc, rfl, e, ra, rb, rc⟩ := r
    obtain ⟨q, vs, e9, eq, pd⟩ := rc
    subst e9
    refine ⟨p, _, dxs, _, _, rfl, (Fr.sub _ _ e), c_State Z, na_State_all_fixed Z, so_f, q, vs, rfl, .inl (SqL.of (Fr.sub _ _ eq)), fun l hl => ?_⟩
    have s2 := Same.new (o := .lst vs) hl
    exact hq l _ (s1.trans s2) (Same.fin s1 hl) ⟨l, vs, rfl, Fr.get ((hA.same s1).new hl) upd_same, Paired.mapP pd fun _ _ r => Rep.up (Fr.same s2) r⟩
def sp_Net_len (K : Frag) : Sp := fun vs H Q E => ∃ (M : Addr → Prop) (X : NA) (sts : List SO) (ms : List Int), vs = [.ref X.W] ∧ Nt K M H X sts ms ∧ Q (.int (sts.length : Nat)) H
theorem ok_Net_len (Z : Zs cks fns K mg) : FnOk PP w K mg base (L2.CX PP w) 1 (ma K (ga K "Net") "__len__") (fdAt K (ma K (ga K "Net") "__len__")) ["self"] (sp_Net_len K) := by
  refine L2.Fun.okX (u_Net_len Z) sc_Net_len (fun vs H Q E h => ?_) (fun cdv A outer s H vs Q E hr h => ?_)
  · obtain ⟨_, _, _, _, rfl, _⟩ := h
    rfl
  · obtain ⟨M, X, sts, ms, rfl, ⟨hn, hq⟩⟩ := h
    refine ⟨_, (pss_one (ps_ret (pe_callB call_len_seq rfl (n_len Z) (by decide +kernel) (pa_cons (pe_fld (pv 0) rfl) pa_nil)))), ?_⟩
    obtain ⟨vs, eS, pd⟩ := hn.s
    refine ⟨_, rfl, X.W, _, X.dx, _, _, rfl, hn.o, c_Net Z, na_Net_states Z, nt_s, X.S, vs, rfl, .inl (SqL.of eS), ?_⟩
    rw [Paired.length pd]
    exact hq

theorem oh_Net_len (Z : Zs cks fns K mg) : FnE PP w K mg base (L2.CX PP w) 1 (ma K (ga K "Net") "__len__") (fdAt K (ma K (ga K "Net") "__len__")) ["self"] (fun _ _ _ => sp_Net_len K) := by
  refine Fw.Fun.okE (u_Net_len Z) sc_Net_len (fun ea cls d vs H Q E h => ?_) (fun cdv A outer s H vs Q E p cls d err hr h => ?_)
  · obtain ⟨_, _, _, _, rfl, _⟩ := h
    rfl
  · obtain ⟨M, X, sts, ms, rfl, ⟨hn, hq⟩⟩ := h
    have hs := Has.pin (CX := L2.CX PP w) (P := PP) (w := w) (K := K) (mg := mg) (base := base) (N := ["self"]) (qual := "Net.__len__") (scope := defScope s_Net_len) (f := (ma K (ga K "Net") "__len__")) (cd := cdv) (A := A) (outer := outer) (s := s) (H := H) (E := E) err
    refine ⟨_, (pss_one (ps_ret (pe_callB call_len_seq rfl (n_len Z) (by decide +kernel) (pa_cons (pe_fld (pv 0) rfl) pa_nil)))), ?_⟩
    obtain ⟨vs, eS, pd⟩ := hn.s
    refine ⟨_, rfl, X.W, _, X.dx, _, _, rfl, hn.o, c_Net Z, na_Net_states Z, nt_s, X.S, vs, rfl, .inl (SqL.of eS), ?_⟩
    rw [Paired.length pd]
    exact hq
end
section
variable {w : World} {K : Frag} {mg : Str → Option Value} {base : Heap}
def sp_Net_add (K : Frag) : Sp := fun vs H Q E => ∃ (M : Addr → Prop) (X : NA) (sts : List SO) (ms : List Int) (e : Int) (r : Int), vs = [.ref X.W, .int e, .int r] ∧ Ns K M H X sts ms ∧ (((sts.length ≤ 100000) ∧ (1 ≤ e) ∧ (0 ≤ r) ∧ ((topS sts).t.a.length < 40) ∧ (∀ y ∈ (topS sts).t.a, 1 ≤ y.1 ∧ (y.1 ∣ e ∨ e ∣ y.1)) ∧ ∀ H', Ext (nM X) H H' → Nt K M H' X (sts ++ [(⟨⟨(topS sts).t.a ++ [(e, r)], (topS sts).t.b, (topS sts).t.c⟩⟩ : SO)]) ms → Alloc M H' → Q (.int ((topS sts).t.a.length : Nat)) H') ∨ (¬ (1 ≤ e ∧ 0 ≤ r) ∧ ∀ H', Same H H' → E (.ref (ga K "InvalidLine")) none H') ∨ (1 ≤ e ∧ 0 ≤ r ∧ (topS sts).t.a.length = 40 ∧ ∀ H', Same H H' → E (.ref (ga K "InvalidWishes")) none H'))
theorem ok_Net_add (Z : Zs cks fns K mg) : FnOk PP w K mg base (L2.CX PP w) 6 (ma K (ga K "Net") "add") (fdAt K (ma K (ga K "Net") "add")) ["self", "every", "ride"] (sp_Net_add K) := by
  refine L2.Fun.okX (u_Net_add Z) sc_Net_add (fun vs H Q E h => ?_) (fun cdv A outer s H vs Q E hr h => ?_)
  · obtain ⟨_, _, _, _, _, _, rfl, _⟩ := h
    rfl
  · obtain ⟨M, X, sts, ms, e, r, rfl, ⟨hT, hq⟩⟩ := h
    refine ⟨_, (pss_cons (ps_if (PW.pt (pw_or (pt_not (pt_val (pe_call (okq (ok_is_number_from Z)) (hr.mono (by decide)) rfl (g_is_number_from Z) (u_is_number_from Z).kp (b_is_number_from Z) .nil passL (pa_cons (pv 1) (pa_cons pe_int pa_nil))))) (pw_or1 (pt_not (pt_val (pe_call (okq (ok_is_number_from Z)) (hr.mono (by decide)) rfl (g_is_number_from Z) (u_is_number_from Z).kp (b_is_number_from Z) .nil passL (pa_cons (pv 2) (pa_cons pe_int pa_nil))))))))
        (pss_one (ps_raise rfl (takes_of rfl rfl rfl rfl) (pmk_own PySem.F.excBase_ValueError (er_InvalidLine Z).x (g_InvalidLine Z) (er_InvalidLine Z).k (raises_own (er_InvalidLine Z).b (er_InvalidLine Z).t) rfl)))
        pss_nil)
      (pss_cons (ps_set (i := 3) sc_Net_add.nd rfl (Or.inl rfl) (pe_meth0 (pv 0) (c_Net Z) (hm_Net_present Z) (okq (ok_Net_present Z)) (hr.mono (by decide)) (b_Net_present Z) .nil passL))
      (pss_cons (ps_if (pt_cmpR op_eq (pe_callB (crq call_len_seq) rfl (n_len Z) (by decide +kernel) (pa_cons (pe_fld (pv 3) rfl) pa_nil)) (C8.pe_gc rfl (i_MOST_LINES Z)) (nomark _))
        (pss_one (ps_raise rfl (takes_of rfl rfl rfl rfl) (pmk_own PySem.F.excBase_ValueError (er_InvalidWishes Z).x (g_InvalidWishes Z) (er_InvalidWishes Z).k (raises_own (er_InvalidWishes Z).b (er_InvalidWishes Z).t) rfl)))
        pss_nil)
      (pss_cons (ps_if (pt_not (pt_val (pe_callB (crq (cr_all rfl)) rfl (n_all Z) (by decide +kernel) (pa_cons (pe_lc (own := [("headway", 4), ("other_ride", 5)]) rfl sc_Net_add.nd (pi_list (pe_fld (pv 3) rfl)) (blkOk_by (own := [("headway", 4), ("other_ride", 5)]) (N := ["self", "every", "ride", "now", "headway", "other_ride"]) (sc := defScope s_Net_add) (by decide +kernel)) (fun _ _ _ _ _ => (show PG _ _ (gTup K 2 _) from pg_tup rfl (pgs_cons (pg_name (i := 4) sc_Net_add.nd rfl (Or.inl rfl)) (pgs_cons (pg_name (i := 5) sc_Net_add.nd rfl (Or.inl rfl)) pgs_nil)))) (fun _ _ _ _ _ => pts_nil) (fun _ _ _ _ _ => (pe_or (pe_cmpR op_eq (pe_op op_mod (pv 1) (pv 4)) pe_int (nomark _)) (pe_one (pe_cmpR op_eq (pe_op op_mod (pv 4) (pv 1)) pe_int (nomark _)))))) pa_nil))))
        (pss_one (ps_raise rfl (takes_of rfl rfl rfl rfl) (pmk_own PySem.F.excBase_ValueError (er_InvalidWishes Z).x (g_InvalidWishes Z) (er_InvalidWishes Z).k (raises_own (er_InvalidWishes Z).b (er_InvalidWishes Z).t) rfl)))
        pss_nil)
      (pss_cons (ps_expr (pe_bm PySem.F.plainAttrs_list PySem.F.slot_list_append PySem.F.type_list_append (mtq mt_append) (pe_fld (pv 0) rfl) (pa_cons (pe_makeQ (pe_make (M_State Z) (ok_State_init Z) (hr.mono (by decide)) rfl (g_State Z) (b_State_init Z) .nil passL (pa_cons (pe_lstQ (pe_lst (StX.pa_star (pe_fld (pv 3) rfl) (pa_cons (pe_tupQ (pe_tup (pa_cons (pv 1) (pa_cons (pv 2) pa_nil)))) pa_nil)))) (pa_cons (pe_fld (pv 3) rfl) (pa_cons (pe_fld (pv 3) rfl) pa_nil))))) pa_nil)))
      (pss_one (ps_ret (pe_callB (crq call_len_seq) rfl (n_len Z) (by decide +kernel) (pa_cons (pe_fld (pv 3) rfl) pa_nil))))))))), ?_⟩
    rcases hq with ⟨hsz, h1, h2, h40, hd, hq⟩ | ⟨hb, hE⟩ | ⟨h1, h2, h40, hE⟩
    · refine ⟨_, rfl, cl_is_number_from ?_⟩
      refine ⟨_, rfl, iteNS (show (e ≥ 1) from h1) ?_⟩
      refine ⟨_, rfl, cl_is_number_from ?_⟩
      refine ⟨_, rfl, iteNS (show (r ≥ 0) from h2) ?_⟩
      refine ⟨_, rfl, X.W, X.dx, _, rfl, hT.n.o, nt_no, cl_Net_present hT.n hT.al fun u1 H2 s3 r4 => ?_⟩
      have t5 := hT.same s3
      have al6 := hT.al.same s3
      obtain ⟨p7, dx8, a9, b10, c11, e12, h13, ra14, rb15, rc16⟩ := id r4
      refine ⟨_, rfl, p7, _, dx8, _, _, e12, (Fr.sub _ _ h13), c_State Z, na_State_all_lines Z, so_l, rd_len ra14 Fr.sub ?_⟩
      refine ⟨rfl, _, rfl, ifF (fun z => (show ¬ (((topS sts).t.a.length : Nat) : Int) = 40 from (fun z => by omega)) (V.int.inj z)) ?_⟩
      obtain ⟨p17, dx18, a19, b20, c21, e22, h23, ra24, rb25, rc26⟩ := id r4
      obtain ⟨a27, e28, q29, T30⟩ := tw_list ra24
      refine ⟨_, rfl, p17, _, dx18, _, _, e22, (Fr.sub _ _ h23), c_State Z, na_State_all_lines Z, so_l, a27, e28, q29, lc_mapF (fun (y32 : Int × Int) => (true : Bool)) T30 al6 (by omega) (fun i31 y32 u33 H34 M35 C36 D37 hx38 up39 al40 s41 r42 hC43 => ?_) (fun D51 H52 s53 r54 => ?_)⟩
      · obtain ⟨y1, y2⟩ := hd y32 (List.mem_of_getElem? hx38)
        refine rd_unP r42 Fr.sub fun u47 u48 r49 r50 => ?_
        obtain rfl : u47 = V.int y32.1 := r49
        obtain rfl : u48 = V.int y32.2 := r50
        refine ⟨rfl, _, rfl, _, rfl, _, _, rfl, rfl, (show 0 < y32.1 from by omega), rfl, _, rfl, ifD (fun c => ?_) (fun c => ?_)⟩
        · refine hC43 _ _ (Same.refl _) (show rp K _ _ (true : Bool) from rfl)
        · refine ⟨_, rfl, _, rfl, _, _, rfl, rfl, (show 0 < e from by omega), rfl, ?_⟩
          rw [decide_eq_true (show V.int (y32.1 % e) = V.int 0 from (congrArg V.int (Int.emod_eq_zero_of_dvd (y2.resolve_left fun z => c (congrArg V.int (Int.emod_eq_zero_of_dvd z))))))]
          refine hC43 _ _ (Same.refl _) (show rp K _ _ (true : Bool) from rfl)
      have t56 := t5.same s53
      have al57 := al6.same s53
      refine rd_all r54 Fr.sub ?_
      rw [show ((topS sts).t.a.map (fun (y32 : Int × Int) => (true : Bool))).all id = true from by simp]
      refine ⟨_, rfl, iteF ?_⟩
      obtain ⟨vs58, e59, pd60⟩ := t56.n.s
      obtain ⟨p62, dx63, a64, b65, c66, e67, h68, ra69, rb70, rc71⟩ := id (Rep.up (Fr.same s53) r4)
      obtain ⟨q72, vs73, eq74, e75, pd76⟩ := id ra69
      have lpd76 := Paired.length pd76
      refine ⟨_, rfl, X.W, _, X.dx, _, _, rfl, t56.n.o, c_Net Z, na_Net_states Z, nt_s, .inl ⟨rfl, _, SqL.of e59⟩, _, rfl, p62, _, dx63, _, _, e67, (Fr.sub _ _ h68), c_State Z, na_State_all_lines Z, so_l, q72, _, eq74, .inr (SqL.of (Fr.sub _ _ e75)), _, rfl, _, rfl, rd_pair al57 (show rp K _ _ (e : Int) from rfl) (show rp K _ _ (r : Int) from rfl) fun u77 H78 s79 r80 => ?_⟩
      have t81 := t56.same s79
      have al82 := al57.same s79
      refine rd_lst (K := K) (xs := (topS sts).t.a ++ ([(e, r)] : List (Int × Int))) al82 (by simp only [List.length_append, List.length_cons, List.length_nil]; omega) (pd_app (Paired.mapP pd76 fun _ _ r => Rep.up (Fr.same s79) r) (.cons r80 .nil)) fun u83 H84 s85 r86 => ?_
      have t87 := t81.same s85
      have al88 := al82.same s85
      obtain ⟨p89, dx90, a91, b92, c93, e94, h95, ra96, rb97, rc98⟩ := id (Rep.up ((Fr.same s53).trans ((Fr.same s79).trans (Fr.same s85))) r4)
      obtain ⟨p99, dx100, a101, b102, c103, e104, h105, ra106, rb107, rc108⟩ := id (Rep.up ((Fr.same s53).trans ((Fr.same s79).trans (Fr.same s85))) r4)
      refine ⟨_, rfl, p89, _, dx90, _, _, e94, (Fr.sub _ _ h95), c_State Z, na_State_all_wishes Z, so_w, _, rfl, p99, _, dx100, _, _, e104, (Fr.sub _ _ h105), c_State Z, na_State_all_fixed Z, so_f, mk_State al88 r86 rb97 rc108 fun u109 H110 s111 r112 => ?_⟩
      have t113 := t87.same s111
      have al114 := al88.same s111
      obtain ⟨vs115, e116, pd117⟩ := t113.n.s
      show sqm rAppend (.ref X.S) [u109] H110 _
      rw [sqm_eq]
      refine ⟨X.S, vs115, _, rfl, rfl, e116, Nat.lt_of_le_of_lt (show vs115.length ≤ 100000 by rw [Paired.length pd117]; exact hsz) (by decide), ?_⟩
      obtain ⟨n119, x120, sm124⟩ := Nt.push t113.n e116 r112
      have al121 := Alloc.wrM (D := X.S) (o := .lst (vs115 ++ [u109])) t113.al trivial
      obtain ⟨H118, eH122⟩ : ∃ hh, hh = upd H110 X.S (.lst (vs115 ++ [u109])) := ⟨_, rfl⟩
      rw [← eH122] at n119 x120 al121 sm124
      rw [← eH122]
      have t123 : Ns K M H118 X _ ms := ⟨n119, al121⟩
      have x125 : Ext (nM X) H110 H118 := Ext.sub (fun b z => .inr (.inl z)) x120
      obtain ⟨p126, dx127, a128, b129, c130, e131, h132, ra133, rb134, rc135⟩ := id (Rep.up ((Fr.same s53).trans ((Fr.same s79).trans ((Fr.same s85).trans ((Fr.same s111).trans sm124)))) r4)
      refine ⟨_, rfl, p126, _, dx127, _, _, e131, (Fr.sub _ _ h132), c_State Z, na_State_all_lines Z, so_l, rd_len ra133 Fr.sub ?_⟩
      exact hq _ ((Ext.same s3).trans ((Ext.same s53).trans ((Ext.same s79).trans ((Ext.same s85).trans ((Ext.same s111).trans x125))))) t123.n t123.al
    · refine ⟨_, rfl, cl_is_number_from ?_⟩
      by_cases c1 : e ≥ 1
      · refine ⟨_, rfl, iteNS c1 ⟨_, rfl, cl_is_number_from ⟨_, rfl, ifNT (fun z => hb ⟨c1, z⟩) ?_⟩⟩⟩
        exact hE _ (Same.refl _)
      · refine ⟨_, rfl, ifNT c1 ?_⟩
        exact hE _ (Same.refl _)
    · refine ⟨_, rfl, cl_is_number_from ?_⟩
      refine ⟨_, rfl, iteNS (show (e ≥ 1) from h1) ?_⟩
      refine ⟨_, rfl, cl_is_number_from ?_⟩
      refine ⟨_, rfl, iteNS (show (r ≥ 0) from h2) ?_⟩
      refine ⟨_, rfl, X.W, X.dx, _, rfl, hT.n.o, nt_no, cl_Net_present hT.n hT.al fun u1 H2 s3 r4 => ?_⟩
      obtain ⟨p7, dx8, a9, b10, c11, e12, h13, ra14, rb15, rc16⟩ := id r4
      refine ⟨_, rfl, p7, _, dx8, _, _, e12, (Fr.sub _ _ h13), c_State Z, na_State_all_lines Z, so_l, rd_len ra14 Fr.sub ?_⟩
      refine ⟨rfl, _, rfl, ifT (congrArg V.int (show (((topS sts).t.a.length : Nat) : Int) = 40 by omega)) ?_⟩
      exact hE _ s3
theorem cl_Net_add {K : Frag} {H : Hp} {Q : VK} {E : XK} {M : Addr → Prop} {X : NA} {sts : List SO} {ms : List Int} {e : Int} {r : Int} (hn : Nt K M H X sts ms) (hA : Alloc M H) (hsz : sts.length ≤ 100000) (h1 : 1 ≤ e) (h2 : 0 ≤ r) (h40 : (topS sts).t.a.length < 40) (hd : ∀ y ∈ (topS sts).t.a, 1 ≤ y.1 ∧ (y.1 ∣ e ∨ e ∣ y.1)) (k : ∀ H', Ext (nM X) H H' → Nt K M H' X (sts ++ [(⟨⟨(topS sts).t.a ++ [(e, r)], (topS sts).t.b, (topS sts).t.c⟩⟩ : SO)]) ms → Alloc M H' → Q (.int ((topS sts).t.a.length : Nat)) H') : sq (sp_Net_add K) [.ref X.W, .int e, .int r] H Q E := sqI ⟨M, X, sts, ms, e, r, rfl, ⟨hn, hA⟩, .inl ⟨hsz, h1, h2, h40, hd, k⟩⟩
theorem clx_Net_add_line {K : Frag} {H : Hp} {Q : VK} {E : XK} {M : Addr → Prop} {X : NA} {sts : List SO} {ms : List Int} {e : Int} {r : Int} (hn : Nt K M H X sts ms) (hA : Alloc M H) (hb : ¬ (1 ≤ e ∧ 0 ≤ r)) (k : ∀ H', Same H H' → E (.ref (ga K "InvalidLine")) none H') : sq (sp_Net_add K) [.ref X.W, .int e, .int r] H Q E := sqI ⟨M, X, sts, ms, e, r, rfl, ⟨hn, hA⟩, .inr (.inl ⟨hb, k⟩)⟩
theorem clx_Net_add_full {K : Frag} {H : Hp} {Q : VK} {E : XK} {M : Addr → Prop} {X : NA} {sts : List SO} {ms : List Int} {e : Int} {r : Int} (hn : Nt K M H X sts ms) (hA : Alloc M H) (h1 : 1 ≤ e) (h2 : 0 ≤ r) (h40 : (topS sts).t.a.length = 40) (k : ∀ H', Same H H' → E (.ref (ga K "InvalidWishes")) none H') : sq (sp_Net_add K) [.ref X.W, .int e, .int r] H Q E := sqI ⟨M, X, sts, ms, e, r, rfl, ⟨hn, hA⟩, .inr (.inr ⟨h1, h2, h40, k⟩)⟩

def sp_Net_wish (K : Frag) : Sp := fun vs H Q E => ∃ (M : Addr → Prop) (X : NA) (sts : List SO) (ms : List Int) (i : Int) (j : Int) (w : Int), vs = [.ref X.W, .int i, .int j, .int w] ∧ Ns K M H X sts ms ∧ (((sts.length ≤ 100000) ∧ (0 ≤ i) ∧ (i < ((topS sts).t.a.length : Nat)) ∧ (0 ≤ j) ∧ (j < ((topS sts).t.a.length : Nat)) ∧ (0 ≤ w) ∧ ((topS sts).t.b.length < 80) ∧ ∀ H', Ext (nM X) H H' → Nt K M H' X (sts ++ [(⟨⟨(topS sts).t.a, (topS sts).t.b ++ [(⟨i, j, w⟩ : N3)], (topS sts).t.c⟩⟩ : SO)]) ms → Alloc M H' → Q (.non) H') ∨ (0 ≤ i ∧ i < ((topS sts).t.a.length : Nat) ∧ ¬ (0 ≤ j ∧ j < (((topS sts).t.a.length : Nat) : Int)) ∧ ∀ H', Same H H' → E (.ref (ga K "InvalidIndex")) none H') ∨ (0 ≤ i ∧ i < ((topS sts).t.a.length : Nat) ∧ 0 ≤ j ∧ j < ((topS sts).t.a.length : Nat) ∧ 0 ≤ w ∧ (topS sts).t.b.length = 80 ∧ ∀ H', Same H H' → E (.ref (ga K "InvalidWishes")) none H'))
theorem ok_Net_wish (Z : Zs cks fns K mg) : FnOk PP w K mg base (L2.CX PP w) 6 (ma K (ga K "Net") "wish") (fdAt K (ma K (ga K "Net") "wish")) ["self", "i", "j", "walk"] (sp_Net_wish K) := by
  refine L2.Fun.okX (u_Net_wish Z) sc_Net_wish (fun vs H Q E h => ?_) (fun cdv A outer s H vs Q E hr h => ?_)
  · obtain ⟨_, _, _, _, _, _, _, rfl, _⟩ := h
    rfl
  · obtain ⟨M, X, sts, ms, i, j, w, rfl, ⟨hT, hq⟩⟩ := h
    refine ⟨_, (pss_cons (ps_expr (pe_meth (pv 0) (c_Net Z) (hm_Net_need_line Z) (okq (ok_Net_need_line Z)) (hr.mono (by decide)) (b_Net_need_line Z) .nil (passes_call (takes_of rfl rfl rfl rfl) (fun _ _ _ _ h => h)) (pa_cons (pv 1) pa_nil)))
      (pss_cons (ps_expr (pe_meth (pv 0) (c_Net Z) (hm_Net_need_line Z) (okq (ok_Net_need_line Z)) (hr.mono (by decide)) (b_Net_need_line Z) .nil (passes_call (takes_of rfl rfl rfl rfl) (fun _ _ _ _ h => h)) (pa_cons (pv 2) pa_nil)))
      (pss_cons (ps_set (i := 4) sc_Net_wish.nd rfl (Or.inl rfl) (pe_meth0 (pv 0) (c_Net Z) (hm_Net_present Z) (okq (ok_Net_present Z)) (hr.mono (by decide)) (b_Net_present Z) .nil passL))
      (pss_cons (ps_if (PW.pt (pw_or (pt_cmpR op_lt (pv 3) pe_int (nomark _)) (pw_or1 (pt_cmpR op_eq (pe_callB (crq call_len_seq) rfl (n_len Z) (by decide +kernel) (pa_cons (pe_fld (pv 4) rfl) pa_nil)) (C8.pe_gc rfl (i_MOST_WISHES_net Z)) (nomark _)))))
        (pss_one (ps_raise rfl (takes_of rfl rfl rfl rfl) (pmk_own PySem.F.excBase_ValueError (er_InvalidWishes Z).x (g_InvalidWishes Z) (er_InvalidWishes Z).k (raises_own (er_InvalidWishes Z).b (er_InvalidWishes Z).t) rfl)))
        pss_nil)
      (pss_one (ps_expr (pe_bm PySem.F.plainAttrs_list PySem.F.slot_list_append PySem.F.type_list_append (mtq mt_append) (pe_fld (pv 0) rfl) (pa_cons (pe_makeQ (pe_make (M_State Z) (ok_State_init Z) (hr.mono (by decide)) rfl (g_State Z) (b_State_init Z) .nil passL (pa_cons (pe_fld (pv 4) rfl) (pa_cons (pe_lstQ (pe_lst (StX.pa_star (pe_fld (pv 4) rfl) (pa_cons (pe_tupQ (pe_tup (pa_cons (pv 1) (pa_cons (pv 2) (pa_cons (pv 3) pa_nil))))) pa_nil)))) (pa_cons (pe_fld (pv 4) rfl) pa_nil))))) pa_nil)))))))), ?_⟩
    rcases hq with ⟨hsz, i0, i1, j0, j1, w0, h80, hq⟩ | ⟨i0, i1, hj, hE⟩ | ⟨i0, i1, j0, j1, w0, h80, hE⟩
    · refine ⟨_, rfl, X.W, X.dx, _, rfl, hT.n.o, nt_no, _, rfl, cl_Net_need_line hT.n hT.al i0 i1 fun H1 s2 => ?_⟩
      have t3 := hT.same s2
      have al4 := hT.al.same s2
      refine ⟨_, rfl, X.W, X.dx, _, rfl, t3.n.o, nt_no, _, rfl, cl_Net_need_line t3.n t3.al j0 j1 fun H5 s6 => ?_⟩
      have t7 := t3.same s6
      have al8 := al4.same s6
      refine ⟨_, rfl, X.W, X.dx, _, rfl, t7.n.o, nt_no, cl_Net_present t7.n t7.al fun u9 H10 s11 r12 => ?_⟩
      have t13 := t7.same s11
      have al14 := al8.same s11
      refine ⟨_, rfl, _, _, rfl, rfl, _, rfl, ifF (show ¬ (w < 0) from by omega) ?_⟩
      obtain ⟨p15, dx16, a17, b18, c19, e20, h21, ra22, rb23, rc24⟩ := id r12
      refine ⟨_, rfl, p15, _, dx16, _, _, e20, (Fr.sub _ _ h21), c_State Z, na_State_all_wishes Z, so_w, rd_len rb23 Fr.sub ?_⟩
      refine ⟨rfl, _, rfl, ifF (fun z => (show ¬ (((topS sts).t.b.length : Nat) : Int) = 80 from (fun z => by omega)) (V.int.inj z)) ?_⟩
      obtain ⟨vs25, e26, pd27⟩ := t13.n.s
      obtain ⟨p29, dx30, a31, b32, c33, e34, h35, ra36, rb37, rc38⟩ := id r12
      obtain ⟨p39, dx40, a41, b42, c43, e44, h45, ra46, rb47, rc48⟩ := id r12
      obtain ⟨q49, vs50, eq51, e52, pd53⟩ := id rb47
      have lpd53 := Paired.length pd53
      refine ⟨_, rfl, X.W, _, X.dx, _, _, rfl, t13.n.o, c_Net Z, na_Net_states Z, nt_s, .inl ⟨rfl, _, SqL.of e26⟩, _, rfl, p29, _, dx30, _, _, e34, (Fr.sub _ _ h35), c_State Z, na_State_all_lines Z, so_l, _, rfl, p39, _, dx40, _, _, e44, (Fr.sub _ _ h45), c_State Z, na_State_all_wishes Z, so_w, q49, _, eq51, .inr (SqL.of (Fr.sub _ _ e52)), _, rfl, _, rfl, _, rfl, rd_tup3 (K := K) al14 fun u54 H55 s56 r57 => ?_⟩
      have t58 := t13.same s56
      have al59 := al14.same s56
      refine rd_lst (K := K) (xs := (topS sts).t.b ++ ([(⟨i, j, w⟩ : N3)] : List N3)) al59 (by simp only [List.length_append, List.length_cons, List.length_nil]; omega) (pd_app (Paired.mapP pd53 fun _ _ r => Rep.up (Fr.same s56) r) (.cons r57 .nil)) fun u60 H61 s62 r63 => ?_
      have t64 := t58.same s62
      have al65 := al59.same s62
      obtain ⟨p66, dx67, a68, b69, c70, e71, h72, ra73, rb74, rc75⟩ := id (Rep.up ((Fr.same s56).trans (Fr.same s62)) r12)
      refine ⟨_, rfl, p66, _, dx67, _, _, e71, (Fr.sub _ _ h72), c_State Z, na_State_all_fixed Z, so_f, mk_State al65 (Rep.up ((Fr.same s56).trans (Fr.same s62)) ra36) r63 rc75 fun u76 H77 s78 r79 => ?_⟩
      have t80 := t64.same s78
      have al81 := al65.same s78
      obtain ⟨vs82, e83, pd84⟩ := t80.n.s
      show sqm rAppend (.ref X.S) [u76] H77 _
      rw [sqm_eq]
      refine ⟨X.S, vs82, _, rfl, rfl, e83, Nat.lt_of_le_of_lt (show vs82.length ≤ 100000 by rw [Paired.length pd84]; exact hsz) (by decide), ?_⟩
      obtain ⟨n86, x87, sm91⟩ := Nt.push t80.n e83 r79
      have al88 := Alloc.wrM (D := X.S) (o := .lst (vs82 ++ [u76])) t80.al trivial
      obtain ⟨H85, eH89⟩ : ∃ hh, hh = upd H77 X.S (.lst (vs82 ++ [u76])) := ⟨_, rfl⟩
      rw [← eH89] at n86 x87 al88 sm91
      rw [← eH89]
      have t90 : Ns K M H85 X _ ms := ⟨n86, al88⟩
      have x92 : Ext (nM X) H77 H85 := Ext.sub (fun b z => .inr (.inl z)) x87
      exact hq _ ((Ext.same s2).trans ((Ext.same s6).trans ((Ext.same s11).trans ((Ext.same s56).trans ((Ext.same s62).trans ((Ext.same s78).trans x92)))))) t90.n t90.al
    · refine ⟨_, rfl, X.W, X.dx, _, rfl, hT.n.o, nt_no, _, rfl, cl_Net_need_line hT.n hT.al i0 i1 fun H1 s2 => ?_⟩
      have t3 := hT.same s2
      refine ⟨_, rfl, X.W, X.dx, _, rfl, t3.n.o, nt_no, _, rfl, clx_Net_need_line t3.n t3.al hj fun H2 s3 => ?_⟩
      exact hE _ (s2.trans s3)
    · refine ⟨_, rfl, X.W, X.dx, _, rfl, hT.n.o, nt_no, _, rfl, cl_Net_need_line hT.n hT.al i0 i1 fun H1 s2 => ?_⟩
      have t3 := hT.same s2
      refine ⟨_, rfl, X.W, X.dx, _, rfl, t3.n.o, nt_no, _, rfl, cl_Net_need_line t3.n t3.al j0 j1 fun H5 s6 => ?_⟩
      have t7 := t3.same s6
      refine ⟨_, rfl, X.W, X.dx, _, rfl, t7.n.o, nt_no, cl_Net_present t7.n t7.al fun u9 H10 s11 r12 => ?_⟩
      refine ⟨_, rfl, _, _, rfl, rfl, _, rfl, ifF (show ¬ (w < 0) from by omega) ?_⟩
      obtain ⟨p15, dx16, a17, b18, c19, e20, h21, ra22, rb23, rc24⟩ := id r12
      refine ⟨_, rfl, p15, _, dx16, _, _, e20, (Fr.sub _ _ h21), c_State Z, na_State_all_wishes Z, so_w, rd_len rb23 Fr.sub ?_⟩
      refine ⟨rfl, _, rfl, ifT (congrArg V.int (show (((topS sts).t.b.length : Nat) : Int) = 80 by omega)) ?_⟩
      exact hE _ (s2.trans (s6.trans s11))
theorem cl_Net_wish {K : Frag} {H : Hp} {Q : VK} {E : XK} {M : Addr → Prop} {X : NA} {sts : List SO} {ms : List Int} {i : Int} {j : Int} {w : Int} (hn : Nt K M H X sts ms) (hA : Alloc M H) (hsz : sts.length ≤ 100000) (i0 : 0 ≤ i) (i1 : i < ((topS sts).t.a.length : Nat)) (j0 : 0 ≤ j) (j1 : j < ((topS sts).t.a.length : Nat)) (w0 : 0 ≤ w) (h80 : (topS sts).t.b.length < 80) (k : ∀ H', Ext (nM X) H H' → Nt K M H' X (sts ++ [(⟨⟨(topS sts).t.a, (topS sts).t.b ++ [(⟨i, j, w⟩ : N3)], (topS sts).t.c⟩⟩ : SO)]) ms → Alloc M H' → Q (.non) H') : sq (sp_Net_wish K) [.ref X.W, .int i, .int j, .int w] H Q E := sqI ⟨M, X, sts, ms, i, j, w, rfl, ⟨hn, hA⟩, .inl ⟨hsz, i0, i1, j0, j1, w0, h80, k⟩⟩
theorem clx_Net_wish_index {K : Frag} {H : Hp} {Q : VK} {E : XK} {M : Addr → Prop} {X : NA} {sts : List SO} {ms : List Int} {i : Int} {j : Int} {w : Int} (hn : Nt K M H X sts ms) (hA : Alloc M H) (i0 : 0 ≤ i) (i1 : i < ((topS sts).t.a.length : Nat)) (hj : ¬ (0 ≤ j ∧ j < (((topS sts).t.a.length : Nat) : Int))) (k : ∀ H', Same H H' → E (.ref (ga K "InvalidIndex")) none H') : sq (sp_Net_wish K) [.ref X.W, .int i, .int j, .int w] H Q E := sqI ⟨M, X, sts, ms, i, j, w, rfl, ⟨hn, hA⟩, .inr (.inl ⟨i0, i1, hj, k⟩)⟩
theorem clx_Net_wish_full {K : Frag} {H : Hp} {Q : VK} {E : XK} {M : Addr → Prop} {X : NA} {sts : List SO} {ms : List Int} {i : Int} {j : Int} {w : Int} (hn : Nt K M H X sts ms) (hA : Alloc M H) (i0 : 0 ≤ i) (i1 : i < ((topS sts).t.a.length : Nat)) (j0 : 0 ≤ j) (j1 : j < ((topS sts).t.a.length : Nat)) (w0 : 0 ≤ w) (h80 : (topS sts).t.b.length = 80) (k : ∀ H', Same H H' → E (.ref (ga K "InvalidWishes")) none H') : sq (sp_Net_wish K) [.ref X.W, .int i, .int j, .int w] H Q E := sqI ⟨M, X, sts, ms, i, j, w, rfl, ⟨hn, hA⟩, .inr (.inr ⟨i0, i1, j0, j1, w0, h80, k⟩)⟩

def sp_Net_fix (K : Frag) : Sp := fun vs H Q E => ∃ (M : Addr → Prop) (X : NA) (sts : List SO) (ms : List Int) (i : Int) (t : Int), vs = [.ref X.W, .int i, .int t] ∧ Ns K M H X sts ms ∧ (sts.length ≤ 100000) ∧ (0 ≤ i) ∧ (i < ((topS sts).t.a.length : Nat)) ∧ (∃ y, atI (topS sts).t.a i = some y ∧ t < y.1) ∧ (0 ≤ t) ∧ ((topS sts).t.c.length ≤ 40) ∧ (i ∉ (topS sts).t.c.map (fun y : Int × Int => y.1)) ∧ ∀ H', Ext (nM X) H H' → Nt K M H' X (sts ++ [(⟨⟨(topS sts).t.a, (topS sts).t.b, (topS sts).t.c ++ [(i, t)]⟩⟩ : SO)]) ms → Alloc M H' → Q (.non) H'
theorem ok_Net_fix (Z : Zs cks fns K mg) : FnOk PP w K mg base (L2.CX PP w) 6 (ma K (ga K "Net") "fix") (fdAt K (ma K (ga K "Net") "fix")) ["self", "i", "at"] (sp_Net_fix K) := by
  refine L2.Fun.okX (u_Net_fix Z) sc_Net_fix (fun vs H Q E h => ?_) (fun cdv A outer s H vs Q E hr h => ?_)
  · obtain ⟨_, _, _, _, _, _, rfl, _⟩ := h
    rfl
  · obtain ⟨M, X, sts, ms, i, t, rfl, ⟨hT, hsz, i0, i1, hy, t0, h40, hf, hq⟩⟩ := h
    refine ⟨_, (pss_cons (ps_expr (pe_meth (pv 0) (c_Net Z) (hm_Net_need_line Z) (okq (ok_Net_need_line Z)) (hr.mono (by decide)) (b_Net_need_line Z) .nil passL (pa_cons (pv 1) pa_nil)))
      (pss_cons (ps_set (i := 3) sc_Net_fix.nd rfl (Or.inl rfl) (pe_meth0 (pv 0) (c_Net Z) (hm_Net_present Z) (okq (ok_Net_present Z)) (hr.mono (by decide)) (b_Net_present Z) .nil passL))
      (pss_cons (ps_if (PW.pt (pw_or (pt_not (pt_val (pe_call (okq (ok_is_number_from Z)) (hr.mono (by decide)) rfl (g_is_number_from Z) (u_is_number_from Z).kp (b_is_number_from Z) .nil passL (pa_cons (pv 2) (pa_cons pe_int pa_nil))))) (pw_or1 (pt_cmpR op_ge (pv 2) (pe_ix (ixq ix_tup) (pe_ix (ixq ix_list) (pe_fld (pv 3) rfl) (pv 1) (fun _ _ => rfl)) pe_int (fun _ _ => rfl)) (nomark _)))))
        (pss_one ps_never)
        pss_nil)
      (pss_cons (ps_if (pt_cmpR (opq op_in_seq) (pv 1) (pe_lc (own := [("number", 4), ("departure", 5)]) rfl sc_Net_fix.nd (pi_list (pe_fld (pv 3) rfl)) (blkOk_by (own := [("number", 4), ("departure", 5)]) (N := ["self", "i", "at", "now", "number", "departure"]) (sc := defScope s_Net_fix) (by decide +kernel)) (fun _ _ _ _ _ => (show PG _ _ (gTup K 2 _) from pg_tup rfl (pgs_cons (pg_name (i := 4) sc_Net_fix.nd rfl (Or.inl rfl)) (pgs_cons (pg_name (i := 5) sc_Net_fix.nd rfl (Or.inl rfl)) pgs_nil)))) (fun _ _ _ _ _ => pts_nil) (fun _ _ _ _ _ => (pv 4))) (by rfl))
        (pss_one ps_never)
        pss_nil)
      (pss_one (ps_expr (pe_bm PySem.F.plainAttrs_list PySem.F.slot_list_append PySem.F.type_list_append (mtq mt_append) (pe_fld (pv 0) rfl) (pa_cons (pe_makeQ (pe_make (M_State Z) (ok_State_init Z) (hr.mono (by decide)) rfl (g_State Z) (b_State_init Z) .nil passL (pa_cons (pe_fld (pv 3) rfl) (pa_cons (pe_fld (pv 3) rfl) (pa_cons (pe_lstQ (pe_lst (StX.pa_star (pe_fld (pv 3) rfl) (pa_cons (pe_tupQ (pe_tup (pa_cons (pv 1) (pa_cons (pv 2) pa_nil)))) pa_nil)))) pa_nil))))) pa_nil)))))))), ?_⟩
    obtain ⟨y, hy1, hy2⟩ := hy
    refine ⟨_, rfl, X.W, X.dx, _, rfl, hT.n.o, nt_no, _, rfl, cl_Net_need_line hT.n hT.al i0 i1 fun H1 s2 => ?_⟩
    have t3 := hT.same s2
    have al4 := hT.al.same s2
    refine ⟨_, rfl, X.W, X.dx, _, rfl, t3.n.o, nt_no, cl_Net_present t3.n t3.al fun u5 H6 s7 r8 => ?_⟩
    have t9 := t3.same s7
    have al10 := al4.same s7
    refine ⟨_, rfl, cl_is_number_from ?_⟩
    refine ⟨_, rfl, iteNS (show (t ≥ 0) from t0) ?_⟩
    obtain ⟨p11, dx12, a13, b14, c15, e16, h17, ra18, rb19, rc20⟩ := id r8
    refine ⟨_, rfl, _, rfl, p11, _, dx12, _, _, e16, (Fr.sub _ _ h17), c_State Z, na_State_all_lines Z, so_l, _, rfl, rd_ixL (i := i) (x := y) ra18 Fr.sub hy1 fun u21 r22 => ?_⟩
    refine rd_p0 r22 Fr.sub fun u23 r24 => ?_
    obtain rfl : u23 = V.int y.1 := r24
    refine ⟨_, _, rfl, rfl, _, rfl, ifF (show ¬ (t ≥ y.1) from by omega) ?_⟩
    obtain ⟨p25, dx26, a27, b28, c29, e30, h31, ra32, rb33, rc34⟩ := id r8
    obtain ⟨a35, e36, q37, T38⟩ := tw_list rc34
    refine ⟨_, rfl, _, rfl, p25, _, dx26, _, _, e30, (Fr.sub _ _ h31), c_State Z, na_State_all_fixed Z, so_f, a35, e36, q37, lc_mapF (fun (y40 : Int × Int) => (y40.1 : Int)) T38 al10 (by omega) (fun i39 y40 u41 H42 M43 C44 D45 hx46 up47 al48 s49 r50 hC51 => ?_) (fun D59 H60 s61 r62 => ?_)⟩
    · refine rd_unP r50 Fr.sub fun u55 u56 r57 r58 => ?_
      obtain rfl : u55 = V.int y40.1 := r57
      obtain rfl : u56 = V.int y40.2 := r58
      refine ⟨rfl, _, rfl, hC51 _ _ (Same.refl _) (show rp K _ _ (y40.1 : Int) from rfl)⟩
    have t64 := t9.same s61
    have al65 := al10.same s61
    refine rd_in r62 Fr.sub ?_
    refine ⟨_, rfl, ifF (show ¬ (i ∈ ((topS sts).t.c.map (fun (y40 : Int × Int) => (y40.1 : Int)))) from hf) ?_⟩
    obtain ⟨vs66, e67, pd68⟩ := t64.n.s
    obtain ⟨p70, dx71, a72, b73, c74, e75, h76, ra77, rb78, rc79⟩ := id (Rep.up (Fr.same s61) r8)
    obtain ⟨p80, dx81, a82, b83, c84, e85, h86, ra87, rb88, rc89⟩ := id (Rep.up (Fr.same s61) r8)
    obtain ⟨p90, dx91, a92, b93, c94, e95, h96, ra97, rb98, rc99⟩ := id (Rep.up (Fr.same s61) r8)
    obtain ⟨q100, vs101, eq102, e103, pd104⟩ := id rc99
    have lpd104 := Paired.length pd104
    refine ⟨_, rfl, X.W, _, X.dx, _, _, rfl, t64.n.o, c_Net Z, na_Net_states Z, nt_s, .inl ⟨rfl, _, SqL.of e67⟩, _, rfl, p70, _, dx71, _, _, e75, (Fr.sub _ _ h76), c_State Z, na_State_all_lines Z, so_l, _, rfl, p80, _, dx81, _, _, e85, (Fr.sub _ _ h86), c_State Z, na_State_all_wishes Z, so_w, _, rfl, p90, _, dx91, _, _, e95, (Fr.sub _ _ h96), c_State Z, na_State_all_fixed Z, so_f, q100, _, eq102, .inr (SqL.of (Fr.sub _ _ e103)), _, rfl, _, rfl, rd_pair al65 (show rp K _ _ (i : Int) from rfl) (show rp K _ _ (t : Int) from rfl) fun u105 H106 s107 r108 => ?_⟩
    have t109 := t64.same s107
    have al110 := al65.same s107
    refine rd_lst (K := K) (xs := (topS sts).t.c ++ ([(i, t)] : List (Int × Int))) al110 (by simp only [List.length_append, List.length_cons, List.length_nil]; omega) (pd_app (Paired.mapP pd104 fun _ _ r => Rep.up (Fr.same s107) r) (.cons r108 .nil)) fun u111 H112 s113 r114 => ?_
    have t115 := t109.same s113
    have al116 := al110.same s113
    refine mk_State al116 (Rep.up ((Fr.same s107).trans (Fr.same s113)) ra77) (Rep.up ((Fr.same s107).trans (Fr.same s113)) rb88) r114 fun u117 H118 s119 r120 => ?_
    have t121 := t115.same s119
    have al122 := al116.same s119
    obtain ⟨vs123, e124, pd125⟩ := t121.n.s
    show sqm rAppend (.ref X.S) [u117] H118 _
    rw [sqm_eq]
    refine ⟨X.S, vs123, _, rfl, rfl, e124, Nat.lt_of_le_of_lt (show vs123.length ≤ 100000 by rw [Paired.length pd125]; exact hsz) (by decide), ?_⟩
    obtain ⟨n127, x128, sm132⟩ := Nt.push t121.n e124 r120
    have al129 := Alloc.wrM (D := X.S) (o := .lst (vs123 ++ [u117])) t121.al trivial
    obtain ⟨H126, eH130⟩ : ∃ hh, hh = upd H118 X.S (.lst (vs123 ++ [u117])) := ⟨_, rfl⟩
    rw [← eH130] at n127 x128 al129 sm132
    rw [← eH130]
    have t131 : Ns K M H126 X _ ms := ⟨n127, al129⟩
    have x133 : Ext (nM X) H118 H126 := Ext.sub (fun b z => .inr (.inl z)) x128
    exact hq _ ((Ext.same s2).trans ((Ext.same s7).trans ((Ext.same s61).trans ((Ext.same s107).trans ((Ext.same s113).trans ((Ext.same s119).trans x133)))))) t131.n t131.al
theorem cl_Net_fix {K : Frag} {H : Hp} {Q : VK} {E : XK} {M : Addr → Prop} {X : NA} {sts : List SO} {ms : List Int} {i : Int} {t : Int} (hn : Nt K M H X sts ms) (hA : Alloc M H) (hsz : sts.length ≤ 100000) (i0 : 0 ≤ i) (i1 : i < ((topS sts).t.a.length : Nat)) (hy : ∃ y, atI (topS sts).t.a i = some y ∧ t < y.1) (t0 : 0 ≤ t) (h40 : (topS sts).t.c.length ≤ 40) (hf : i ∉ (topS sts).t.c.map (fun y : Int × Int => y.1)) (k : ∀ H', Ext (nM X) H H' → Nt K M H' X (sts ++ [(⟨⟨(topS sts).t.a, (topS sts).t.b, (topS sts).t.c ++ [(i, t)]⟩⟩ : SO)]) ms → Alloc M H' → Q (.non) H') : sq (sp_Net_fix K) [.ref X.W, .int i, .int t] H Q E := sqI ⟨M, X, sts, ms, i, t, rfl, ⟨hn, hA⟩, hsz, i0, i1, hy, t0, h40, hf, k⟩
def sp_Net_drop (K : Frag) : Sp := fun vs H Q E => ∃ (M : Addr → Prop) (X : NA) (sts : List SO) (ms : List Int) (i : Int), vs = [.ref X.W, .int i] ∧ Ns K M H X sts ms ∧ (sts.length ≤ 100000) ∧ (0 ≤ i) ∧ (i < ((topS sts).t.b.length : Nat)) ∧ ((topS sts).t.b.length ≤ 80) ∧ ∀ H', Ext (nM X) H H' → Nt K M H' X (sts ++ [(⟨⟨(topS sts).t.a, cutX (topS sts).t.b none (some (i)) ++ cutX (topS sts).t.b (some (i + 1)) none, (topS sts).t.c⟩⟩ : SO)]) ms → Alloc M H' → Q (.non) H'
theorem ok_Net_drop (Z : Zs cks fns K mg) : FnOk PP w K mg base (L2.CX PP w) 6 (ma K (ga K "Net") "drop") (fdAt K (ma K (ga K "Net") "drop")) ["self", "index"] (sp_Net_drop K) := by
  refine L2.Fun.okX (u_Net_drop Z) sc_Net_drop (fun vs H Q E h => ?_) (fun cdv A outer s H vs Q E hr h => ?_)
  · obtain ⟨_, _, _, _, _, rfl, _⟩ := h
    rfl
  · obtain ⟨M, X, sts, ms, i, rfl, ⟨hT, hsz, i0, i1, h80, hq⟩⟩ := h
    refine ⟨_, (pss_cons (ps_set (i := 2) sc_Net_drop.nd rfl (Or.inl rfl) (pe_meth0 (pv 0) (c_Net Z) (hm_Net_present Z) (okq (ok_Net_present Z)) (hr.mono (by decide)) (b_Net_present Z) .nil passL))
      (pss_cons (ps_if (pt_not (pt_chain op_le op_lt pe_int (pv 1) (pe_callB (crq call_len_seq) rfl (n_len Z) (by decide +kernel) (pa_cons (pe_fld (pv 2) rfl) pa_nil))))
        (pss_one ps_never)
        pss_nil)
      (pss_cons (ps_set (i := 3) sc_Net_drop.nd rfl (Or.inl rfl) (pe_lstQ (pe_lst (StX.pa_star (pe_slice (slq sl_list) (pe_fld (pv 2) rfl) po_none (po_some (pv 1))) (StX.pa_star (pe_slice (slq sl_list) (pe_fld (pv 2) rfl) (po_some (pe_op op_add (pv 1) pe_int)) po_none) pa_nil)))))
      (pss_one (ps_expr (pe_bm PySem.F.plainAttrs_list PySem.F.slot_list_append PySem.F.type_list_append (mtq mt_append) (pe_fld (pv 0) rfl) (pa_cons (pe_makeQ (pe_make (M_State Z) (ok_State_init Z) (hr.mono (by decide)) rfl (g_State Z) (b_State_init Z) .nil passL (pa_cons (pe_fld (pv 2) rfl) (pa_cons (pv 3) (pa_cons (pe_fld (pv 2) rfl) pa_nil))))) pa_nil))))))), ?_⟩
    refine ⟨_, rfl, X.W, X.dx, _, rfl, hT.n.o, nt_no, cl_Net_present hT.n hT.al fun u1 H2 s3 r4 => ?_⟩
    have t5 := hT.same s3
    have al6 := hT.al.same s3
    refine ⟨_, rfl, _, _, rfl, rfl, _, rfl, ifT (i0) ?_⟩
    obtain ⟨p7, dx8, a9, b10, c11, e12, h13, ra14, rb15, rc16⟩ := id r4
    refine ⟨_, rfl, p7, _, dx8, _, _, e12, (Fr.sub _ _ h13), c_State Z, na_State_all_wishes Z, so_w, rd_len rb15 Fr.sub ?_⟩
    refine ⟨_, _, rfl, rfl, _, rfl, iteNS (show (i < ((topS sts).t.b.length : Nat)) from i1) ?_⟩
    obtain ⟨p17, dx18, a19, b20, c21, e22, h23, ra24, rb25, rc26⟩ := id r4
    refine ⟨_, rfl, p17, _, dx18, _, _, e22, (Fr.sub _ _ h23), c_State Z, na_State_all_wishes Z, so_w, _, rfl, _, rfl, rd_sl (lo := none) (hi := (some (i))) al6 rb25 fun u27 H28 s29 r30 => ?_⟩
    have t31 := t5.same s29
    have al32 := al6.same s29
    obtain ⟨q33, vs34, eq35, e36, pd37⟩ := id r30
    have lpd37 := Paired.length pd37
    obtain ⟨p38, dx39, a40, b41, c42, e43, h44, ra45, rb46, rc47⟩ := id (Rep.up (Fr.same s29) r4)
    refine ⟨q33, _, eq35, .inr (SqL.of (Fr.sub _ _ e36)), _, rfl, p38, _, dx39, _, _, e43, (Fr.sub _ _ h44), c_State Z, na_State_all_wishes Z, so_w, _, rfl, _, _, rfl, rfl, _, rfl, rd_sl (lo := (some (i + 1))) (hi := none) al32 rb46 fun u48 H49 s50 r51 => ?_⟩
    have t52 := t31.same s50
    have al53 := al32.same s50
    obtain ⟨q54, vs55, eq56, e57, pd58⟩ := id r51
    have lpd58 := Paired.length pd58
    refine ⟨q54, _, eq56, .inr (SqL.of (Fr.sub _ _ e57)), rd_lst (K := K) (xs := (cutX (topS sts).t.b none (some (i))) ++ (cutX (topS sts).t.b (some (i + 1)) none)) al53 (by have := cutX_len (topS sts).t.b none (some i); have := cutX_len (topS sts).t.b (some (i + 1)) none; simp only [List.length_append, List.length_nil]; omega) (pd_app (Paired.mapP pd37 fun _ _ r => Rep.up (Fr.same s50) r) (by rw [List.append_nil]; exact pd58)) fun u59 H60 s61 r62 => ?_⟩
    have t63 := t52.same s61
    have al64 := al53.same s61
    obtain ⟨vs65, e66, pd67⟩ := t63.n.s
    obtain ⟨p69, dx70, a71, b72, c73, e74, h75, ra76, rb77, rc78⟩ := id (Rep.up ((Fr.same s29).trans ((Fr.same s50).trans (Fr.same s61))) r4)
    obtain ⟨p79, dx80, a81, b82, c83, e84, h85, ra86, rb87, rc88⟩ := id (Rep.up ((Fr.same s29).trans ((Fr.same s50).trans (Fr.same s61))) r4)
    refine ⟨_, rfl, X.W, _, X.dx, _, _, rfl, t63.n.o, c_Net Z, na_Net_states Z, nt_s, .inl ⟨rfl, _, SqL.of e66⟩, _, rfl, p69, _, dx70, _, _, e74, (Fr.sub _ _ h75), c_State Z, na_State_all_lines Z, so_l, _, rfl, _, rfl, p79, _, dx80, _, _, e84, (Fr.sub _ _ h85), c_State Z, na_State_all_fixed Z, so_f, mk_State al64 ra76 r62 rc88 fun u89 H90 s91 r92 => ?_⟩
    have t93 := t63.same s91
    have al94 := al64.same s91
    obtain ⟨vs95, e96, pd97⟩ := t93.n.s
    show sqm rAppend (.ref X.S) [u89] H90 _
    rw [sqm_eq]
    refine ⟨X.S, vs95, _, rfl, rfl, e96, Nat.lt_of_le_of_lt (show vs95.length ≤ 100000 by rw [Paired.length pd97]; exact hsz) (by decide), ?_⟩
    obtain ⟨n99, x100, sm104⟩ := Nt.push t93.n e96 r92
    have al101 := Alloc.wrM (D := X.S) (o := .lst (vs95 ++ [u89])) t93.al trivial
    obtain ⟨H98, eH102⟩ : ∃ hh, hh = upd H90 X.S (.lst (vs95 ++ [u89])) := ⟨_, rfl⟩
    rw [← eH102] at n99 x100 al101 sm104
    rw [← eH102]
    have t103 : Ns K M H98 X _ ms := ⟨n99, al101⟩
    have x105 : Ext (nM X) H90 H98 := Ext.sub (fun b z => .inr (.inl z)) x100
    exact hq _ ((Ext.same s3).trans ((Ext.same s29).trans ((Ext.same s50).trans ((Ext.same s61).trans ((Ext.same s91).trans x105))))) t103.n t103.al
theorem cl_Net_drop {K : Frag} {H : Hp} {Q : VK} {E : XK} {M : Addr → Prop} {X : NA} {sts : List SO} {ms : List Int} {i : Int} (hn : Nt K M H X sts ms) (hA : Alloc M H) (hsz : sts.length ≤ 100000) (i0 : 0 ≤ i) (i1 : i < ((topS sts).t.b.length : Nat)) (h80 : (topS sts).t.b.length ≤ 80) (k : ∀ H', Ext (nM X) H H' → Nt K M H' X (sts ++ [(⟨⟨(topS sts).t.a, cutX (topS sts).t.b none (some (i)) ++ cutX (topS sts).t.b (some (i + 1)) none, (topS sts).t.c⟩⟩ : SO)]) ms → Alloc M H' → Q (.non) H') : sq (sp_Net_drop K) [.ref X.W, .int i] H Q E := sqI ⟨M, X, sts, ms, i, rfl, ⟨hn, hA⟩, hsz, i0, i1, h80, k⟩
end
section
variable {w : World} {K : Frag} {mg : Str → Option Value} {base : Heap}
def sp_Net_undo (K : Frag) : Sp := fun vs H Q E => ∃ (M : Addr → Prop) (X : NA) (sts : List SO) (ms : List Int), vs = [.ref X.W] ∧ Nt K M H X sts ms ∧ Alloc M H ∧ ms.length ≤ 100000 ∧ ((sts = [] ∧ (∀ H', Same H H' → E (.ref (ga K "NothingToUndo")) none H')) ∨ (sts ≠ [] ∧ ∀ M' S' Mk' H', Gw M M' H H' → Alloc M' H' → Ext (fun b => b = X.W) H H' → H S' = none → H Mk' = none → Nt K M' H' ⟨X.W, X.dx, S', Mk'⟩ sts.dropLast (ms.filter fun m => decide (m ≤ ((sts.length : Nat) : Int) - 1)) → Q .non H'))
theorem ok_Net_undo (Z : Zs cks fns K mg) : FnOk PP w K mg base (L2.CX PP w) 1 (ma K (ga K "Net") "undo") (fdAt K (ma K (ga K "Net") "undo")) ["self"] (sp_Net_undo K) := by
  refine L2.Fun.okX (u_Net_undo Z) sc_Net_undo (fun vs H Q E h => ?_) (fun cdv A outer s H vs Q E hr h => ?_)
  · obtain ⟨_, _, _, _, rfl, _⟩ := h
    rfl
  · obtain ⟨M, X, sts, ms, rfl, ⟨hn, hA, hl, hq⟩⟩ := h
    refine ⟨_, (pss_cons (ps_if (pt_cmpR (op_eqE hr.units) (pe_fld (pv 0) rfl) (pe_lst pa_nil) (nomark _))
        (pss_one (ps_raise rfl (takes_of rfl rfl rfl rfl) (pmk_own PySem.F.excBase_ValueError (er_NothingToUndo Z).x (g_NothingToUndo Z) (er_NothingToUndo Z).k (raises_own (er_NothingToUndo Z).b (er_NothingToUndo Z).t) rfl)))
        pss_nil)
      (pss_cons (ps_fld (pv 0) (pe_slice sl_list (pe_fld (pv 0) rfl) po_none (po_some (pe_un un_neg pe_int))) rfl)
      (pss_one (ps_fld (pv 0) (pe_lc (own := [("many", 1)]) rfl sc_Net_undo.nd (pi_list (pe_fld (pv 0) rfl)) (blkOk_by (own := [("many", 1)]) (N := ["self", "many"]) (sc := defScope s_Net_undo) (by decide +kernel)) (fun _ _ _ _ _ => (pg_name (i := 1) sc_Net_undo.nd rfl (Or.inl rfl))) (fun _ _ _ _ _ => pts_one (pt_cmpR op_le (pv 1) (pe_callB (show CallR _ _ (fun xs H Q => ∃ p ys, xs = [.ref p] ∧ (SqL K H p ys ∨ SqT K H p ys) ∧ Q (.int ys.length) H) from call_len_seq) rfl (n_len Z) (by decide +kernel) (pa_cons (show PE _ _ (tFld K _ "states") from pe_fld (pv 0) rfl) pa_nil)) (nomark _))) (fun _ _ _ _ _ => (pv 1))) rfl)))), ?_⟩
    obtain ⟨vs, eS, pd⟩ := hn.s
    refine ⟨_, rfl, X.W, _, X.dx, _, _, rfl, hn.o, c_Net Z, na_Net_states Z, nt_s, (by show 0 ≤ sizeLine; decide), fun q hq0 => ?_⟩
    have s1 := Same.new (o := .lst []) hq0
    have e9 : (upd H q (.lst ([] : List V))) q = some (.lst []) := upd_same
    generalize upd H q (.lst ([] : List V)) = H1 at *
    refine ⟨X.S, q, vs, rfl, rfl, SqL.of (s1 _ _ eS), SqL.of e9, _, rfl, ?_⟩
    rcases hq with ⟨e0, hE⟩ | ⟨ne, hq⟩
    · subst e0
      cases pd
      exact iteT (hE _ s1)
    have lp := pd.length
    have lpos := List.length_pos_iff.mpr ne
    have nv : vs.isEmpty = false := by
      cases vs with
      | nil => rw [← lp] at lpos; cases lpos
      | cons _ _ => rfl
    rw [show (if false = true then !vs.isEmpty else vs.isEmpty) = false by rw [nv]; rfl]
    refine iteF ?_
    have hn1 := hn.same s1
    have hA1 := hA.same s1
    obtain ⟨vs1, eS1, pd1⟩ := hn1.s
    have ev : vs1 = vs := by
      have := s1 _ _ eS
      rw [eS1] at this
      cases this
      rfl
    subst ev
    refine ⟨_, rfl, X.W, _, X.dx, _, _, rfl, hn1.o, c_Net Z, na_Net_states Z, nt_s, _, rfl, _, rfl, X.S, vs1, rfl, SqL.of eS1, fun p hp => ?_⟩
    have ecut : cutV vs1 none (some (-1)) = vs1.dropLast := cutX_init vs1
    rw [ecut]
    have s2 := Same.new (o := .lst vs1.dropLast) hp
    have e2 : (upd H1 p (.lst vs1.dropLast)) p = some (.lst vs1.dropLast) := upd_same
    generalize upd H1 p (.lst vs1.dropLast) = H2 at *
    have pdD : Paired (fun v x => rp K (Fr M H1) v x) vs1.dropLast sts.dropLast := by
      have := pd_cut (lo := none) (hi := some (-1)) pd1
      rw [cutX_init, cutX_init] at this
      exact this
    obtain ⟨H3, e3⟩ : ∃ hh, hh = upd H2 X.W (.ins (ga K "Net") X.dx (ntF (.ref p) (.ref X.Mk))) := ⟨_, rfl⟩
    obtain ⟨nA, gA, aA, xA⟩ := hn1.setS hA1 s2 hp e2 pdD e3
    refine ⟨_, rfl, X.W, _, X.dx, _, rfl, (s2 _ _ hn1.o), c_Net Z, na_Net_states Z, (by first | exact pl0 | exact pl1 | exact pl2 | exact plN), ?_⟩
    rw [nt_ps, ← e3]
    have nM0 : Alloc (fun _ => False) H3 := fun _ z => z.elim
    have rm : rp K (Fr (fun _ => False) H3) (.ref X.Mk) ms := ⟨X.Mk, _, rfl, Fr.get (fun z => z) nA.m, pd_ofInts ms⟩
    obtain ⟨a4, e4, q4, T4⟩ := tw_list rm
    cases e4
    refine ⟨_, rfl, X.W, _, X.dx, _, _, rfl, nA.o, c_Net Z, na_Net_marks Z, nt_m, X.Mk, rfl, q4, lc_filtD (fun m : Int => decide (m ≤ ((sts.length : Nat) : Int) - 1)) (fun m : Int => m) T4 nM0 (by omega) (fun i m u H5 M5 C5 C0 hx s5 al5 sm5 r5 hC hC0 => ?_) (fun D H6 hD s6 r6 => ?_)⟩
    · obtain rfl : u = .int m := r5
      obtain ⟨vs9, e9, pd9⟩ := nA.s
      have k9 : vs9.length = sts.length - 1 := by
        rw [pd9.length, List.length_dropLast]
      refine ⟨rfl, _, rfl, _, rfl, X.W, _, X.dx, _, _, rfl, sm5 _ _ nA.o, c_Net Z, na_Net_states Z, nt_s, p, vs9, rfl, .inl (SqL.of (sm5 _ _ e9)), _, _, rfl, rfl, _, rfl, ?_⟩
      rw [k9, show (((sts.length - 1 : Nat) : Int)) = ((sts.length : Nat) : Int) - 1 by omega]
      refine ifD (fun c => ?_) (fun c => ?_)
      · exact ⟨_, rfl, hC (decide_eq_true c) _ _ (Same.refl _) rfl⟩
      · exact hC0 (decide_eq_false c) _ (Same.refl _)
    rw [List.map_id'] at r6
    obtain ⟨D', vs6, e6, eD, pd6⟩ := r6
    cases e6
    have eD := Fr.sub _ _ eD
    rw [pd_ints pd6] at eD
    obtain ⟨H7, e7⟩ : ∃ hh, hh = upd H6 X.W (.ins (ga K "Net") X.dx (ntF (.ref p) (.ref D))) := ⟨_, rfl⟩
    obtain ⟨nB, gB, aB, xB⟩ := nA.setM aA s6 hD eD e7
    refine ⟨_, rfl, X.W, _, X.dx, _, rfl, (s6 _ _ nA.o), c_Net Z, na_Net_marks Z, (by first | exact pl0 | exact pl1 | exact pl2 | exact plN), ?_⟩
    rw [nt_pm, ← e7]
    have gg : Gw M (Ad p M) H H3 := (Gw.of (Ext.same s1)).trans gA
    exact hq _ p D _ (gg.trans gB) aB (fun b o n e => xB b o n (xA b o n (s1 _ _ e))) (Same.fin s1 hp) (gg.alloc_new hA hD aA) nB
theorem cl_Net_undo {K : Frag} {H : Hp} {Q : VK} {E : XK} {M : Addr → Prop} {X : NA} {sts : List SO} {ms : List Int} (hn : Nt K M H X sts ms) (hA : Alloc M H) (hl : ms.length ≤ 100000) (hq : (sts = [] ∧ (∀ H', Same H H' → E (.ref (ga K "NothingToUndo")) none H')) ∨ (sts ≠ [] ∧ ∀ M' S' Mk' H', Gw M M' H H' → Alloc M' H' → Ext (fun b => b = X.W) H H' → H S' = none → H Mk' = none → Nt K M' H' ⟨X.W, X.dx, S', Mk'⟩ sts.dropLast (ms.filter fun m => decide (m ≤ ((sts.length : Nat) : Int) - 1)) → Q .non H')) : sq (sp_Net_undo K) [.ref X.W] H Q E := sqI ⟨M, X, sts, ms, rfl, hn, hA, hl, hq⟩
def sp_Net_twin (K : Frag) : Sp := fun vs H Q E => ∃ (M : Addr → Prop) (X : NA) (sts : List SO) (ms : List Int), vs = [.ref X.W] ∧ Nt K M H X sts ms ∧ Alloc M H ∧ ∀ Y H', Same H H' → (∀ b, nM Y b → H b = none) → Nt K (MX M Y) H' Y sts ms → Gw M (MX M Y) H H' → Alloc (MX M Y) H' → Q (.ref Y.W) H'
theorem ok_Net_twin (Z : Zs cks fns K mg) : FnOk PP w K mg base (L2.CX PP w) 4 (ma K (ga K "Net") "twin") (fdAt K (ma K (ga K "Net") "twin")) ["self"] (sp_Net_twin K) := by
  refine L2.Fun.okX (u_Net_twin Z) sc_Net_twin (fun vs H Q E h => ?_) (fun cdv A outer s H vs Q E hr h => ?_)
  · obtain ⟨_, _, _, _, rfl, _⟩ := h
    rfl
  · obtain ⟨M, X, sts, ms, rfl, ⟨hn, hA, hq⟩⟩ := h
    refine ⟨_, (pss_cons (ps_set (i := 1) sc_Net_twin.nd rfl (Or.inl rfl) (pe_make0 (M_Net Z) (ok_Net_init Z) (hr.mono (by decide)) rfl (g_Net Z) (b_Net_init Z) .nil passL))
      (pss_cons (ps_fld (pv 1) (pe_callTy call_list_of rfl (n_list Z) (by decide +kernel) (pa_cons (pe_fld (pv 0) rfl) pa_nil)) rfl)
      (pss_cons (ps_fld (pv 1) (pe_callTy call_list_of rfl (n_list Z) (by decide +kernel) (pa_cons (pe_fld (pv 0) rfl) pa_nil)) rfl)
      (pss_one (ps_ret (pv 1)))))), ?_⟩
    intro p dx hp hdx hne
    obtain ⟨H1, e1⟩ : ∃ hh, hh = upd (upd H dx (.own p)) p (.ins (ga K "Net") dx []) := ⟨_, rfl⟩
    have s1 : Same H H1 := by
      rw [e1]
      intro b o e
      rw [upd_ne (fun z => by rw [z, hp] at e; cases e), upd_ne (fun z => by rw [z, hdx] at e; cases e)]
      exact e
    have o1 : H1 p = some (.ins (ga K "Net") dx []) := by rw [e1]; exact upd_same
    change sp_Net_init K _ (upd (upd H dx (.own p)) p (.ins (ga K "Net") dx [])) _ _
    rw [← e1]
    refine ⟨p, dx, rfl, o1, fun S0 Mk0 H2 ne0 hS0 hM0 x2 o2 e2 e3 => ⟨rfl, ?_⟩⟩
    have s2 : Same H H2 := fun b o e => x2 b o (fun z => by rw [z, hp] at e; cases e) (s1 _ _ e)
    obtain ⟨vs, eS, pd⟩ := hn.s
    have hn2 := hn.same s2
    refine ⟨_, rfl, X.W, _, X.dx, _, _, rfl, hn2.o, c_Net Z, na_Net_states Z, nt_s, X.S, vs, rfl, .inl (SqL.of (s2 _ _ eS)), fun l hl => ?_⟩
    have s3 := Same.new (o := .lst vs) hl
    have el : (upd H2 l (.lst vs)) l = some (.lst vs) := upd_same
    generalize upd H2 l (.lst vs) = H3 at *
    have o3 := s3 _ _ o2
    have lp : l ≠ p := fun z => by rw [z, o2] at hl; cases hl
    refine ⟨_, rfl, p, _, dx, _, rfl, o3, c_Net Z, na_Net_states Z, (by first | exact pl0 | exact pl1 | exact pl2 | exact plN), ?_⟩
    rw [nt_ps]
    obtain ⟨H4, e4⟩ : ∃ hh, hh = upd H3 p (.ins (ga K "Net") dx (ntF (.ref l) (.ref Mk0))) := ⟨_, rfl⟩
    rw [← e4]
    have x4 : ∀ b o, b ≠ p → H3 b = some o → H4 b = some o := fun b o n e => by rw [e4, upd_ne n]; exact e
    have o4 : H4 p = some (.ins (ga K "Net") dx (ntF (.ref l) (.ref Mk0))) := by rw [e4]; exact upd_same
    have nWp : X.W ≠ p := fun z => by rw [← z, hn.o] at hp; cases hp
    have nMp : X.Mk ≠ p := fun z => by rw [← z, hn.m] at hp; cases hp
    have s4 : Same H H4 := fun b o e => x4 b o (fun z => by rw [z, hp] at e; cases e) (s3 _ _ (s2 _ _ e))
    refine ⟨_, rfl, X.W, _, X.dx, _, _, rfl, s4 _ _ hn.o, c_Net Z, na_Net_marks Z, nt_m, X.Mk, _, rfl, .inl (SqL.of (s4 _ _ hn.m)), fun l2 hl2 => ?_⟩
    have s5 := Same.new (o := .lst (ms.map V.int)) hl2
    have el2 : (upd H4 l2 (.lst (ms.map V.int))) l2 = some (.lst (ms.map V.int)) := upd_same
    generalize upd H4 l2 (.lst (ms.map V.int)) = H5 at *
    have l2p : l2 ≠ p := fun z => by rw [z, o4] at hl2; cases hl2
    have l2l : l ≠ l2 := fun z => by rw [← z, x4 _ _ lp el] at hl2; cases hl2
    refine ⟨_, rfl, p, _, dx, _, rfl, s5 _ _ o4, c_Net Z, na_Net_marks Z, (by first | exact pl0 | exact pl1 | exact pl2 | exact plN), ?_⟩
    rw [nt_pm]
    obtain ⟨H6, e6⟩ : ∃ hh, hh = upd H5 p (.ins (ga K "Net") dx (ntF (.ref l) (.ref l2))) := ⟨_, rfl⟩
    rw [← e6]
    have s6 : Same H H6 := fun b o e => by
      rw [e6, upd_ne (fun z => by rw [z, hp] at e; cases e)]
      exact s5 _ _ (s4 _ _ e)
    have fr : ∀ b, nM ⟨p, dx, l, l2⟩ b → H b = none := fun b z => by
      rcases z with z | z | z
      · rw [z]
        exact hp
      · rw [z]
        exact Same.fin s2 hl
      · rw [z]
        exact Same.fin s4 hl2
    obtain ⟨n9, g9, a9⟩ := Nt.mk2 (K := K) (X := ⟨p, dx, l, l2⟩) (sts := sts) (ms := ms) (vs := vs) hA s6 fr (by rw [e6]; exact upd_same) (by show H6 l = _; rw [e6, upd_ne lp]; exact s5 _ _ (x4 _ _ lp el)) pd (by show H6 l2 = _; rw [e6, upd_ne l2p]; exact el2) l2l
    exact ⟨_, rfl, hq ⟨p, dx, l, l2⟩ _ s6 fr n9 g9 a9⟩
theorem cl_Net_twin {K : Frag} {H : Hp} {Q : VK} {E : XK} {M : Addr → Prop} {X : NA} {sts : List SO} {ms : List Int} (hn : Nt K M H X sts ms) (hA : Alloc M H) (k : ∀ Y H', Same H H' → (∀ b, nM Y b → H b = none) → Nt K (MX M Y) H' Y sts ms → Gw M (MX M Y) H H' → Alloc (MX M Y) H' → Q (.ref Y.W) H') : sq (sp_Net_twin K) [.ref X.W] H Q E := sqI ⟨M, X, sts, ms, rfl, hn, hA, k⟩
end
section
variable {w : World} {K : Frag} {mg : Str → Option Value} {base : Heap}
def sp__law_tank (K : Frag) : Sp := fun vs H Q E => ∃ (a : Addr) (ns : List Int), vs = [.ref a] ∧ SqL K H a (ns.map V.int) ∧ ns.length ≤ 63 ∧ ∀ (p c : Addr) (H' : Hp), Same H H' → H p = none → H c = none → Tk p c (2 ^ 39) H' → Q (.ref p) H'
theorem ok__law_tank (Z : Zs cks fns K mg) : FnOk PP w K mg base (L2.CX PP w) 1 (ga K "_law_tank") (fdAt K (ga K "_law_tank")) ["script"] (sp__law_tank K) := by
  refine L2.Fun.okX (u__law_tank Z) sc__law_tank (fun vs H Q E h => ?_) (fun cdv A outer s H vs Q E hr h => ?_)
  · obtain ⟨_, _, rfl, _⟩ := h
    rfl
  · obtain ⟨a, ns, rfl, ⟨hS, hlen, hq⟩⟩ := h
    refine ⟨_, (pss_cons (ps_set (i := 1) sc__law_tank.nd rfl (Or.inl rfl) (pe_op op_pow pe_int pe_int))
      (C8.pss_cut (ps_for (passes_of rfl) rfl (pi_list (pe_slice sl_list (pv 0) po_none (po_some pe_int))) (pg_name (i := 2) sc__law_tank.nd rfl (Or.inl rfl))
        (pss_one (ps_set (i := 1) sc__law_tank.nd rfl (Or.inl rfl) (pe_op op_mod (pe_op op_add (pe_op op_mul (pv 1) pe_int) (pv 2)) pe_int))))
      (pss_one (ps_ret (pe_lst (pa_cons (pe_lc (own := [("cell", 2)]) rfl sc__law_tank.nd (pi_list (pe_slice sl_list (pv 0) po_none (po_some pe_int))) (blkOk_by (own := [("cell", 2)]) (N := ["script", "mix", "cell"]) (sc := defScope s__law_tank) (by decide +kernel)) (fun _ _ _ _ _ => (pg_name (i := 2) sc__law_tank.nd rfl (Or.inl rfl))) (fun _ _ _ _ _ => pts_one (pt_cmpR op_ge (pe_callB call_abs rfl (n_abs Z) (by decide +kernel) (pa_cons (pv 2) pa_nil)) (pe_op op_pow pe_int pe_int) (nomark _))) (fun _ _ _ _ _ => (pe_callB call_abs rfl (n_abs Z) (by decide +kernel) (pa_cons (pv 2) pa_nil)))) (pa_cons (pv 1) (pa_cons pe_int pa_nil)))))))), ?_⟩
    have hle := cutI_le ns none (some 40)
    refine ⟨_, _, rfl, rfl, ⟨by decide, by decide, by decide⟩, ?_⟩
    -- the mixed number
    refine ⟨fun σ H1 => ∃ (m : Int) (v : Option V), σ = [some (.ref a), some (.int m), v] ∧ 0 ≤ m ∧ m < M127 ∧ Same H H1, ?_, ?_⟩
    · refine ⟨_, rfl, 40, rfl, a, _, rfl, hS, fun p hp => ⟨p, rfl, ⟨_, SqL.of upd_same⟩, ?_⟩⟩
      rw [cutV_ints]
      refine for_list (K := K) (a := p) (xs := (cutI ns none (some 40)).map V.int) (fun i σ H1 => ∃ (m : Int) (v : Option V), σ = [some (.ref a), some (.int m), v] ∧ 0 ≤ m ∧ m < M127 ∧ Same (upd H p (.lst ((cutI ns none (some 40)).map V.int))) H1)
        ⟨23 ^ 27, none, rfl, by decide, by decide, Same.refl _⟩ (fun i σ H1 _ ⟨_, _, _, _, _, s⟩ => s.seq (SqL.of upd_same)) ?_ ?_
      · rintro i x σ H1 hi ⟨m, v, rfl, h0, h1, s⟩
        obtain ⟨z, _, rfl⟩ := get_ints hi
        refine ⟨_, rfl, _, _, rfl, rfl, .inr ⟨by decide, by decide⟩, _, rfl, _, _, rfl, rfl, _, _, rfl, rfl, (by show (0 : Int) < M127; decide), ?_⟩
        exact ⟨_, _, rfl, Int.emod_nonneg _ (by decide), Int.emod_lt_of_pos _ (by decide), s⟩
      · rintro σ H1 ⟨m, v, rfl, h0, h1, s⟩
        exact ⟨m, v, rfl, h0, h1, (Same.new hp).trans s⟩
    -- the digits
    rintro σ H1 ⟨m, v, rfl, h0, h1, s1⟩
    refine ⟨_, rfl, 40, rfl, a, _, rfl, s1.seq hS, fun p hp => ⟨p, rfl, ⟨_, SqL.of upd_same⟩, fun D hD => ?_⟩⟩
    rw [cutV_ints] at hD ⊢
    have npD : p ≠ D := ne_of_none upd_same hD
    have hD1 : H1 D = none := by
      have q := hD
      rw [upd_ne npD.symm] at q
      exact q
    refine lc_list (K := K) (a := p) (xs := (cutI ns none (some 40)).map V.int) (fun i H2 => ∃ ds : List Int, ds.length ≤ i ∧ H2 D = some (.lst (ds.map V.int)) ∧ Same H1 H2 ∧ H2 p = some (.lst ((cutI ns none (some 40)).map V.int)))
      ⟨[], Nat.zero_le _, upd_same, (Same.new hp).trans (Same.new hD), by rw [upd_ne npD]; exact upd_same⟩ (fun i H2 _ ⟨_, _, _, _, e⟩ => SqL.of e) ?_ ?_
    · rintro i x H2 hi ⟨ds, hl, hd, s2, e2⟩
      obtain ⟨z, _, rfl⟩ := get_ints hi
      have hi2 : i < 64 := by
        have q := (List.getElem?_eq_some_iff.mp hi).1
        rw [List.length_map] at q
        omega
      refine ⟨rfl, _, rfl, _, rfl, _, _, rfl, rfl, ⟨by decide, by decide, by decide⟩, _, _, rfl, rfl, _, rfl, ifD (fun c => ?_) (fun c => ?_)⟩
      · refine ⟨_, rfl, _, rfl, _, hd, ?_, ?_⟩
        · rw [List.length_map]
          exact Nat.lt_of_le_of_lt (Nat.le_trans hl (Nat.le_of_lt hi2)) (by decide)
        · refine ⟨ds ++ [_], by rw [List.length_append]; simp; omega, by rw [upd_same, List.map_append]; rfl, ?_, by rw [upd_ne npD]; exact e2⟩
          exact fun b o e => by rw [upd_ne (ne_of_none e hD1)]; exact s2 b o e
      · exact ⟨ds, by omega, hd, s2, e2⟩
    · rintro H2 ⟨ds, hl, hd, s2, e2⟩
      rw [List.length_map] at hl
      refine ⟨_, rfl, (by show 3 ≤ sizeLine; decide), fun q hq' => ?_⟩
      have nqD : q ≠ D := (ne_of_none hd hq').symm
      have s3 : Same H1 (upd H2 q (.lst [.ref D, .int m, .int 0])) := s2.trans (Same.new hq')
      refine hq q D _ (s1.trans s3) (s1.free (s2.free hq')) (s1.free hD1) ⟨ds, m, 0, upd_same, by rw [upd_ne nqD.symm]; exact hd, by omega, h0, h1, Int.le_refl 0, by decide⟩
abbrev sp__law_sip : Frag → Sp := spSip
theorem ok__law_sip (Z : Zs cks fns K mg) : FnOk PP w K mg base (L2.CX PP w) 2 (ga K "_law_sip") (fdAt K (ga K "_law_sip")) ["tank", "many"] (sp__law_sip K) := by
  refine L2.Fun.okX (u__law_sip Z) sc__law_sip (fun vs H Q E h => ?_) (fun cdv A outer s H vs Q E hr h => ?_)
  · obtain ⟨_, _, _, _, rfl, _⟩ := h
    rfl
  · obtain ⟨a, c, N, m, rfl, ⟨hT, hm, hs, hq⟩⟩ := h
    refine ⟨_, (C8.pss_cut (ps_while (passes_of rfl) (PW.pt (pw_and (pt_cmpR (op_neD hr.units) (pe_ix ix_list (pv 0) pe_int (fun _ _ => rfl)) (pe_lst pa_nil) (nomark _)) (pw_and1 (pt_cmpR op_lt (pe_ix ix_list (pe_ix ix_list (pv 0) pe_int (fun _ _ => rfl)) pe_int (fun _ _ => rfl)) pe_int (nomark _)))))
        (pss_one (ps_expr (pe_bm PySem.F.plainAttrs_list PySem.F.slot_list_pop PySem.F.type_list_pop mt_popAt (pe_ix ix_list (pv 0) pe_int (fun _ _ => rfl)) (pa_cons pe_int pa_nil)))))
      (pss_cons (ps_if (pt_cmpR (op_neD hr.units) (pe_ix ix_list (pv 0) pe_int (fun _ _ => rfl)) (pe_lst pa_nil) (nomark _))
        (pss_cons (ps_set (i := 2) sc__law_sip.nd rfl (Or.inl rfl) (pe_op op_mod (pe_ix ix_list (pe_ix ix_list (pv 0) pe_int (fun _ _ => rfl)) pe_int (fun _ _ => rfl)) (pv 1)))
      (pss_cons (ps_asg (pe_op op_fdivW (pe_ix ix_list (pe_ix ix_list (pv 0) pe_int (fun _ _ => rfl)) pe_int (fun _ _ => rfl)) (pv 1)) (pg_sub (pe_ix ix_list (pv 0) pe_int (fun _ _ => rfl)) pe_int set_list))
      (pss_one (ps_ret (pv 2)))))
        pss_nil)
      (pss_cons (ps_asg (pe_op op_add (pe_ix ix_list (pv 0) pe_int (fun _ _ => rfl)) pe_int) (pg_sub (pv 0) pe_int set_list))
      (pss_cons (ps_set (i := 3) sc__law_sip.nd rfl (Or.inl rfl) (pe_op op_add (pe_op op_mulW (pe_ix ix_list (pv 0) pe_int (fun _ _ => rfl)) (pe_ix ix_list (pv 0) pe_int (fun _ _ => rfl))) (pe_op op_mulW (pe_op op_mul pe_int (pe_ix ix_list (pv 0) pe_int (fun _ _ => rfl))) (pe_ix ix_list (pv 0) pe_int (fun _ _ => rfl)))))
      (pss_cons (ps_asg (pe_op op_mod (pe_op op_add (pv 3) (pe_op op_mul pe_int (pe_ix ix_list (pv 0) pe_int (fun _ _ => rfl)))) pe_int) (pg_sub (pv 0) pe_int set_list))
      (pss_cons (ps_set (i := 3) sc__law_sip.nd rfl (Or.inl rfl) (pe_op op_add (pe_op op_mulW (pe_ix ix_list (pv 0) pe_int (fun _ _ => rfl)) (pe_ix ix_list (pv 0) pe_int (fun _ _ => rfl))) (pe_op op_mul pe_int (pe_ix ix_list (pv 0) pe_int (fun _ _ => rfl)))))
      (pss_one (ps_ret (pe_op op_mod (pe_op op_fdivW (pe_op op_add (pe_op op_mulW (pe_ix ix_list (pv 0) pe_int (fun _ _ => rfl)) (pe_op op_pow pe_int pe_int)) (pe_op op_mod (pv 3) pe_int)) (pe_op op_pow pe_int pe_int)) (pv 1)))))))))), ?_⟩
    have nac := hT.ne
    obtain ⟨ds, m0, n, h1, h2, h3, h4, h5, h6, h7⟩ := hT
    refine ⟨fun σ H1 => ∃ (es : List Int), σ = [some (.ref a), some (.int m), none, none] ∧ Ext (tkM a c) H H1 ∧ H1 a = some (.lst [.ref c, .int m0, .int n]) ∧ H1 c = some (.lst (es.map V.int)) ∧ es.length ≤ 100, ?_, ?_⟩
    · refine ⟨fun k σ H1 => ∃ (es : List Int), k = es.length ∧ σ = [some (.ref a), some (.int m), none, none] ∧ Ext (tkM a c) H H1 ∧ H1 a = some (.lst [.ref c, .int m0, .int n]) ∧ H1 c = some (.lst (es.map V.int)) ∧ es.length ≤ 100,
        ⟨_, ds, rfl, rfl, Ext.refl, h1, h2, h3⟩, ?_⟩
      rintro k σ H1 ⟨es, rfl, rfl, x1, e1, e2, l1⟩
      refine ⟨_, rfl, a, _, _, _, rfl, rfl, SqL.of e1, at0, Nat.zero_le _, fun p hp => ?_⟩
      have npa : a ≠ p := ne_of_none e1 hp
      have npc : c ≠ p := ne_of_none e2 hp
      refine ⟨.list (es.map PyData.int), .list [], .lst (SqL.of (by rw [upd_ne npc]; exact e2)) (dpAll_ints es), .lst (SqL.of upd_same) .nil, shaped_ints es, by decide, _, rfl, ?_⟩
      have xp : Ext (tkM a c) H (upd H1 p (.lst [])) := x1.trans (Ext.new hp)
      cases es with
      | nil => exact iteF ⟨[], rfl, xp, by rw [upd_ne npa]; exact e1, by rw [upd_ne npc]; exact e2, l1⟩
      | cons d r =>
        refine iteT ?_
        have ea : (upd H1 p (.lst [])) a = some (.lst [.ref c, .int m0, .int n]) := by rw [upd_ne npa]; exact e1
        have ec : (upd H1 p (.lst [])) c = some (.lst ((d :: r).map V.int)) := by rw [upd_ne npc]; exact e2
        refine ⟨_, rfl, a, _, _, _, rfl, rfl, SqL.of ea, at0, c, _, _, _, rfl, rfl, SqL.of ec, at0, _, _, rfl, rfl, _, rfl, ifD (fun q => ?_) (fun q => ?_)⟩
        · refine ⟨_, fun _ _ h => h, ?_⟩
          refine ⟨_, rfl, a, _, _, _, rfl, rfl, SqL.of ea, at0, Or.inl ⟨rfl, _, SqL.of ec⟩, ?_⟩
          refine ⟨c, _, 0, 0, .int d, rfl, rfl, ec, by decide, by decide, sq0, rfl, ?_⟩
          refine ⟨r.length, Nat.lt_succ_self _, r, rfl, rfl, ?_, by rw [upd_ne nac, upd_ne npa]; exact e1, upd_same, Nat.le_trans (Nat.le_succ _) l1⟩
          exact fun b o nb e => by rw [upd_ne (fun z => nb (.inr z))]; exact xp b o nb e
        · exact ⟨d :: r, rfl, xp, by rw [upd_ne npa]; exact e1, by rw [upd_ne npc]; exact e2, l1⟩
    rintro σ H1 ⟨es, rfl, x1, e1, e2, l1⟩
    refine ⟨_, rfl, a, _, _, _, rfl, rfl, SqL.of e1, at0, Nat.zero_le _, fun p hp => ?_⟩
    have npa : a ≠ p := ne_of_none e1 hp
    have npc : c ≠ p := ne_of_none e2 hp
    have xp : Ext (tkM a c) H (upd H1 p (.lst [])) := x1.trans (Ext.new hp)
    refine ⟨.list (es.map PyData.int), .list [], .lst (SqL.of (by rw [upd_ne npc]; exact e2)) (dpAll_ints es), .lst (SqL.of upd_same) .nil, shaped_ints es, by decide, _, rfl, ?_⟩
    have a1 : (upd H1 p (.lst [])) a = some (.lst [.ref c, .int m0, .int n]) := by rw [upd_ne npa]; exact e1
    have c1 : (upd H1 p (.lst [])) c = some (.lst (es.map V.int)) := by rw [upd_ne npc]; exact e2
    revert a1 c1 xp
    generalize upd H1 p (.lst []) = H2
    intro xp a1 c1
    cases es with
    | cons d r =>
      refine iteT ?_
      refine ⟨_, rfl, a, _, _, _, rfl, rfl, SqL.of a1, at0, c, _, _, _, rfl, rfl, SqL.of c1, at0, _, rfl, _, _, rfl, rfl, (by show 0 < m; omega), ?_⟩
      refine ⟨_, rfl, a, _, _, _, rfl, rfl, SqL.of a1, at0, c, _, _, _, rfl, rfl, SqL.of c1, at0, _, rfl, _, _, rfl, rfl, hs.div (by omega) (by decide) (by decide), ?_⟩
      refine ⟨_, rfl, a, _, _, _, rfl, rfl, SqL.of a1, at0, c, _, 0, 0, rfl, rfl, c1, ix0, ?_⟩
      refine ⟨_, rfl, hq _ _ (Int.emod_nonneg _ (by omega)) (Int.emod_lt_of_pos _ (by omega)) ?_ ?_⟩
      · exact fun b o nb e => by rw [upd_ne (fun z => nb (.inr z))]; exact xp b o nb e
      · exact ⟨(d / m) :: r, m0, n, by rw [upd_ne nac]; exact a1, upd_same, l1, h4, h5, h6, by omega⟩
    | nil =>
      refine iteF ?_
      have sn : Sz 41 n := Sz.n40 h6 (by omega)
      have sn1 : Sz 41 (n + 1) := Sz.n40 (by omega) (by omega)
      have sm := Sz.m127 h4 h5
      -- tank[2] = tank[2] + 1
      refine ⟨_, rfl, a, _, _, _, rfl, rfl, SqL.of a1, rfl, _, _, rfl, rfl, _, rfl, a, _, 2, 2, rfl, rfl, a1, rfl, ?_⟩
      have x2 : Ext (tkM a c) H (upd H2 a (.lst [.ref c, .int m0, .int (n + 1)])) := fun b o nb e => by rw [upd_ne (fun z => nb (.inl z))]; exact xp b o nb e
      have c2 : (upd H2 a (.lst [.ref c, .int m0, .int (n + 1)])) c = some (.lst ([] : List V)) := by rw [upd_ne nac.symm]; exact c1
      have a2 : (upd H2 a (.lst [.ref c, .int m0, .int (n + 1)])) a = some (.lst [.ref c, .int m0, .int (n + 1)]) := upd_same
      -- mix = tank[1] * tank[1] + 30011 * tank[2] * tank[2]
      have s16 : Sz 16 30011 := Sz.of (by decide) (by decide)
      refine ⟨_, rfl, a, _, _, _, rfl, rfl, SqL.of a2, rfl, _, rfl, a, _, _, _, rfl, rfl, SqL.of a2, rfl, _, _, rfl, rfl, sm.cmul sm (by decide) (by decide) (by decide), _, rfl, a, _, _, _, rfl, rfl, SqL.of a2, rfl, _, _, rfl, rfl, Or.inl ⟨by decide, by decide⟩, _, rfl, a, _, _, _, rfl, rfl, SqL.of a2, rfl, _, _, rfl, rfl, (s16.mul sn1).cmul sn1 (by decide) (by decide) (by decide), _, _, rfl, rfl, ?_⟩
      -- tank[1] = (mix + 17 * tank[2]) % ..
      refine ⟨_, rfl, _, rfl, a, _, _, _, rfl, rfl, SqL.of a2, rfl, _, _, rfl, rfl, Or.inl ⟨by decide, by decide⟩, _, _, rfl, rfl, _, _, rfl, rfl, (by show (0 : Int) < M127; decide), _, rfl, a, _, 1, 1, rfl, rfl, a2, rfl, ?_⟩
      have g0 : 0 ≤ ((m0 * m0 + 30011 * (n + 1) * (n + 1) + 17 * (n + 1)) % M127) := Int.emod_nonneg _ (by decide)
      have g1 : ((m0 * m0 + 30011 * (n + 1) * (n + 1) + 17 * (n + 1)) % M127) < M127 := Int.emod_lt_of_pos _ (by decide)
      have sm1 := Sz.m127 g0 g1
      have x3 : Ext (tkM a c) H (upd (upd H2 a (.lst [.ref c, .int m0, .int (n + 1)])) a (.lst [.ref c, .int ((m0 * m0 + 30011 * (n + 1) * (n + 1) + 17 * (n + 1)) % M127), .int (n + 1)])) := fun b o nb e => by rw [upd_ne (fun z => nb (.inl z))]; exact x2 b o nb e
      have c3 : (upd (upd H2 a (.lst [.ref c, .int m0, .int (n + 1)])) a (.lst [.ref c, .int ((m0 * m0 + 30011 * (n + 1) * (n + 1) + 17 * (n + 1)) % M127), .int (n + 1)])) c = some (.lst ([] : List V)) := by rw [upd_ne nac.symm]; exact c2
      have a3 : (upd (upd H2 a (.lst [.ref c, .int m0, .int (n + 1)])) a (.lst [.ref c, .int ((m0 * m0 + 30011 * (n + 1) * (n + 1) + 17 * (n + 1)) % M127), .int (n + 1)])) a = some (.lst [.ref c, .int ((m0 * m0 + 30011 * (n + 1) * (n + 1) + 17 * (n + 1)) % M127), .int (n + 1)]) := upd_same
      -- mix = tank[1] * tank[1] + 50021 * tank[2]
      refine ⟨_, rfl, a, _, _, _, rfl, rfl, SqL.of a3, rfl, _, rfl, a, _, _, _, rfl, rfl, SqL.of a3, rfl, _, _, rfl, rfl, sm1.cmul sm1 (by decide) (by decide) (by decide), _, rfl, a, _, _, _, rfl, rfl, SqL.of a3, rfl, _, _, rfl, rfl, Or.inl ⟨by decide, by decide⟩, _, _, rfl, rfl, ?_⟩
      -- the draw
      have s38 : Sz 127 ((10 : Int) ^ (38 : Int).toNat) := Sz.of (by decide +kernel) (by decide +kernel)
      have s35 : Sz 36 ((2 : Int) ^ (35 : Int).toNat) := Sz.of (by decide +kernel) (by decide +kernel)
      refine ⟨_, rfl, a, _, _, _, rfl, rfl, SqL.of a3, rfl, _, _, rfl, rfl, ⟨by decide, by decide, by decide⟩, _, _, rfl, rfl, sm1.cmul s38 (by decide) (by decide) (by decide), _, rfl, _, _, rfl, rfl, (by show (0 : Int) < M127; decide), _, _, rfl, rfl, _, _, rfl, rfl, ⟨by decide, by decide, by decide⟩, _, _, rfl, rfl, s35.div (by decide +kernel) (by decide) (by decide), _, rfl, _, _, rfl, rfl, (by show 0 < m; omega), ?_⟩
      exact hq _ _ (Int.emod_nonneg _ (by omega)) (Int.emod_lt_of_pos _ (by omega)) x3 ⟨[], _, n + 1, a3, c3, by decide, g0, g1, by omega, by omega⟩
end
section
variable {w : World} {K : Frag} {mg : Str → Option Value} {base : Heap}
theorem mk_Net {K : Frag} {H : Hp} {Q : VK} {E : XK} {M : Addr → Prop} (hA : Alloc M H) (k : ∀ Y H', Same H H' → (∀ b, nM Y b → H b = none) → Nt K (MX M Y) H' Y [] [] → Gw M (MX M Y) H H' → Alloc (MX M Y) H' → Q (.ref Y.W) H') : sqc (rMake (ga K "Net") (sp_Net_init K) E) [] H Q := by
  rw [sqc_eq]
  intro p dx hp hdx hne
  obtain ⟨H1, e1⟩ : ∃ hh, hh = upd (upd H dx (.own p)) p (.ins (ga K "Net") dx []) := ⟨_, rfl⟩
  have s1 : Same H H1 := by
    rw [e1]
    intro b o e
    rw [upd_ne (fun z => by rw [z, hp] at e; cases e), upd_ne (fun z => by rw [z, hdx] at e; cases e)]
    exact e
  have o1 : H1 p = some (.ins (ga K "Net") dx []) := by rw [e1]; exact upd_same
  rw [← e1]
  refine ⟨p, dx, rfl, o1, fun S0 Mk0 H2 ne0 hS0 hM0 x2 o2 e2 e3 => ⟨rfl, ?_⟩⟩
  have s2 : Same H H2 := fun b o e => x2 b o (fun z => by rw [z, hp] at e; cases e) (s1 _ _ e)
  have fr : ∀ b, nM ⟨p, dx, S0, Mk0⟩ b → H b = none := fun b z => by
    rcases z with z | z | z
    · rw [z]
      exact hp
    · rw [z]
      exact Same.fin s1 hS0
    · rw [z]
      exact Same.fin s1 hM0
  obtain ⟨n9, g9, a9⟩ := Nt.mk2 (K := K) (X := ⟨p, dx, S0, Mk0⟩) (sts := []) (ms := []) (vs := []) hA s2 fr o2 e2 .nil e3 ne0
  exact k _ _ s2 fr n9 g9 a9

def sp__law_blank (K : Frag) : Sp := fun vs H Q E => ∃ (M : Addr → Prop), vs = [] ∧ Alloc M H ∧ ∀ O H', Same H H' → H O = none → Ow K (Ad O M) H' O [⟨[], [], []⟩] [] → Gw M (Ad O M) H H' → Alloc (Ad O M) H' → Q (.ref O) H'
theorem ok__law_blank (Z : Zs cks fns K mg) : FnOk PP w K mg base (L2.CX PP w) 1 (ga K "_law_blank") (fdAt K (ga K "_law_blank")) [] (sp__law_blank K) := by
  refine L2.Fun.okX (u__law_blank Z) sc__law_blank (fun vs H Q E h => ?_) (fun cdv A outer s H vs Q E hr h => ?_)
  · obtain ⟨_, rfl, _⟩ := h
    rfl
  · obtain ⟨M, rfl, ⟨hA, hq⟩⟩ := h
    refine ⟨_, (pss_one (ps_ret (pe_lst (pa_cons (pe_lst (pa_cons (pe_tup (pa_cons (pe_lst pa_nil) (pa_cons (pe_lst pa_nil) (pa_cons (pe_lst pa_nil) pa_nil)))) pa_nil)) (pa_cons (pe_lst pa_nil) pa_nil))))), ?_⟩
    refine ⟨(by show 0 ≤ sizeLine; decide), fun p1 h1 => ⟨(by show 0 ≤ sizeLine; decide), fun p2 h2 => ⟨(by show 0 ≤ sizeLine; decide), fun p3 h3 => ⟨(by show 3 ≤ sizeLine; decide), fun p4 h4 => ⟨(by show 1 ≤ sizeLine; decide), fun p5 h5 => ⟨(by show 0 ≤ sizeLine; decide), fun p6 h6 => ⟨(by show 2 ≤ sizeLine; decide), fun O hO => ?_⟩⟩⟩⟩⟩⟩⟩
    have z1 := Same.new (o := .lst []) h1
    have z2 := Same.new (o := .lst []) h2
    have z3 := Same.new (o := .lst []) h3
    have z4 := Same.new (o := .tup [.ref p1, .ref p2, .ref p3]) h4
    have z5 := Same.new (o := .lst [.ref p4]) h5
    have z6 := Same.new (o := .lst []) h6
    have z7 := Same.new (o := .lst [.ref p5, .ref p6]) hO
    have a1 := hA.same z1
    have a2 := a1.same z2
    have a3 := a2.same z3
    have a4 := a3.same z4
    have a5 := a4.same z5
    have a6 := a5.same z6
    have s6 := z1.trans (z2.trans (z3.trans (z4.trans (z5.trans z6))))
    have O0 : H O = none := Same.fin s6 hO
    have g : Gw M (Ad O M) H _ := ⟨fun b m => .inr m, fun b m => m.elim (fun z => .inr (by rw [z]; exact O0)) .inl, Ext.same (s6.trans z7)⟩
    have f : ∀ {p o}, upd (upd (upd (upd (upd (upd H p1 (.lst [])) p2 (.lst [])) p3 (.lst [])) p4 (.tup [.ref p1, .ref p2, .ref p3])) p5 (.lst [.ref p4])) p6 (.lst []) p = some o → ¬ M p → Fr (Ad O M) (upd (upd (upd (upd (upd (upd (upd H p1 (.lst [])) p2 (.lst [])) p3 (.lst [])) p4 (.tup [.ref p1, .ref p2, .ref p3])) p5 (.lst [.ref p4])) p6 (.lst [])) O (.lst [.ref p5, .ref p6])) p = some o := fun {p o} e n => by
      refine Fr.get (fun z => z.elim (fun y => ?_) n) (z7 _ _ e)
      rw [y, hO] at e
      cases e
    refine hq O _ (s6.trans z7) O0 ⟨⟨.ref p5, .ref p6, upd_same, ?_, ?_⟩, .inl rfl⟩ g (fun b m => ?_)
    · refine ⟨p5, [.ref p4], rfl, f (z6 _ _ upd_same) (a4.new h5), .cons ⟨p4, .ref p1, .ref p2, .ref p3, rfl, f (z6 _ _ (z5 _ _ upd_same)) (a3.new h4), ?_, ?_, ?_⟩ .nil⟩
      · exact ⟨p1, [], rfl, f (z6 _ _ (z5 _ _ (z4 _ _ (z3 _ _ (z2 _ _ upd_same))))) (hA.new h1), .nil⟩
      · exact ⟨p2, [], rfl, f (z6 _ _ (z5 _ _ (z4 _ _ (z3 _ _ upd_same)))) (a1.new h2), .nil⟩
      · exact ⟨p3, [], rfl, f (z6 _ _ (z5 _ _ (z4 _ _ upd_same))) (a2.new h3), .nil⟩
    · exact ⟨p6, [], rfl, f upd_same (a5.new h6), .nil⟩
    · rcases m with m | m
      · rw [m]
        exact ⟨_, upd_same, trivial⟩
      · exact a6.same z7 b m
theorem cl__law_blank {K : Frag} {H : Hp} {Q : VK} {E : XK} {M : Addr → Prop} (hA : Alloc M H) (k : ∀ O H', Same H H' → H O = none → Ow K (Ad O M) H' O [⟨[], [], []⟩] [] → Gw M (Ad O M) H H' → Alloc (Ad O M) H' → Q (.ref O) H') : sq (sp__law_blank K) [] H Q E := sqI ⟨M, rfl, hA, k⟩
def sp__law_seen (K : Frag) : Sp := fun vs H Q E => ∃ (M : Addr → Prop) (X : NA) (sts : List SO) (ms : List Int), vs = [.ref X.W] ∧ Nt K M H X sts ms ∧ Alloc M H ∧ sts.length ≤ 100000 ∧ ∀ l1 l2 l3 p H', Same H H' → H l1 = none → H l2 = none → H l3 = none → l1 ≠ l2 → l1 ≠ l3 → l2 ≠ l3 → H p = none → p ≠ l1 → p ≠ l2 → p ≠ l3 → H' p = some (.lst [.ref l1, .ref l2, .ref l3, .int (sts.length : Nat)]) → rp K (Fr M H') (.ref l1) (topS sts).t.a → rp K (Fr M H') (.ref l2) (topS sts).t.b → rp K (Fr M H') (.ref l3) (topS sts).t.c → Q (.ref p) H'
theorem ok__law_seen (Z : Zs cks fns K mg) : FnOk PP w K mg base (L2.CX PP w) 7 (ga K "_law_seen") (fdAt K (ga K "_law_seen")) ["net"] (sp__law_seen K) := by
  refine L2.Fun.okX (u__law_seen Z) sc__law_seen (fun vs H Q E h => ?_) (fun cdv A outer s H vs Q E hr h => ?_)
  · obtain ⟨_, _, _, _, rfl, _⟩ := h
    rfl
  · obtain ⟨M, X, sts, ms, rfl, ⟨hn, hA, hsz, hq⟩⟩ := h
    refine ⟨_, (pss_one (ps_ret (pe_lst (pa_cons (pe_meth0 (pv 0) (c_Net Z) (hm_Net_lines Z) (ok_Net_lines Z) (hr.mono (by decide)) (b_Net_lines Z) .nil passL) (pa_cons (pe_meth0 (pv 0) (c_Net Z) (hm_Net_wishes Z) (ok_Net_wishes Z) (hr.mono (by decide)) (b_Net_wishes Z) .nil passL) (pa_cons (pe_meth0 (pv 0) (c_Net Z) (hm_Net_fixed Z) (ok_Net_fixed Z) (hr.mono (by decide)) (b_Net_fixed Z) .nil passL) (pa_cons (pe_callB (call_lenO (len_Net Z) (ok_Net_len Z) (hr.mono (by decide)) (b_Net_len Z) passL) rfl (n_len Z) (by decide +kernel) (pa_cons (pv 0) pa_nil)) pa_nil))))))), ?_⟩
    refine ⟨_, rfl, X.W, X.dx, _, rfl, hn.o, nt_no, ⟨M, X, sts, ms, rfl, hn, hA, fun l1 H1 s1 n1 r1 => ?_⟩⟩
    have hn1 := hn.same s1
    have hA1 := hA.same s1
    refine ⟨_, rfl, X.W, X.dx, _, rfl, hn1.o, nt_no, ⟨M, X, sts, ms, rfl, hn1, hA1, fun l2 H2 s2 n2 r2 => ?_⟩⟩
    have hn2 := hn1.same s2
    have hA2 := hA1.same s2
    refine ⟨_, rfl, X.W, X.dx, _, rfl, hn2.o, nt_no, ⟨M, X, sts, ms, rfl, hn2, hA2, fun l3 H3 s3 n3 r3 => ?_⟩⟩
    have hn3 := hn2.same s3
    have hA3 := hA2.same s3
    refine ⟨_, rfl, X.W, X.dx, _, rfl, hn3.o, ⟨M, X, sts, ms, rfl, hn3, ⟨_, rfl, by omega, by omega⟩, (by show 4 ≤ sizeLine; decide), fun p hp => ?_⟩⟩
    have s4 := Same.new (o := .lst [.ref l1, .ref l2, .ref l3, .int (sts.length : Nat)]) hp
    obtain ⟨q1, v1, e1, f1, d1⟩ := id r1
    cases e1
    obtain ⟨q2, v2, e2, f2, d2⟩ := id r2
    cases e2
    obtain ⟨q3, v3, e3, f3, d3⟩ := id r3
    cases e3
    have f1 := Fr.sub _ _ f1
    have f2 := Fr.sub _ _ f2
    have f3 := Fr.sub _ _ f3
    have z12 : l1 ≠ l2 := fun z => by rw [← z, f1] at n2; cases n2
    have z13 : l1 ≠ l3 := fun z => by rw [← z, s2 _ _ f1] at n3; cases n3
    have z23 : l2 ≠ l3 := fun z => by rw [← z, f2] at n3; cases n3
    have y1 : p ≠ l1 := fun z => by rw [z, s3 _ _ (s2 _ _ f1)] at hp; cases hp
    have y2 : p ≠ l2 := fun z => by rw [z, s3 _ _ f2] at hp; cases hp
    have y3 : p ≠ l3 := fun z => by rw [z, f3] at hp; cases hp
    exact hq l1 l2 l3 p _ (s1.trans (s2.trans (s3.trans s4))) n1 (Same.fin s1 n2) (Same.fin (s1.trans s2) n3) z12 z13 z23 (Same.fin (s1.trans (s2.trans s3)) hp) y1 y2 y3 upd_same (Rep.up (Fr.same (s2.trans (s3.trans s4))) r1) (Rep.up (Fr.same (s3.trans s4)) r2) (Rep.up (Fr.same s4) r3)

theorem oh__law_seen (Z : Zs cks fns K mg) : FnE PP w K mg base (L2.CX PP w) 7 (ga K "_law_seen") (fdAt K (ga K "_law_seen")) ["net"] (fun _ _ _ => sp__law_seen K) := by
  refine Fw.Fun.okE (u__law_seen Z) sc__law_seen (fun ea cls d vs H Q E h => ?_) (fun cdv A outer s H vs Q E p cls d err hr h => ?_)
  · obtain ⟨_, _, _, _, rfl, _⟩ := h
    rfl
  · obtain ⟨M, X, sts, ms, rfl, ⟨hn, hA, hsz, hq⟩⟩ := h
    have hs := Has.pin (CX := L2.CX PP w) (P := PP) (w := w) (K := K) (mg := mg) (base := base) (N := ["net"]) (qual := "_law_seen") (scope := defScope s__law_seen) (f := (ga K "_law_seen")) (cd := cdv) (A := A) (outer := outer) (s := s) (H := H) (E := E) err
    refine ⟨_, (pss_one (ps_ret (pe_lst (pa_cons (pe_meth0E (pv 0) (c_Net Z) (hm_Net_lines Z) (oh_Net_lines Z) (hr.mono (by decide)) hs (b_Net_lines Z) passL) (pa_cons (pe_meth0E (pv 0) (c_Net Z) (hm_Net_wishes Z) (oh_Net_wishes Z) (hr.mono (by decide)) hs (b_Net_wishes Z) passL) (pa_cons (pe_meth0E (pv 0) (c_Net Z) (hm_Net_fixed Z) (oh_Net_fixed Z) (hr.mono (by decide)) hs (b_Net_fixed Z) passL) (pa_cons (pe_callB (call_lenOE (len_Net Z) (oh_Net_len Z) (hr.mono (by decide)) hs (b_Net_len Z) passL) rfl (n_len Z) (by decide +kernel) (pa_cons (pv 0) pa_nil)) pa_nil))))))), ?_⟩
    refine ⟨_, rfl, X.W, X.dx, _, rfl, hn.o, nt_no, ⟨M, X, sts, ms, rfl, hn, hA, fun l1 H1 s1 n1 r1 => ?_⟩⟩
    have hn1 := hn.same s1
    have hA1 := hA.same s1
    refine ⟨_, rfl, X.W, X.dx, _, rfl, hn1.o, nt_no, ⟨M, X, sts, ms, rfl, hn1, hA1, fun l2 H2 s2 n2 r2 => ?_⟩⟩
    have hn2 := hn1.same s2
    have hA2 := hA1.same s2
    refine ⟨_, rfl, X.W, X.dx, _, rfl, hn2.o, nt_no, ⟨M, X, sts, ms, rfl, hn2, hA2, fun l3 H3 s3 n3 r3 => ?_⟩⟩
    have hn3 := hn2.same s3
    have hA3 := hA2.same s3
    refine ⟨_, rfl, X.W, X.dx, _, rfl, hn3.o, ⟨M, X, sts, ms, rfl, hn3, ⟨_, rfl, by omega, by omega⟩, (by show 4 ≤ sizeLine; decide), fun p hp => ?_⟩⟩
    have s4 := Same.new (o := .lst [.ref l1, .ref l2, .ref l3, .int (sts.length : Nat)]) hp
    obtain ⟨q1, v1, e1, f1, d1⟩ := id r1
    cases e1
    obtain ⟨q2, v2, e2, f2, d2⟩ := id r2
    cases e2
    obtain ⟨q3, v3, e3, f3, d3⟩ := id r3
    cases e3
    have f1 := Fr.sub _ _ f1
    have f2 := Fr.sub _ _ f2
    have f3 := Fr.sub _ _ f3
    have z12 : l1 ≠ l2 := fun z => by rw [← z, f1] at n2; cases n2
    have z13 : l1 ≠ l3 := fun z => by rw [← z, s2 _ _ f1] at n3; cases n3
    have z23 : l2 ≠ l3 := fun z => by rw [← z, f2] at n3; cases n3
    have y1 : p ≠ l1 := fun z => by rw [z, s3 _ _ (s2 _ _ f1)] at hp; cases hp
    have y2 : p ≠ l2 := fun z => by rw [z, s3 _ _ f2] at hp; cases hp
    have y3 : p ≠ l3 := fun z => by rw [z, f3] at hp; cases hp
    exact hq l1 l2 l3 p _ (s1.trans (s2.trans (s3.trans s4))) n1 (Same.fin s1 n2) (Same.fin (s1.trans s2) n3) z12 z13 z23 (Same.fin (s1.trans (s2.trans s3)) hp) y1 y2 y3 upd_same (Rep.up (Fr.same (s2.trans (s3.trans s4))) r1) (Rep.up (Fr.same (s3.trans s4)) r2) (Rep.up (Fr.same s4) r3)
def sp__law_due (K : Frag) : Sp := fun vs H Q E => ∃ (M : Addr → Prop) (O : Addr) (ost : List TD) (om : List Int) (t : TD), vs = [.ref O] ∧ Ow K M H O ost om ∧ Alloc M H ∧ ost.getLast? = some t ∧ ∀ p v1 v2 v3 H', Same H H' → H p = none → H' p = some (.lst [v1, v2, v3, .int (((ost.length : Nat) : Int) - 1)]) → rp K (Fr M H') v1 t.a → rp K (Fr M H') v2 t.b → rp K (Fr M H') v3 t.c → Q (.ref p) H'
theorem ok__law_due (Z : Zs cks fns K mg) : FnOk PP w K mg base (L2.CX PP w) 1 (ga K "_law_due") (fdAt K (ga K "_law_due")) ["own"] (sp__law_due K) := by
  refine L2.Fun.okX (u__law_due Z) sc__law_due (fun vs H Q E h => ?_) (fun cdv A outer s H vs Q E hr h => ?_)
  · obtain ⟨_, _, _, _, _, rfl, _⟩ := h
    rfl
  · obtain ⟨M, O, ost, om, t, rfl, ⟨hw, hA, ht, hq⟩⟩ := h
    refine ⟨_, (pss_cons (ps_set (i := 1) sc__law_due.nd rfl (Or.inl rfl) (pe_ix ix_list (pe_ix ix_list (pv 0) pe_int (fun _ _ => rfl)) (pe_un un_neg pe_int) (fun _ _ => rfl)))
      (pss_one (ps_ret (pe_lst (pa_cons (pe_ix ix_tup (pv 1) pe_int (fun _ _ => rfl)) (pa_cons (pe_ix ix_tup (pv 1) pe_int (fun _ _ => rfl)) (pa_cons (pe_ix ix_tup (pv 1) pe_int (fun _ _ => rfl)) (pa_cons (pe_op op_sub (pe_callB call_len_seq rfl (n_len Z) (by decide +kernel) (pa_cons (pe_ix ix_list (pv 0) pe_int (fun _ _ => rfl)) pa_nil)) pe_int) pa_nil)))))))), ?_⟩
    obtain ⟨v, w, eO, ra, rb⟩ := hw.o
    obtain ⟨q, vs, e9, eq, pd⟩ := ra
    subst e9
    have eq := Fr.sub _ _ eq
    obtain ⟨u, eu, ru⟩ := pd_last pd ht
    obtain ⟨pt, a, b, c, e9, et, r1, r2, r3⟩ := ru
    subst e9
    have et := Fr.sub _ _ et
    refine ⟨_, rfl, O, _, 0, .ref q, rfl, rfl, SqL.of eO, at0, _, rfl, q, vs, -1, .ref pt, rfl, rfl, SqL.of eq, atI_last eu, ?_⟩
    refine ⟨_, rfl, pt, _, 0, a, rfl, rfl, SqT.of et, at0, ?_⟩
    refine ⟨_, rfl, pt, _, 1, b, rfl, rfl, SqT.of et, rfl, ?_⟩
    refine ⟨_, rfl, pt, _, 2, c, rfl, rfl, SqT.of et, rfl, ?_⟩
    refine ⟨_, rfl, O, _, 0, .ref q, rfl, rfl, SqL.of eO, at0, q, vs, rfl, .inl (SqL.of eq), _, _, rfl, rfl, (by show 4 ≤ sizeLine; decide), fun p hp => ?_⟩
    have s := Same.new (o := .lst [a, b, c, .int (((vs.length : Nat) : Int) - 1)]) hp
    exact hq p a b c _ s hp (by rw [← pd.length]; exact upd_same) (Rep.up (Fr.same s) r1) (Rep.up (Fr.same s) r2) (Rep.up (Fr.same s) r3)
def sp__law_put (K : Frag) : Sp := fun vs H Q E => ∃ (M : Addr → Prop) (O : Addr) (ost : List TD) (om : List Int) (t : TD) (a : V) (b : V) (c : V), vs = [.ref O, a, b, c] ∧ Ow K M H O ost om ∧ Alloc M H ∧ ost.length ≤ 10000 ∧ rp K (Fr M H) a t.a ∧ rp K (Fr M H) b t.b ∧ rp K (Fr M H) c t.c ∧ ∀ H', Ext (fun b => b = O) H H' → Alloc M H' → Ow K M H' O (ost ++ [t]) om → Q .non H'
theorem ok__law_put (Z : Zs cks fns K mg) : FnOk PP w K mg base (L2.CX PP w) 1 (ga K "_law_put") (fdAt K (ga K "_law_put")) ["own", "some", "wants", "fast"] (sp__law_put K) := by
  refine L2.Fun.okX (u__law_put Z) sc__law_put (fun vs H Q E h => ?_) (fun cdv A outer s H vs Q E hr h => ?_)
  · obtain ⟨_, _, _, _, _, _, _, _, rfl, _⟩ := h
    rfl
  · obtain ⟨M, O, ost, om, t, a, b, c, rfl, ⟨hw, hA, hl, r1, r2, r3, hq⟩⟩ := h
    refine ⟨_, (pss_one (ps_asg (pe_op op_cat (pe_ix ix_list (pv 0) pe_int (fun _ _ => rfl)) (pe_lst (pa_cons (pe_tup (pa_cons (pv 1) (pa_cons (pv 2) (pa_cons (pv 3) pa_nil)))) pa_nil))) (pg_sub (pv 0) pe_int set_list))), ?_⟩
    obtain ⟨v, w, eO, ra, rb⟩ := id hw.o
    obtain ⟨q, vs, e9, eq, pd⟩ := ra
    subst e9
    have eq := Fr.sub _ _ eq
    refine ⟨_, rfl, O, _, 0, .ref q, rfl, rfl, SqL.of eO, at0, _, rfl, _, rfl, _, rfl, (by show 3 ≤ sizeLine; decide), fun p1 h1 => ⟨(by show 1 ≤ sizeLine; decide), fun p2 h2 => ?_⟩⟩
    have s1 := Same.new (o := .tup [a, b, c]) h1
    have s2 := Same.new (o := .lst [.ref p1]) h2
    have a1 := hA.same s1
    have e1 : (upd (upd H p1 (.tup [a, b, c])) p2 (.lst [.ref p1])) p1 = some (.tup [a, b, c]) := s2 _ _ upd_same
    have e2 : (upd (upd H p1 (.tup [a, b, c])) p2 (.lst [.ref p1])) p2 = some (.lst [.ref p1]) := upd_same
    have n1 : ¬ M p1 := hA.new h1
    have n2 : ¬ M p2 := a1.new h2
    have s12 := s1.trans s2
    generalize upd (upd H p1 (.tup [a, b, c])) p2 (.lst [.ref p1]) = H2 at *
    refine ⟨q, p2, vs, [.ref p1], rfl, rfl, s12 _ _ eq, e2, ?_, fun p3 h3 => ?_⟩
    · rw [pd.length]
      exact Nat.le_trans (show ost.length + 1 ≤ 10001 by omega) (by decide)
    have a2 := hA.same s12
    have s3 := Same.new (o := .lst (vs ++ [.ref p1])) h3
    have e3 : (upd H2 p3 (.lst (vs ++ [.ref p1]))) p3 = some (.lst (vs ++ [.ref p1])) := upd_same
    have n3 : ¬ M p3 := a2.new h3
    generalize upd H2 p3 (.lst (vs ++ [.ref p1])) = H3 at *
    have s := s12.trans s3
    have up : Same (Fr M H) (Fr M H3) := Fr.same s
    have hw3 := hw.same s
    have r : rp K (Fr M H3) (.ref p3) (ost ++ [t]) := ⟨p3, _, rfl, Fr.get n3 e3, pd_app (Paired.mapP pd fun _ _ r => Rep.up up r) (.cons ⟨p1, a, b, c, rfl, Fr.get n1 (s3 _ _ e1), Rep.up up r1, Rep.up up r2, Rep.up up r3⟩ .nil)⟩
    obtain ⟨hw4, x4⟩ := hw3.set0 (s _ _ eO) r
    refine ⟨_, rfl, O, _, 0, 0, rfl, rfl, s _ _ eO, rfl, ?_⟩
    exact hq _ (fun b o n e => x4 b o n (s _ _ e)) ((hA.same s).wrM trivial) hw4
theorem cl__law_put {K : Frag} {H : Hp} {Q : VK} {E : XK} {M : Addr → Prop} {O : Addr} {ost : List TD} {om : List Int} {t : TD} {a b c : V} (hw : Ow K M H O ost om) (hA : Alloc M H) (hl : ost.length ≤ 10000) (r1 : rp K (Fr M H) a t.a) (r2 : rp K (Fr M H) b t.b) (r3 : rp K (Fr M H) c t.c) (k : ∀ H', Ext (fun b => b = O) H H' → Alloc M H' → Ow K M H' O (ost ++ [t]) om → Q .non H') : sq (sp__law_put K) [.ref O, a, b, c] H Q E := sqI ⟨M, O, ost, om, t, a, b, c, rfl, hw, hA, hl, r1, r2, r3, k⟩
end
section
variable {w : World} {K : Frag} {mg : Str → Option Value} {base : Heap}
/-- a state whose numbers are small enough to be shown -/
structure TFit (t : TD) : Prop where
  a : t.a.length ≤ 40
  b : t.b.length ≤ 80
  c : t.c.length ≤ 40
  fa : ∀ y ∈ t.a, Sz 1800 y.1 ∧ Sz 1800 y.2
  fb : ∀ n ∈ t.b, Sz 1800 n.e ∧ Sz 1800 n.a ∧ Sz 1800 n.r
  fc : ∀ y ∈ t.c, Sz 1800 y.1 ∧ Sz 1800 y.2
/-- what a net tells, as data -/
def seenD (t : TD) (n : Int) : PyData := .list [Dat.toD t.a, Dat.toD t.b, Dat.toD t.c, .int n]
theorem seen_fit {t : TD} {n : Int} (h : TFit t) (hn : Sz 1800 n) : Fit (seenD t n) := by
  have fa : Dat.fit 300000 t.a := ⟨2000, fun y hy => ⟨600, ⟨(h.fa y hy).1, by decide⟩, ⟨(h.fa y hy).2, by decide⟩, by decide⟩, by have := h.a; omega⟩
  have fb : Dat.fit 300000 t.b := ⟨2000, fun y hy => ⟨(h.fb y hy).1, (h.fb y hy).2.1, (h.fb y hy).2.2, by decide⟩, by have := h.b; omega⟩
  have fc : Dat.fit 300000 t.c := ⟨2000, fun y hy => ⟨600, ⟨(h.fc y hy).1, by decide⟩, ⟨(h.fc y hy).2, by decide⟩, by decide⟩, by have := h.c; omega⟩
  obtain ⟨a1, a2, a3⟩ := Dat.hfit fa
  obtain ⟨b1, b2, b3⟩ := Dat.hfit fb
  obtain ⟨c1, c2, c3⟩ := Dat.hfit fc
  have d1 := Dat.hdep t.a
  have d2 := Dat.hdep t.b
  have d3 := Dat.hdep t.c
  refine ⟨?_, ?_, ?_, ?_⟩
  · simp only [seenD, PyData.showable, PyData.showableAll, a1, b1, c1, decide_eq_true (hn.log (by decide) (by decide)), Bool.and_self]
  · simp only [seenD, PyData.hasDict, PyData.hasDictAll, a2, b2, c2, Bool.or_self]
  · simp only [seenD, PyData.depth, PyData.depthAll]
    have q1 : Dat.dep (List (Int × Int)) ≤ 10 := by decide
    have q2 : Dat.dep (List N3) ≤ 10 := by decide
    omega
  · simp only [seenD, wt, wtAll]
    omega
theorem seen_dp {K : Frag} {H : Hp} {p : Addr} {v1 v2 v3 : V} {t : TD} {n : Int} (h : H p = some (.lst [v1, v2, v3, .int n])) (r1 : rp K H v1 t.a) (r2 : rp K H v2 t.b) (r3 : rp K H v3 t.c) : Dp K H (.ref p) (seenD t n) :=
  .lst (SqL.of h) (.cons (Dat.dp r1) (.cons (Dat.dp r2) (.cons (Dat.dp r3) (.cons (.int _) .nil))))
theorem rep_sub {α : Type} [Rep α] {K : Frag} {M : Addr → Prop} {H : Hp} {v : V} {x : α} (r : rp K (Fr M H) v x) : rp K H v x := Rep.up Fr.sub r

def sp__law_same (K : Frag) : Sp := fun vs H Q E => ∃ (M : Addr → Prop) (X : NA) (sts : List SO) (ms : List Int) (O : Addr) (ost : List TD) (om : List Int), vs = [.ref X.W, .ref O] ∧ Nt K M H X sts ms ∧ Ow K M H O ost om ∧ Alloc M H ∧ ost.getLast? = some (topS sts).t ∧ ost.length = sts.length + 1 ∧ sts.length ≤ 100000 ∧ TFit (topS sts).t ∧ ∀ H', Same H H' → Q (.bl true) H'
theorem ok__law_same (Z : Zs cks fns K mg) : FnG PP w K mg base (L2.CX PP w) 9 (ga K "_law_same") (fdAt K (ga K "_law_same")) ["net", "own"] (sp__law_same K) := by
  refine Fw.Fun.okG (u__law_same Z) sc__law_same (fun vs H Q E h => ?_) (fun cdv A outer s H vs Q E hg hr h => ?_)
  · obtain ⟨_, _, _, _, _, _, _, rfl, _⟩ := h
    rfl
  · obtain ⟨M, X, sts, ms, O, ost, om, rfl, ⟨hn, hw, hA, ht, hlen, hsz, hf, hq⟩⟩ := h
    refine ⟨_, (pss_cons (ps_par (i := 2) (j := 3) rfl sc__law_same.nd rfl rfl (by decide) rfl rfl (pa_cons (pe_call (ok__law_seen Z) (hr.mono (by decide)) rfl (g__law_seen Z) (u__law_seen Z).kp (b__law_seen Z) .nil passL (pa_cons (pv 0) pa_nil)) (pa_cons (pe_call (ok__law_due Z) (hr.mono (by decide)) rfl (g__law_due Z) (u__law_due Z).kp (b__law_due Z) .nil passL (pa_cons (pv 1) pa_nil)) pa_nil)) rfl)
      (pss_cons (ps_if (pt_cmpR op_ne (pe_callB (call_reprD hg hr.units) rfl (n_repr Z) (by decide +kernel) (pa_cons (pv 2) pa_nil)) (pe_callB (call_reprD hg hr.units) rfl (n_repr Z) (by decide +kernel) (pa_cons (pv 3) pa_nil)) (nomark _))
        (pss_one (ps_ret pe_bl))
        pss_nil)
      (C8.pss_cut (ps_for (passes_of rfl) rfl (pi_list (pe_slice sl_list (pv 2) po_none (po_some pe_int))) (pg_name (i := 4) sc__law_same.nd rfl (Or.inl rfl))
        (pss_cons (ps_expr (pe_bm PySem.F.plainAttrs_list PySem.F.slot_list_append PySem.F.type_list_append mt_append (pv 4) (pa_cons (pe_tup (pa_cons pe_int (pa_cons pe_int pa_nil))) pa_nil)))
      (pss_one (ps_expr (pe_bm0 PySem.F.plainAttrs_list PySem.F.slot_list_reverse PySem.F.type_list_reverse mt_reverse (pv 4))))))
      (pss_one (ps_ret (pe_cmpR op_eq (pe_callB (call_reprD hg hr.units) rfl (n_repr Z) (by decide +kernel) (pa_cons (pe_call (ok__law_seen Z) (hr.mono (by decide)) rfl (g__law_seen Z) (u__law_seen Z).kp (b__law_seen Z) .nil passL (pa_cons (pv 0) pa_nil)) pa_nil)) (pe_callB (call_reprD hg hr.units) rfl (n_repr Z) (by decide +kernel) (pa_cons (pv 3) pa_nil)) (nomark _))))))), ?_⟩
    have szn : Sz 1800 ((sts.length : Nat) : Int) := Sz.le (by omega) (show ((sts.length : Nat) : Int) ≤ 100000 by omega) (Sz.of (by decide +kernel) (by decide +kernel))
    have fit := seen_fit hf szn
    refine ⟨_, rfl, ⟨M, X, sts, ms, rfl, hn, hA, hsz, fun l1 l2 l3 p H1 s1 n1 n2 n3 z12 z13 z23 np y1 y2 y3 ep r1 r2 r3 => ?_⟩⟩
    let M1 : Addr → Prop := fun b => M b ∨ b = l1 ∨ b = l2 ∨ b = l3
    obtain ⟨q1, vs1, e9, f1, d1⟩ := id r1
    cases e9
    obtain ⟨q2, vs2, e9, f2, d2⟩ := id r2
    cases e9
    obtain ⟨q3, vs3, e9, f3, d3⟩ := id r3
    cases e9
    have f1 := Fr.sub _ _ f1
    have f2 := Fr.sub _ _ f2
    have f3 := Fr.sub _ _ f3
    have g1 : Gw M M1 H H1 := ⟨fun b m => .inl m, fun b m => m.elim .inl fun z => .inr (z.elim (fun z => by rw [z]; exact n1) fun z => z.elim (fun z => by rw [z]; exact n2) fun z => by rw [z]; exact n3), Ext.same s1⟩
    have a1 : Alloc M1 H1 := fun b m => by
      rcases m with m | m | m | m
      · exact hA.same s1 b m
      · rw [m]
        exact ⟨_, f1, trivial⟩
      · rw [m]
        exact ⟨_, f2, trivial⟩
      · rw [m]
        exact ⟨_, f3, trivial⟩
    have hw1 : Ow K M1 H1 O ost om := hw.keep g1 (T := fun _ => False) (Ext.same s1) (fun z => z)
    refine ⟨_, rfl, ⟨M1, O, ost, om, (topS sts).t, rfl, hw1, a1, ht, fun d v1 v2 v3 H2 s2 nd ed t1 t2 t3 => ?_⟩⟩
    have el : (((ost.length : Nat) : Int) - 1) = ((sts.length : Nat) : Int) := by rw [hlen]; omega
    rw [el] at ed
    refine ⟨_, _, rfl, ?_⟩
    have hnl : ∀ b o, H2 b = some o → b ≠ l1 → b ≠ l2 → b ≠ l3 → True := fun _ _ _ _ _ _ => trivial
    refine ⟨_, rfl, p, seenD (topS sts).t (sts.length : Nat), rfl, seen_dp (s2 _ _ ep) (Rep.up s2 (rep_sub r1)) (Rep.up s2 (rep_sub r2)) (Rep.up s2 (rep_sub r3)), fit, ?_⟩
    refine ⟨_, rfl, d, seenD (topS sts).t (sts.length : Nat), rfl, seen_dp ed (rep_sub t1) (rep_sub t2) (rep_sub t3), fit, rfl, _, rfl, iteNS rfl ?_⟩
    let L : Addr → Prop := fun b => b = l1 ∨ b = l2 ∨ b = l3
    have LM : ∀ b, L b → M1 b := fun b z => .inr z
    have dl : ¬ L d := fun z => by
      rcases z with z | z | z
      · rw [z, f1] at nd; cases nd
      · rw [z, f2] at nd; cases nd
      · rw [z, f3] at nd; cases nd
    -- the changes
    refine ⟨fun σ H3 => ∃ z : Option V, σ = [some (.ref X.W), some (.ref O), some (.ref p), some (.ref d), z] ∧ Ext L H2 H3, ?_, ?_⟩
    · refine ⟨_, rfl, _, rfl, p, _, rfl, SqL.of (s2 _ _ ep), fun c hc => ?_⟩
      have ec0 : cutV [V.ref l1, .ref l2, .ref l3, .int (sts.length : Nat)] none (some 3) = [V.ref l1, .ref l2, .ref l3] := rfl
      rw [ec0]
      have sc := Same.new (o := .lst [V.ref l1, .ref l2, .ref l3]) hc
      have ec : (upd H2 c (.lst [V.ref l1, .ref l2, .ref l3])) c = some (.lst [V.ref l1, .ref l2, .ref l3]) := upd_same
      generalize upd H2 c (.lst [V.ref l1, .ref l2, .ref l3]) = H2c at *
      refine ⟨c, rfl, ⟨_, SqL.of ec⟩, ?_⟩
      have c1 : c ≠ l1 := fun z => by rw [z, s2 _ _ f1] at hc; cases hc
      have c2 : c ≠ l2 := fun z => by rw [z, s2 _ _ f2] at hc; cases hc
      have c3 : c ≠ l3 := fun z => by rw [z, s2 _ _ f3] at hc; cases hc
      have g1' := sc _ _ (s2 _ _ f1)
      have g2' := sc _ _ (s2 _ _ f2)
      have g3' := sc _ _ (s2 _ _ f3)
      have len1 : vs1.length ≤ 100 := by rw [d1.length]; exact Nat.le_trans hf.a (by decide)
      have len2 : vs2.length ≤ 100 := by rw [d2.length]; exact Nat.le_trans hf.b (by decide)
      have len3 : vs3.length ≤ 100 := by rw [d3.length]; exact Nat.le_trans hf.c (by decide)
      refine for_list (K := K) (a := c) (xs := [V.ref l1, .ref l2, .ref l3]) (fun i σ H3 => ∃ z : Option V, σ = [some (.ref X.W), some (.ref O), some (.ref p), some (.ref d), z] ∧ Ext L H2 H3 ∧ H3 c = some (.lst [V.ref l1, .ref l2, .ref l3]) ∧ ∀ l, L l → ∃ ys, H3 l = some (.lst ys) ∧ ys.length ≤ 100 + i) ⟨none, rfl, Ext.same sc, ec, fun l z => ?_⟩ (fun i σ H3 _ h => by obtain ⟨_, _, _, e, _⟩ := h; exact SqL.of e) ?_ ?_
      · rcases z with z | z | z
        · rw [z]; exact ⟨_, g1', len1⟩
        · rw [z]; exact ⟨_, g2', len2⟩
        · rw [z]; exact ⟨_, g3', len3⟩
      · rintro i v σ H3 hi ⟨z, rfl, x3, e3, h3⟩
        have i3 : i < 3 := (List.getElem?_eq_some_iff.mp hi).1
        obtain ⟨l, Ll, rfl⟩ : ∃ l, L l ∧ v = .ref l := by
          have := List.mem_of_getElem? hi
          simp only [List.mem_cons, List.not_mem_nil, or_false] at this
          rcases this with e | e | e
          · exact ⟨l1, .inl rfl, e⟩
          · exact ⟨l2, .inr (.inl rfl), e⟩
          · exact ⟨l3, .inr (.inr rfl), e⟩
        obtain ⟨ys, ey, ly⟩ := h3 l Ll
        have cl : c ≠ l := by
          rcases Ll with z | z | z <;> rw [z] <;> assumption
        refine ⟨_, rfl, .inl ⟨rfl, _, SqL.of ey⟩, (by show 2 ≤ sizeLine; decide), fun t htn => ?_⟩
        have s4 := Same.new (o := .tup [.int 0, .int 0]) htn
        have ey4 := s4 _ _ ey
        generalize upd H3 t (.tup [.int 0, .int 0]) = H4 at *
        refine ⟨l, ys, .ref t, rfl, rfl, ey4, Nat.lt_of_le_of_lt (show ys.length ≤ 1000 by omega) (by decide), ?_⟩
        refine ⟨_, rfl, .inl ⟨rfl, _, SqL.of upd_same⟩, l, _, rfl, rfl, upd_same, ?_⟩
        rw [upd_upd]
        refine ⟨_, rfl, fun b o n e => ?_, ?_, fun k Lk => ?_⟩
        · rw [upd_ne (fun z => n (by rw [z]; exact Ll))]
          exact s4 _ _ (x3 _ _ n e)
        · rw [upd_ne cl]
          exact s4 _ _ e3
        · by_cases q : k = l
          · rw [q]
            exact ⟨_, upd_same, by rw [List.length_reverse, List.length_append]; simp; omega⟩
          · rw [upd_ne q]
            obtain ⟨zs, ez, lz⟩ := h3 k Lk
            exact ⟨zs, s4 _ _ ez, by omega⟩
      · rintro σ H3 ⟨z, rfl, x3, _, _⟩
        exact ⟨z, rfl, x3⟩
    rintro σ H3 ⟨z, rfl, x3⟩
    have nL : ∀ b, L b → H b = none := fun b z => by
      rcases z with z | z | z
      · rw [z]; exact n1
      · rw [z]; exact n2
      · rw [z]; exact n3
    have s3 : Same H H3 := fun b o e => x3 b o (fun z => by rw [nL b z] at e; cases e) (s2 _ _ (s1 _ _ e))
    have up3 : Same (Fr M1 H2) (Fr M1 H3) := Fr.ext (Ext.sub LM x3)
    refine ⟨_, rfl, ⟨M, X, sts, ms, rfl, hn.same s3, hA.same s3, hsz, fun m1 m2 m3 p5 H5 s5 _ _ _ _ _ _ _ _ _ _ e5 k1 k2 k3 => ?_⟩⟩
    refine ⟨p5, seenD (topS sts).t (sts.length : Nat), rfl, seen_dp e5 (rep_sub k1) (rep_sub k2) (rep_sub k3), fit, ?_⟩
    have t1' := Rep.up s5 (rep_sub (Rep.up up3 t1))
    have t2' := Rep.up s5 (rep_sub (Rep.up up3 t2))
    have t3' := Rep.up s5 (rep_sub (Rep.up up3 t3))
    refine ⟨_, rfl, d, seenD (topS sts).t (sts.length : Nat), rfl, seen_dp (s5 _ _ (x3 _ _ dl ed)) t1' t2' t3', fit, rfl, ?_⟩
    rw [decide_eq_true rfl]
    exact hq _ (s3.trans s5)
theorem cl__law_same {K : Frag} {H : Hp} {Q : VK} {E : XK} {M : Addr → Prop} {X : NA} {sts : List SO} {ms : List Int} {O : Addr} {ost : List TD} {om : List Int} (hn : Nt K M H X sts ms) (hw : Ow K M H O ost om) (hA : Alloc M H) (ht : ost.getLast? = some (topS sts).t) (hlen : ost.length = sts.length + 1) (hsz : sts.length ≤ 100000) (hf : TFit (topS sts).t) (k : ∀ H', Same H H' → Q (.bl true) H') : sq (sp__law_same K) [.ref X.W, .ref O] H Q E := sqI ⟨M, X, sts, ms, O, ost, om, rfl, hn, hw, hA, ht, hlen, hsz, hf, k⟩
end
section
variable {w : World} {K : Frag} {mg : Str → Option Value} {base : Heap}
def CH : List Int := [1, 2, 6, 12, 60, 60 * 10 ^ (20 : Int).toNat]
theorem ch_pos : ∀ h ∈ CH, 1 ≤ h ∧ h ≤ 10 ^ 22 := by decide +kernel
theorem ch_div : ∀ h ∈ CH, ∀ g ∈ CH, h ∣ g ∨ g ∣ h := by decide +kernel
theorem ch_sub {h : Int} (m : h ∈ ([1, 2, 6, 6, 12, 60, 60 * 10 ^ (20 : Int).toNat] : List Int)) : h ∈ CH := by
  simp only [List.mem_cons, List.not_mem_nil, or_false] at m
  unfold CH
  simp only [List.mem_cons, List.not_mem_nil, or_false]
  rcases m with e | e | e | e | e | e | e
  · exact .inl e
  · exact .inr (.inl e)
  · exact .inr (.inr (.inl e))
  · exact .inr (.inr (.inl e))
  · exact .inr (.inr (.inr (.inl e)))
  · exact .inr (.inr (.inr (.inr (.inl e))))
  · exact .inr (.inr (.inr (.inr (.inr e))))
/-- a state of the law's -/
structure Gd (t : TD) : Prop where
  a40 : t.a.length ≤ 40
  b80 : t.b.length ≤ 80
  cc : t.c.length ≤ t.a.length
  fa : ∀ y ∈ t.a, y.1 ∈ CH ∧ 0 ≤ y.2 ∧ y.2 < 100
  fb : ∀ n ∈ t.b, 0 ≤ n.e ∧ n.e < 40 ∧ 0 ≤ n.a ∧ n.a < 40 ∧ 0 ≤ n.r ∧ n.r < 10 ^ 59
  fc : ∀ y ∈ t.c, 0 ≤ y.1 ∧ y.1 < 40 ∧ 0 ≤ y.2 ∧ y.2 < 10 ^ 22
theorem sz18 {z : Int} (h0 : 0 ≤ z) (h : z ≤ 10 ^ 59) : Sz 1800 z := Sz.le h0 h (Sz.of (by decide +kernel) (by decide +kernel))
theorem Gd.fit {t : TD} (h : Gd t) : TFit t := by
  have p22 : (10 : Int) ^ 22 ≤ 10 ^ 59 := by decide +kernel
  have p40 : (100 : Int) ≤ 10 ^ 59 := by decide +kernel
  refine ⟨h.a40, h.b80, Nat.le_trans h.cc h.a40, fun y hy => ?_, fun n hn => ?_, fun y hy => ?_⟩
  · obtain ⟨a, b, c⟩ := h.fa y hy
    obtain ⟨d, e⟩ := ch_pos _ a
    exact ⟨sz18 (by omega) (Int.le_trans e p22), sz18 b (Int.le_trans (by omega) p40)⟩
  · obtain ⟨a, b, c, d, e, f⟩ := h.fb n hn
    exact ⟨sz18 a (Int.le_trans (by omega) p40), sz18 c (Int.le_trans (by omega) p40), sz18 e (by omega)⟩
  · obtain ⟨a, b, c, d⟩ := h.fc y hy
    exact ⟨sz18 a (Int.le_trans (by omega) p40), sz18 c (Int.le_trans (Int.le_of_lt d) p22)⟩
theorem gd_blank : Gd ⟨[], [], []⟩ := ⟨by decide, by decide, by decide, (fun _ h => nomatch h), (fun _ h => nomatch h), (fun _ h => nomatch h)⟩
theorem Gd.add {t : TD} (h : Gd t) {e r : Int} (l : t.a.length < 40) (he : e ∈ CH) (h0 : 0 ≤ r) (h1 : r < 100) : Gd ⟨t.a ++ [(e, r)], t.b, t.c⟩ :=
  ⟨by simp; omega, h.b80, by have := h.cc; simp; omega, fun y hy => (List.mem_append.mp hy).elim (h.fa y) fun z => by rw [List.mem_singleton.mp z]; exact ⟨he, h0, h1⟩, h.fb, h.fc⟩
theorem Gd.wish {t : TD} (h : Gd t) {i j w : Int} (l : t.b.length < 80) (i0 : 0 ≤ i) (i1 : i < (t.a.length : Nat)) (j0 : 0 ≤ j) (j1 : j < (t.a.length : Nat)) (w0 : 0 ≤ w) (w1 : w < 10 ^ 59) : Gd ⟨t.a, t.b ++ [(⟨i, j, w⟩ : N3)], t.c⟩ :=
  ⟨h.a40, by simp; omega, h.cc, h.fa, fun y hy => (List.mem_append.mp hy).elim (h.fb y) fun z => by
    have := h.a40
    rw [List.mem_singleton.mp z]; exact ⟨i0, by show i < 40; omega, j0, by show j < 40; omega, w0, w1⟩, h.fc⟩
theorem Gd.fix {t : TD} (h : Gd t) {i d : Int} (l : t.c.length < t.a.length) (i0 : 0 ≤ i) (i1 : i < (t.a.length : Nat)) (d0 : 0 ≤ d) (d1 : d < 10 ^ 22) : Gd ⟨t.a, t.b, t.c ++ [(i, d)]⟩ :=
  ⟨h.a40, h.b80, by simp; omega, h.fa, h.fb, fun y hy => (List.mem_append.mp hy).elim (h.fc y) fun z => by
    have := h.a40
    rw [List.mem_singleton.mp z]; exact ⟨i0, by show i < 40; omega, d0, d1⟩⟩
theorem drop_len {α : Type} [Rep α] {xs : List α} {i : Int} (h0 : 0 ≤ i) (h1 : i < (xs.length : Nat)) : (cutX xs none (some i) ++ cutX xs (some (i + 1)) none).length ≤ xs.length := by
  obtain ⟨j, rfl⟩ : ∃ j : Nat, i = (j : Int) := ⟨i.toNat, by omega⟩
  rw [cutX_to (by omega), show ((j : Int) + 1) = ((j + 1 : Nat) : Int) by omega, cutX_from (by omega)]
  simp
  omega
theorem Gd.drop {t : TD} (h : Gd t) {i : Int} (i0 : 0 ≤ i) (i1 : i < (t.b.length : Nat)) : Gd ⟨t.a, cutX t.b none (some i) ++ cutX t.b (some (i + 1)) none, t.c⟩ :=
  ⟨h.a40, Nat.le_trans (drop_len i0 i1) h.b80, h.cc, h.fa, fun y hy => h.fb y ((List.mem_append.mp hy).elim cut_mem cut_mem), h.fc⟩
/-- lines without a fixed departure -/
def freeL (t : TD) : List Int := (rgI 0 t.a.length).filter fun s => decide (¬ s ∈ t.c.map fun y : Int × Int => y.1)
theorem freeL_mem {t : TD} {s : Int} (h : s ∈ freeL t) : 0 ≤ s ∧ s < (t.a.length : Nat) ∧ s ∉ t.c.map fun y : Int × Int => y.1 := by
  obtain ⟨a, b⟩ := List.mem_filter.mp h
  have := rgI_mem.mp a
  exact ⟨by omega, by omega, of_decide_eq_true b⟩
theorem pigeon : ∀ (n : Nat) (l : List Int), (∀ i : Nat, i < n → (i : Int) ∈ l) → n ≤ l.length
  | 0, _, _ => Nat.zero_le _
  | n + 1, l, h => by
    have m := h n (Nat.lt_succ_self n)
    have q := pigeon n (l.erase (n : Int)) fun i hi => by
      have := h i (by omega)
      exact (List.mem_erase_of_ne (by omega)).mpr this
    rw [List.length_erase_of_mem m] at q
    have := List.length_pos_of_mem m
    omega
theorem freeL_ne {t : TD} (h : t.c.length < t.a.length) : 1 ≤ (freeL t).length := by
  by_cases c : (freeL t).length = 0
  · have e := List.length_eq_zero_iff.mp c
    have q := pigeon t.a.length (t.c.map fun y : Int × Int => y.1) fun i hi => by
      by_cases m : (i : Int) ∈ t.c.map fun y : Int × Int => y.1
      · exact m
      · have : (i : Int) ∈ freeL t := List.mem_filter.mpr ⟨rgI_mem.mpr ⟨by omega, by omega⟩, decide_eq_true m⟩
        rw [e] at this
        cases this
    rw [List.length_map] at q
    omega
  · omega
theorem freeL_len (t : TD) : (freeL t).length ≤ t.a.length := by
  have := List.length_filter_le (fun s : Int => decide (¬ s ∈ t.c.map fun y : Int × Int => y.1)) (rgI 0 t.a.length)
  rw [rgI_len] at this
  exact this
/-- one state more, or none -/
def GRel (sts : List SO) (ost : List TD) (sts' : List SO) (ost' : List TD) : Prop := (sts' = sts ∧ ost' = ost) ∨ ∃ s, Gd s ∧ sts' = sts ++ [⟨s⟩] ∧ ost' = ost ++ [s]
theorem nw_sip {K : Frag} {M : Addr → Prop} {H : Hp} {a tc O : Addr} {X : NA} {N : Nat} {sts : List SO} {ms : List Int} {ost : List TD} {om : List Int} {m : Int} {Q : VK} {E : XK} (t : Nw K M a tc (N + 1) H X O sts ms ost om) (hm : 0 < m) (hs : Sz 4000 m)
    (k : ∀ v H', 0 ≤ v → v < m → Ext (opM a tc X O) H H' → Nw K M a tc N H' X O sts ms ost om → Q (.int v) H') : sp__law_sip K [.ref a, .int m] H Q E :=
  ⟨a, tc, N, m, rfl, t.t, hm, hs.mono (by decide), fun v H' g l x tk => let ⟨t', x'⟩ := t.tk x tk; k v H' g l x' t'⟩

end
section
variable {w : World} {K : Frag} {mg : Str → Option Value} {base : Heap}
theorem w1_cases (way : Int) (l : List (Int × Int)) : (way = 0 ∧ l.length < 40) ∨ (¬ way = 0 ∧ l = []) ∨ (¬ way = 0 ∧ l ≠ []) ∨ (way = 0 ∧ ¬ l.length < 40 ∧ l ≠ []) := by
  by_cases c : way = 0
  · by_cases d : l.length < 40
    · exact .inl ⟨c, d⟩
    · exact .inr (.inr (.inr ⟨c, d, fun z => d (by rw [z]; decide)⟩))
  · by_cases d : l = []
    · exact .inr (.inl ⟨c, d⟩)
    · exact .inr (.inr (.inl ⟨c, d⟩))
theorem w2_cases (way : Int) (c l : List (Int × Int)) : (way = 2 ∧ c.length < l.length) ∨ (way = 2 ∧ ¬ c.length < l.length) ∨ ¬ way = 2 := by
  by_cases h : way = 2
  · by_cases d : c.length < l.length
    · exact .inl ⟨h, d⟩
    · exact .inr (.inl ⟨h, d⟩)
  · exact .inr (.inr h)
theorem w3_cases (way : Int) (l : List N3) : (way = 3 ∧ l ≠ []) ∨ (way = 3 ∧ l = []) ∨ ¬ way = 3 := by
  by_cases h : way = 3
  · by_cases d : l = []
    · exact .inr (.inl ⟨h, d⟩)
    · exact .inl ⟨h, d⟩
  · exact .inr (.inr h)

end
section
variable {w : World} {K : Frag} {mg : Str → Option Value} {base : Heap}
/-- the law's own net is the net -/
structure CInv (sts : List SO) (ms : List Int) (ost : List TD) (om : List Int) : Prop where
  o : ost = (⟨[], [], []⟩ : TD) :: sts.map SO.t
  m : om = ms.map (fun i : Int => i + 1)
  g : ∀ s ∈ sts, Gd s.t
  p : ∀ i ∈ ms, 0 ≤ i
theorem CInv.start : CInv [] [] [⟨[], [], []⟩] [] := ⟨rfl, rfl, (fun _ h => nomatch h), (fun _ h => nomatch h)⟩
section
variable {sts sts' : List SO} {ms : List Int} {ost ost' : List TD} {om : List Int}
theorem CInv.len (h : CInv sts ms ost om) : ost.length = sts.length + 1 := by
  rw [h.o, List.length_cons, List.length_map]
theorem CInv.mlen (h : CInv sts ms ost om) : om.length = ms.length := by
  rw [h.m, List.length_map]
theorem CInv.last (h : CInv sts ms ost om) : ost.getLast? = some (topS sts).t := by
  rw [h.o]
  unfold topS
  cases e : sts.getLast? with
  | none =>
    rw [List.getLast?_eq_none_iff.mp e]
    rfl
  | some s =>
    have ne : sts ≠ [] := fun z => by rw [z] at e; cases e
    cases sts with
    | nil => exact absurd rfl ne
    | cons a l =>
      rw [List.map_cons, List.getLast?_cons_cons, ← List.map_cons, List.getLast?_map, e]
      rfl
theorem CInv.top (h : CInv sts ms ost om) : Gd (topS sts).t := by
  unfold topS
  cases e : sts.getLast? with
  | none => exact gd_blank
  | some s => exact h.g s (List.mem_of_getLast? e)
theorem CInv.grow (h : CInv sts ms ost om) (r : GRel sts ost sts' ost') : CInv sts' ms ost' om ∧ sts'.length ≤ sts.length + 1 := by
  rcases r with ⟨rfl, rfl⟩ | ⟨s, gs, rfl, rfl⟩
  · exact ⟨h, Nat.le_succ _⟩
  · refine ⟨⟨?_, h.m, fun z hz => ?_, h.p⟩, by simp⟩
    · rw [h.o, List.map_append]
      rfl
    · rcases List.mem_append.mp hz with q | q
      · exact h.g z q
      · rw [List.mem_singleton.mp q]
        exact gs
theorem CInv.undo (h : CInv sts ms ost om) (ne : sts ≠ []) : CInv sts.dropLast (ms.filter fun m => decide (m ≤ ((sts.length : Nat) : Int) - 1)) (cutX ost none (some (-1))) ((om.filter fun y : Int => decide (y ≤ ((cutX ost none (some (-1))).length : Nat))).map fun y : Int => y) := by
  have el : ((cutX ost none (some (-1))).length : Nat) = sts.length := by
    rw [cutX_init, List.length_dropLast, h.len]
    omega
  refine ⟨?_, ?_, fun s hs => h.g s (List.dropLast_subset _ hs), fun i hi => h.p i (List.mem_filter.mp hi).1⟩
  · rw [cutX_init, h.o, List.dropLast_cons_of_ne_nil (by simpa using ne), List.map_dropLast]
  · rw [el, h.m, List.filter_map, List.map_id']
    congr 1
    refine List.filter_congr fun i _ => ?_
    show decide (i + 1 ≤ ((sts.length : Nat) : Int)) = decide (i ≤ ((sts.length : Nat) : Int) - 1)
    exact decide_eq_decide.mpr ⟨fun z => by omega, fun z => by omega⟩
theorem CInv.mark (h : CInv sts ms ost om) : CInv sts (ms ++ [((sts.length : Nat) : Int)]) ost (om ++ ([((ost.length : Nat) : Int)] : List Int)) := by
  refine ⟨h.o, ?_, h.g, fun i hi => ?_⟩
  · rw [h.m, List.map_append, h.len]
    rfl
  · rcases List.mem_append.mp hi with q | q
    · exact h.p i q
    · rw [List.mem_singleton.mp q]
      omega
theorem CInv.back (h : CInv sts ms ost om) {i m : Int} (i0 : 0 ≤ i) (hm : atI ms i = some m) : CInv (cutX sts none (some m)) (cutX ms none (some (i + 1))) (cutX ost none (some (m + 1))) (cutX om none (some (i + 1))) := by
  have mm : m ∈ ms := by
    unfold atI at hm
    cases z : ixN ms.length i with
    | none => rw [z] at hm; cases hm
    | some j => rw [z] at hm; exact List.mem_of_getElem? hm
  have m0 := h.p m mm
  refine ⟨?_, ?_, fun s hs => h.g s (cut_mem hs), fun k hk => h.p k (cut_mem hk)⟩
  · obtain ⟨n, rfl⟩ : ∃ n : Nat, m = (n : Int) := ⟨m.toNat, by omega⟩
    rw [h.o]
    have tk : ∀ {α : Type} [Rep α] (l : List α), cutX l none (some (n : Int)) = l.take n := fun l => by
      by_cases c : n ≤ l.length
      · exact cutX_to c
      · unfold cutX
        rw [List.take_of_length_le (show l.length ≤ n by omega), show HT.sIx l.length 0 none = 0 from rfl, List.drop_zero, Nat.sub_zero]
        refine List.take_of_length_le ?_
        unfold HT.sIx
        simp
        split <;> omega
    have tk2 : ∀ (l : List TD), cutX l none (some ((n : Int) + 1)) = l.take (n + 1) := fun l => by
      by_cases c : n + 1 ≤ l.length
      · exact cutX_to (n := n + 1) c
      · unfold cutX
        rw [List.take_of_length_le (show l.length ≤ n + 1 by omega), show HT.sIx l.length 0 none = 0 from rfl, List.drop_zero, Nat.sub_zero]
        refine List.take_of_length_le ?_
        unfold HT.sIx
        simp
        split <;> omega
    rw [tk2]
    have tk3 : cutX sts none (some (n : Int)) = sts.take n := by
      by_cases c : n ≤ sts.length
      · exact cutX_to c
      · unfold cutX
        rw [List.take_of_length_le (show sts.length ≤ n by omega), show HT.sIx sts.length 0 none = 0 from rfl, List.drop_zero, Nat.sub_zero]
        refine List.take_of_length_le ?_
        unfold HT.sIx
        simp
        split <;> omega
    rw [tk3, List.take_succ_cons, List.map_take]
  · rw [h.m]
    unfold cutX
    rw [List.length_map, List.map_take, List.map_drop]
end
theorem atI_map1 {ms : List Int} {i m : Int} (h : atI ms i = some m) : atI (ms.map fun i : Int => i + 1) i = some (m + 1) := by
  unfold atI at h ⊢
  rw [List.length_map]
  cases z : ixN ms.length i with
  | none => rw [z] at h; cases h
  | some j =>
    rw [z] at h
    have h : ms[j]? = some m := h
    show (ms.map fun i : Int => i + 1)[j]? = _
    rw [List.getElem?_map, h]
    rfl
/-- a net whose lists are new ones -/
theorem Nw.re {K : Frag} {M M' : Addr → Prop} {H H' : Hp} {a tc O S' Mk' : Addr} {X : NA} {N : Nat} {sts sts' : List SO} {ms ms' : List Int} {ost : List TD} {om : List Int} (h : Nw K M a tc N H X O sts ms ost om) (g : Gw M M' H H') (al : Alloc M' H') (x : Ext (fun b => b = X.W) H H') (s0 : H S' = none) (m0 : H Mk' = none) (n : Nt K M' H' ⟨X.W, X.dx, S', Mk'⟩ sts' ms') :
    Nw K M' a tc N H' ⟨X.W, X.dx, S', Mk'⟩ O sts' ms' ost om ∧ Ext (opM a tc X O) H H' := by
  obtain ⟨ds, m, k, e1, e2, r⟩ := id h.t
  have f : ∀ b, nM ⟨X.W, X.dx, S', Mk'⟩ b → nM X b ∨ H b = none := fun b z => z.elim (fun z => .inl (.inl z)) fun z => z.elim (fun z => .inr (by rw [z]; exact s0)) fun z => .inr (by rw [z]; exact m0)
  have oe : H O ≠ none := fun z => by obtain ⟨v, w, e, _⟩ := h.w.o; rw [z] at e; cases e
  have ta : ∀ b, tkM a tc b → H b ≠ none := fun b z => by
    rcases z with z | z
    · rw [z, e1]; exact fun y => by cases y
    · rw [z, e2]; exact fun y => by cases y
  refine ⟨⟨⟨ds, m, k, x _ _ (fun z => h.d1 _ (.inl rfl) (.inl z)) e1, x _ _ (fun z => h.d1 _ (.inr rfl) (.inl z)) e2, r⟩, n, h.w.keep g x (fun z => h.d3 (.inl z)), al, fun b z => g.up b (h.subt b z), fun b z y => ?_, h.d2, fun y => ?_⟩, Ext.sub (fun b (z : b = X.W) => .inr (.inl (.inl z))) x⟩
  · rcases f b y with q | q
    · exact h.d1 b z q
    · exact ta b z q
  · rcases f O y with q | q
    · exact h.d3 q
    · exact oe q
theorem Nw.back {K : Frag} {M : Addr → Prop} {H H' : Hp} {a tc O p : Addr} {X : NA} {N : Nat} {sts : List SO} {ms : List Int} {ost : List TD} {om : List Int} (h : Nw K M a tc N H' X O sts ms ost om) (x : Ext (opM a tc X O) H H') (e : H' p = none) : H p = none := by
  cases q : H p with
  | none => rfl
  | some o =>
    have n := h.fin e
    rw [x _ _ n q] at e
    cases e
theorem w5_cases (way : Int) (l : List TD) : (way = 5 ∧ 1 < l.length) ∨ (way = 5 ∧ ¬ 1 < l.length) ∨ ¬ way = 5 := by
  by_cases h : way = 5
  · by_cases d : 1 < l.length
    · exact .inl ⟨h, d⟩
    · exact .inr (.inl ⟨h, d⟩)
  · exact .inr (.inr h)
theorem w7_cases (way : Int) (l : List Int) : (way = 7 ∧ l ≠ []) ∨ (way = 7 ∧ l = []) ∨ ¬ way = 7 := by
  by_cases h : way = 7
  · by_cases d : l = []
    · exact .inr (.inl ⟨h, d⟩)
    · exact .inl ⟨h, d⟩
  · exact .inr (.inr h)

end
section
variable {w : World} {K : Frag} {mg : Str → Option Value} {base : Heap}
def sp_Net_plan (K : Frag) : Sp := fun vs H Q E => ∃ (M : Addr → Prop) (X : NA) (sts : List SO) (ms : List Int), vs = [.ref X.W] ∧ (Nt K M H X sts ms) ∧ (Alloc M H) ∧ (M (tabAt K (ma K (ga K "Forest") "__init__"))) ∧ (LamX.TabS H (tabAt K (ma K (ga K "Forest") "__init__")) (Str.ofString "Forest.__init__.<locals>.<lambda>")) ∧ (PairsOk (topS sts).t.a) ∧ (WishOk ((topS sts).t.a.length : Nat) (topS sts).t.b) ∧ (FixOk (topS sts).t.a (topS sts).t.c) ∧ ∀ u H', Ext (fun b => b = tabAt K (ma K (ga K "Forest") "__init__")) H H' → LamX.TabS H' (tabAt K (ma K (ga K "Forest") "__init__")) (Str.ofString "Forest.__init__.<locals>.<lambda>") → rp K (Fr M H') u (planF (topS sts).t.a (topS sts).t.b (topS sts).t.c) → Q u H'
theorem ok_Net_plan (Z : Zs cks fns K mg) (TB : TbF K mg base (ma K (ga K "Forest") "__init__")) : FnOk PP w K mg base (L2.CX PP w) 16 (ma K (ga K "Net") "plan") (fdAt K (ma K (ga K "Net") "plan")) ["self"] (sp_Net_plan K) := by
  refine L2.Fun.okX (u_Net_plan Z) sc_Net_plan (fun vs H Q E h => ?_) (fun cdv A outer s H vs Q E hr h => ?_)
  · obtain ⟨_, _, _, _, rfl, _⟩ := h
    rfl
  · obtain ⟨M, X, sts, ms, rfl, ⟨hn, hA, hP, hT, ok1, ok2, ok3, hq⟩⟩ := h
    refine ⟨_, (pss_cons (ps_set (i := 1) sc_Net_plan.nd rfl (Or.inl rfl) (pe_meth0 (pv 0) (c_Net Z) (hm_Net_present Z) (okq (ok_Net_present Z)) (hr.mono (by decide)) (b_Net_present Z) .nil passL))
      (pss_one (ps_ret (pe_makeQ (pe_make (M_Plan Z) (okq (ok_Plan_init Z TB)) (hr.mono (by decide)) rfl (g_Plan Z) (b_Plan_init Z) .nil (passes_call (takes_of rfl rfl rfl rfl) (fun _ _ _ _ h => h)) (pa_cons (pe_callTy (crq call_list_of) rfl (n_list Z) (by decide +kernel) (pa_cons (pe_fld (pv 1) rfl) pa_nil)) (pa_cons (pe_callTy (crq call_list_of) rfl (n_list Z) (by decide +kernel) (pa_cons (pe_fld (pv 1) rfl) pa_nil)) (pa_cons (pe_callTy (crq call_list_of) rfl (n_list Z) (by decide +kernel) (pa_cons (pe_fld (pv 1) rfl) pa_nil)) pa_nil)))))))), ?_⟩
    refine ⟨_, rfl, X.W, X.dx, _, rfl, hn.o, nt_no, cl_Net_present hn hA fun u H1 s1 r => ?_⟩
    obtain ⟨p, dxs, va, vb, vc, rfl, e, ra, rb, rc⟩ := r
    
    have hA1 := hA.same s1
    have hT1 := tabS_same hT s1
    refine ⟨_, rfl, p, _, dxs, _, _, rfl, (Fr.sub _ _ e), c_State Z, na_State_all_lines Z, so_l, rd_lis hA1 ra fun v2 H2 s2 r2 => ?_⟩
    have e2 := Fr.same s2 _ _ e
    refine ⟨_, rfl, p, _, dxs, _, _, rfl, (Fr.sub _ _ e2), c_State Z, na_State_all_wishes Z, so_w, rd_lis (hA1.same s2) (Rep.up (Fr.same s2) rb) fun v3 H3 s3 r3 => ?_⟩
    have e3 := Fr.same s3 _ _ e2
    refine ⟨_, rfl, p, _, dxs, _, _, rfl, (Fr.sub _ _ e3), c_State Z, na_State_all_fixed Z, so_f, rd_lis ((hA1.same s2).same s3) (Rep.up (Fr.same (s2.trans s3)) rc) fun v4 H4 s4 r4 => ?_⟩
    have s14 := s1.trans (s2.trans (s3.trans s4))
    refine mk_Plan (hA.same s14) hP (tabS_same hT s14) (Rep.up (Fr.same (s3.trans s4)) r2) (Rep.up (Fr.same s4) r3) r4 ok1 ok2 ok3 fun u H5 x5 t5 r5 => ?_
    exact hq _ _ ((Ext.same s14).trans x5) t5 r5
theorem cl_Net_plan {K : Frag} {H : Hp} {Q : VK} {E : XK} {M : Addr → Prop} {X : NA} {sts : List SO} {ms : List Int} (hn : Nt K M H X sts ms) (hA : Alloc M H) (hP : M (tabAt K (ma K (ga K "Forest") "__init__"))) (hT : LamX.TabS H (tabAt K (ma K (ga K "Forest") "__init__")) (Str.ofString "Forest.__init__.<locals>.<lambda>")) (ok1 : PairsOk (topS sts).t.a) (ok2 : WishOk ((topS sts).t.a.length : Nat) (topS sts).t.b) (ok3 : FixOk (topS sts).t.a (topS sts).t.c) (k : ∀ u H', Ext (fun b => b = tabAt K (ma K (ga K "Forest") "__init__")) H H' → LamX.TabS H' (tabAt K (ma K (ga K "Forest") "__init__")) (Str.ofString "Forest.__init__.<locals>.<lambda>") → rp K (Fr M H') u (planF (topS sts).t.a (topS sts).t.b (topS sts).t.c) → Q u H') : sq (sp_Net_plan K) [.ref X.W] H Q E := sqI ⟨M, X, sts, ms, rfl, hn, hA, hP, hT, ok1, ok2, ok3, k⟩
end
section
variable {w : World} {K : Frag} {mg : Str → Option Value} {base : Heap}
/-- from one place of a net to a later one -/
structure Go (a tc O : Addr) (M M' : Addr → Prop) (H H' : Hp) (X X' : NA) : Prop where
  g : Gw M M' H H'
  e : Ext (opM a tc X O) H H'
  f : ∀ b, nM X' b → nM X b ∨ H b = none
section
variable {K : Frag} {a tc O P : Addr} {M M1 M2 M' : Addr → Prop} {H H1 H2 H' : Hp} {X X1 X2 X' Y : NA} {N N1 N2 N' : Nat} {sts sts1 sts2 : List SO} {ms ms1 ms2 : List Int} {ost ost1 ost2 : List TD} {om om1 om2 : List Int}
theorem Go.refl : Go a tc O M M H H X X := ⟨Gw.refl, Ext.refl, fun _ z => .inl z⟩
theorem Go.of (sub : ∀ b, opM a tc X O b → M b) (e : Ext (opM a tc X O) H H') : Go a tc O M M H H' X X := ⟨Gw.of (Ext.sub sub e), e, fun b z => .inl z⟩
theorem _root_.Fw.Nw.ex (t : Nw K M a tc N H X O sts ms ost om) : ∀ b, opM a tc X O b → H b ≠ none := fun b z y => by
  obtain ⟨o, e, _⟩ := t.al b (t.sub b z)
  rw [y] at e
  cases e
theorem Go.trans (t : Nw K M1 a tc N H1 X1 O sts ms ost om) (p : Go a tc O M M1 H H1 X X1) (q : Go a tc O M1 M2 H1 H2 X1 X2) : Go a tc O M M2 H H2 X X2 := by
  have back : ∀ b, H1 b = none → opM a tc X O b → nM X b := fun b z y => by
    rcases y with y | y | y
    · exact absurd z (t.ex b (.inl y))
    · exact y
    · exact absurd z (t.ex b (.inr (.inr y)))
  refine ⟨p.g.trans q.g, fun b o n e => ?_, fun b z => ?_⟩
  · refine q.e _ _ (fun z => ?_) (p.e _ _ n e)
    rcases z with z | z | z
    · exact n (.inl z)
    · rcases p.f b z with y | y
      · exact n (.inr (.inl y))
      · rw [y] at e
        cases e
    · exact n (.inr (.inr z))
  · rcases q.f b z with y | y
    · exact p.f b y
    · cases h : H b with
      | none => exact .inr rfl
      | some o =>
        by_cases c : opM a tc X O b
        · exact .inl (back b y c)
        · rw [p.e _ _ c h] at y
          cases y
/-- a list of our own is not touched -/
theorem nc_of {c : Addr} {o : HO} (nc : ¬ M c) (b : Nw K M a tc N H X O sts ms ost om) (ec : H c = some o) (go : Go a tc O M M' H H' X X') : ¬ opM a tc X' O c := fun q => by
  rcases q with q | q | q
  · exact nc (b.subt c q)
  · rcases go.f c q with y | y
    · exact nc (b.n.sub c y)
    · rw [ec] at y
      cases y
  · exact nc (q ▸ b.w.sub)
/-- another net -/
theorem _root_.Fw.Nw.other (h : Nw K M a tc N2 H Y P sts2 ms2 ost2 om2) (go : Go a tc O M M' H H' X X') (t' : Nw K M' a tc N' H' X' O sts ms ost om) (d : ∀ b, (nM Y b ∨ b = P) → ¬ (nM X b ∨ b = O)) : Nw K M' a tc N' H' Y P sts2 ms2 ost2 om2 := by
  have dd : ∀ b, (nM Y b ∨ b = P) → ¬ tkM a tc b → ¬ opM a tc X O b := fun b y n z => z.elim n fun z => d b y z
  have dp : ¬ tkM a tc P := h.d2
  exact ⟨t'.t, h.n.keep go.g go.e (fun b n => dd b (.inl n) fun z => h.d1 b z n), h.w.keep go.g go.e (dd P (.inr rfl) dp), t'.al, t'.subt, h.d1, h.d2, h.d3⟩
theorem dis_next (h : Nw K M a tc N2 H Y P sts2 ms2 ost2 om2) (go : Go a tc O M M' H H' X X') (d : ∀ b, (nM Y b ∨ b = P) → ¬ (nM X b ∨ b = O)) : ∀ b, (nM Y b ∨ b = P) → ¬ (nM X' b ∨ b = O) := fun b y z => by
  rcases z with z | z
  · rcases go.f b z with q | q
    · exact d b y (.inl q)
    · exact h.ex b (y.elim (fun y => .inr (.inl y)) fun y => .inr (.inr y)) q
  · exact d b y (.inr z)
theorem dis_sym (d : ∀ b, (nM Y b ∨ b = P) → ¬ (nM X b ∨ b = O)) : ∀ b, (nM X b ∨ b = O) → ¬ (nM Y b ∨ b = P) := fun b x y => d b y x
/-- a net of its own, added -/
theorem _root_.Fw.Nw.add (t : Nw K M a tc N H X O sts ms ost om) (g : Gw M M' H H') (s : Same H H') (al : Alloc M' H') : Nw K M' a tc N H' X O sts ms ost om :=
  ⟨t.t.same s, t.n.keep g (T := fun _ => False) (Ext.same s) (fun _ _ z => z), t.w.keep g (T := fun _ => False) (Ext.same s) (fun z => z), al, fun b z => g.up b (t.subt b z), t.d1, t.d2, t.d3⟩
end
theorem cutX_idem {α : Type} [Rep α] (l : List α) {k : Int} (h : 0 ≤ k) : cutX (cutX l none (some k)) none (some k) = cutX l none (some k) := by
  have tk : ∀ l : List α, cutX l none (some k) = l.take k.toNat := fun l => by
    unfold cutX
    rw [show HT.sIx l.length 0 none = 0 from rfl, List.drop_zero, Nat.sub_zero]
    unfold HT.sIx
    simp
    rw [if_neg (by omega)]
    omega
  rw [tk, tk, List.take_take, Nat.min_self]
theorem cutX_one {α : Type} [Rep α] (l : List α) {i : Int} (h : 0 ≤ i) (h1 : i < (l.length : Nat)) : (cutX l none (some (i + 1))).length = i.toNat + 1 := by
  obtain ⟨j, rfl⟩ : ∃ j : Nat, i = (j : Int) := ⟨i.toNat, by omega⟩
  rw [show ((j : Int) + 1) = ((j + 1 : Nat) : Int) by omega, cutX_to (by omega), List.length_take]
  omega
theorem atI_cut {l : List Int} {i x : Int} (h : 0 ≤ i) (e : atI l i = some x) : atI (cutX l none (some (i + 1))) i = some x := by
  obtain ⟨j, rfl⟩ : ∃ j : Nat, i = (j : Int) := ⟨i.toNat, by omega⟩
  have h1 : j < l.length := by
    unfold atI ixN at e
    rw [if_pos h] at e
    by_cases c : (j : Int) < (l.length : Nat)
    · omega
    · rw [if_neg c] at e
      cases e
  have e2 : l[j]? = some x := by
    have q := atI_nat (List.getElem?_eq_getElem h1)
    rw [q] at e
    rw [List.getElem?_eq_getElem h1]
    exact e
  rw [show ((j : Int) + 1) = ((j + 1 : Nat) : Int) by omega, cutX_to (by omega)]
  refine atI_nat ?_
  rw [List.getElem?_take, if_pos (by omega)]
  exact e2

def sp__law_refused (K : Frag) : Sp := fun vs H Q E => ∃ (M : Addr → Prop) (X : NA) (sts : List SO) (ms : List Int) (d : Int) (v : Int), vs = [.ref X.W, .int d, .int v] ∧ Nt K M H X sts ms ∧ Alloc M H ∧ (sts.length ≤ 100000) ∧ ((d = 0 ∧ 1 ≤ v ∧ (topS sts).t.a.length = 40 ∧ ∀ H', Same H H' → Q (.bl true) H') ∨ (d = 0 ∧ 1 ≤ v ∧ (topS sts).t.a.length < 40 ∧ (∀ y ∈ (topS sts).t.a, 1 ≤ y.1 ∧ (y.1 ∣ v ∨ v ∣ y.1)) ∧ ∀ H', Ext (nM X) H H' → Nt K M H' X (sts ++ [(⟨⟨(topS sts).t.a ++ [(v, 1)], (topS sts).t.b, (topS sts).t.c⟩⟩ : SO)]) ms → Alloc M H' → Q (.bl false) H') ∨ (¬ d = 0 ∧ (topS sts).t.a.length = 40 ∧ (topS sts).t.b.length = 80 ∧ ∀ H', Same H H' → Q (.bl true) H') ∨ (¬ d = 0 ∧ (topS sts).t.a.length = 40 ∧ (topS sts).t.b.length < 80 ∧ ∀ H', Ext (nM X) H H' → Nt K M H' X (sts ++ [(⟨⟨(topS sts).t.a, (topS sts).t.b ++ [(⟨0, 39, 5⟩ : N3)], (topS sts).t.c⟩⟩ : SO)]) ms → Alloc M H' → Q (.bl false) H'))
theorem ok__law_refused (Z : Zs cks fns K mg) : FnOk PP w K mg base (L2.CX PP w) 10 (ga K "_law_refused") (fdAt K (ga K "_law_refused")) ["net", "door", "headway"] (sp__law_refused K) := by
  refine L2.Fun.okX (u__law_refused Z) sc__law_refused (fun vs H Q E h => ?_) (fun cdv A outer s H vs Q E hr h => ?_)
  · obtain ⟨_, _, _, _, _, _, rfl, _⟩ := h
    rfl
  · obtain ⟨M, X, sts, ms, d, v, rfl, ⟨hn, hA, hsz, hq⟩⟩ := h
    refine ⟨_, (pss_cons (ps_try_only rfl rfl ⟨rfl, by decide, .inl (g_InvalidWishes Z)⟩ (takes_of rfl rfl rfl rfl) (fun W pn xe tk _ => (pss_one (ps_if (pt_cmpR op_eq (pv 1) pe_int (nomark _))
        (pss_one (ps_expr (pe_meth (pv 0) (c_Net Z) (hm_Net_add Z) (okq (ok_Net_add Z)) (hr.mono (by decide)) (b_Net_add Z) .nil (passW (n := 3) rfl tk) (pa_cons (pv 2) (pa_cons pe_int pa_nil)))))
        (pss_one (ps_expr (pe_meth (pv 0) (c_Net Z) (hm_Net_wish Z) (okq (ok_Net_wish Z)) (hr.mono (by decide)) (b_Net_wish Z) .nil (passW (n := 3) rfl tk) (pa_cons pe_int (pa_cons pe_int (pa_cons pe_int pa_nil)))))))))
        (fun a oe cls d pn hz hf => (pss_one (ps_ret pe_bl))))
      (pss_one (ps_ret pe_bl))), ?_⟩
    rcases hq with ⟨hd, hv, h40, hq⟩ | ⟨hd, hv, h40, hy, hq⟩ | ⟨hd, h40, h80, hq⟩ | ⟨hd, h40, h80, hq⟩
    · refine ⟨_, rfl, rfl, _, rfl, ifT (congrArg V.int hd) ?_⟩
      refine ⟨_, rfl, X.W, X.dx, _, rfl, hn.o, nt_no, _, rfl, clx_Net_add_full hn hA hv (by decide) h40 fun H1 s1 => ?_⟩
      exact fun σ hσ => ⟨true, kf0 Z, fun _ ea hea => hq _ s1, fun q => nomatch q⟩
    · refine ⟨_, rfl, rfl, _, rfl, ifT (congrArg V.int hd) ?_⟩
      refine ⟨_, rfl, X.W, X.dx, _, rfl, hn.o, nt_no, _, rfl, cl_Net_add hn hA hsz hv (by decide) h40 hy fun H1 x1 n1 a1 => ?_⟩
      exact hq _ x1 n1 a1
    · refine ⟨_, rfl, rfl, _, rfl, ifFd (fun z => hd (V.int.inj z)) ?_⟩
      refine ⟨_, rfl, X.W, X.dx, _, rfl, hn.o, nt_no, clx_Net_wish_full hn hA (by decide) (by omega) (by decide) (by omega) (by decide) h80 fun H1 s1 => ?_⟩
      exact fun σ hσ => ⟨true, kf0 Z, fun _ ea hea => hq _ s1, fun q => nomatch q⟩
    · refine ⟨_, rfl, rfl, _, rfl, ifFd (fun z => hd (V.int.inj z)) ?_⟩
      refine ⟨_, rfl, X.W, X.dx, _, rfl, hn.o, nt_no, cl_Net_wish hn hA hsz (by decide) (by omega) (by decide) (by omega) (by decide) h80 fun H1 x1 n1 a1 => ?_⟩
      exact hq _ x1 n1 a1
theorem cl__law_refused {K : Frag} {H : Hp} {Q : VK} {E : XK} {M : Addr → Prop} {X : NA} {sts : List SO} {ms : List Int} {d v : Int} (hn : Nt K M H X sts ms) (hA : Alloc M H) (k : (sts.length ≤ 100000) ∧ ((d = 0 ∧ 1 ≤ v ∧ (topS sts).t.a.length = 40 ∧ ∀ H', Same H H' → Q (.bl true) H') ∨ (d = 0 ∧ 1 ≤ v ∧ (topS sts).t.a.length < 40 ∧ (∀ y ∈ (topS sts).t.a, 1 ≤ y.1 ∧ (y.1 ∣ v ∨ v ∣ y.1)) ∧ ∀ H', Ext (nM X) H H' → Nt K M H' X (sts ++ [(⟨⟨(topS sts).t.a ++ [(v, 1)], (topS sts).t.b, (topS sts).t.c⟩⟩ : SO)]) ms → Alloc M H' → Q (.bl false) H') ∨ (¬ d = 0 ∧ (topS sts).t.a.length = 40 ∧ (topS sts).t.b.length = 80 ∧ ∀ H', Same H H' → Q (.bl true) H') ∨ (¬ d = 0 ∧ (topS sts).t.a.length = 40 ∧ (topS sts).t.b.length < 80 ∧ ∀ H', Ext (nM X) H H' → Nt K M H' X (sts ++ [(⟨⟨(topS sts).t.a, (topS sts).t.b ++ [(⟨0, 39, 5⟩ : N3)], (topS sts).t.c⟩⟩ : SO)]) ms → Alloc M H' → Q (.bl false) H'))) : sq (sp__law_refused K) [.ref X.W, .int d, .int v] H Q E := sqI ⟨M, X, sts, ms, d, v, rfl, hn, hA, k⟩
end
section
variable {w : World} {K : Frag} {mg : Str → Option Value} {base : Heap}
theorem seen_zero {K : Frag} {H : Hp} {Q : VK} {p p1 p2 p3 q : Addr} {v1 v2 v3 : V} (e : H p = some (.lst [v1, v2, v3, .int ((([] : List SO).length : Nat) : Int)])) (r1 : rp K H v1 ([] : List (Int × Int))) (r2 : rp K H v2 ([] : List N3)) (r3 : rp K H v3 ([] : List (Int × Int)))
    (e1 : H p1 = some (.lst [])) (e2 : H p2 = some (.lst [])) (e3 : H p3 = some (.lst [])) (e4 : H q = some (.lst [.ref p1, .ref p2, .ref p3, .int 0])) (k : Q (.bl true) H) : sq2 (rEqD K) (.ref p) (.ref q) H Q := by
  rw [sq2_eq]
  refine ⟨.list [.list [], .list [], .list [], .int 0], .list [.list [], .list [], .list [], .int 0], .lst (SqL.of e) (.cons (Dat.dp r1) (.cons (Dat.dp r2) (.cons (Dat.dp r3) (.cons (.int _) .nil)))), .lst (SqL.of e4) (.cons (.lst (SqL.of e1) .nil) (.cons (.lst (SqL.of e2) .nil) (.cons (.lst (SqL.of e3) .nil) (.cons (.int _) .nil)))), rfl, rfl, ?_⟩
  exact k
theorem sq_start {K : Frag} {H H1 : Hp} {a tc sa : Addr} {xs : List V} (h : SqL K H sa xs) (s : Same H H1) (na : H a = none) (nc : H tc = none) : SqL K (Fr (tkM a tc) H1) sa xs := by
  have z : Same H (Fr (tkM a tc) H1) := fun b o e => Fr.get (fun m => by
    rcases m with m | m
    · rw [m, na] at e
      cases e
    · rw [m, nc] at e
      cases e) (s _ _ e)
  exact z.seq h

def sp__law_undone (K : Frag) : Sp := fun vs H Q E => ∃ (M : Addr → Prop) (X : NA) (sts : List SO) (ms : List Int) (n : Int), vs = [.ref X.W, .int n] ∧ Nt K M H X sts ms ∧ Alloc M H ∧ (ms.length ≤ 100000) ∧ (sts.length ≤ 8000) ∧ (n = (sts.length : Nat)) ∧ ∀ M' H', Gw M M' H H' → Alloc M' H' → Ext (nM X) H H' → Q (.bl true) H'
theorem ok__law_undone (Z : Zs cks fns K mg) : FnOk PP w K mg base (L2.CX PP w) 12 (ga K "_law_undone") (fdAt K (ga K "_law_undone")) ["net", "many"] (sp__law_undone K) := by
  refine L2.Fun.okX (u__law_undone Z) sc__law_undone (fun vs H Q E h => ?_) (fun cdv A outer s H vs Q E hr h => ?_)
  · obtain ⟨_, _, _, _, _, rfl, _⟩ := h
    rfl
  · obtain ⟨M, X, sts, ms, n, rfl, ⟨hn, hA, hmz, hsz, hln, hq⟩⟩ := h
    refine ⟨_, (C8.pss_cut (ps_for (passes_of rfl) rfl (pi_range1 rfl (n_range Z) (pa_cons (pv 1) pa_nil)) (pg_name (i := 2) sc__law_undone.nd rfl (Or.inl rfl))
        (pss_cons (ps_if (pt_cmpR op_ne (pe_callB (call_lenO (len_Net Z) (ok_Net_len Z) (hr.mono (by decide)) (b_Net_len Z) passL) rfl (n_len Z) (by decide +kernel) (pa_cons (pv 0) pa_nil)) (pe_op op_sub (pv 1) (pv 2)) (nomark _))
        (pss_one (ps_ret pe_bl))
        pss_nil)
      (pss_one (ps_expr (pe_meth0 (pv 0) (c_Net Z) (hm_Net_undo Z) (okq (ok_Net_undo Z)) (hr.mono (by decide)) (b_Net_undo Z) .nil passL)))))
      (pss_cons (ps_try_only rfl rfl ⟨rfl, by decide, .inl (g_NothingToUndo Z)⟩ (takes_of rfl rfl rfl rfl) (fun W pn xe tk _ => (pss_one (ps_expr (pe_meth0S (pv 0) (c_Net Z) (hm_Net_undo Z) (okq (ok_Net_undo Z)) (hr.mono (by decide)) (b_Net_undo Z) (passAt tk)))))
        (fun a oe cls d pn hz hf => (pss_one (ps_ret (pe_cmpR (show OpR _ (compareOp .Eq) (sq2 (rEqD K)) from opq (op_eqD hr.units)) (pe_callE (oh__law_seen Z) ⟨(hr.mono (j := 7) (by decide)).dp, (hr.mono (j := 7) (by decide)).un⟩ (Has.suite hz hf) rfl (g__law_seen Z) (u__law_seen Z).kp (b__law_seen Z) passL (pa_cons (pv 0) pa_nil)) (pe_lstQ (pe_lst (pa_cons (pe_lstQ (pe_lst pa_nil)) (pa_cons (pe_lstQ (pe_lst pa_nil)) (pa_cons (pe_lstQ (pe_lst pa_nil)) (pa_cons pe_int pa_nil)))))) (nomark _))))))
      (pss_one (ps_ret pe_bl)))), ?_⟩
    refine ⟨fun σ H1 => ∃ (z : Option V) (M' : Addr → Prop) (S' Mk' : Addr) (sts' : List SO) (ms' : List Int), σ = [some (.ref X.W), some (.int n), z] ∧ Gw M M' H H1 ∧ Alloc M' H1 ∧ Ext (nM X) H H1 ∧ Nt K M' H1 ⟨X.W, X.dx, S', Mk'⟩ sts' ms' ∧ ms'.length ≤ 100000 ∧ sts'.length = sts.length - n.toNat, ?_, ?_⟩
    · refine ⟨_, rfl, _, rfl, (by omega), (by omega), ?_⟩
      refine for_range (lo := 0) (n := n.toNat) (fun k σ H1 => ∃ (z : Option V) (M' : Addr → Prop) (S' Mk' : Addr) (sts' : List SO) (ms' : List Int), σ = [some (.ref X.W), some (.int n), z] ∧ Gw M M' H H1 ∧ Alloc M' H1 ∧ Ext (nM X) H H1 ∧ Nt K M' H1 ⟨X.W, X.dx, S', Mk'⟩ sts' ms' ∧ ms'.length ≤ 100000 ∧ sts'.length = sts.length - k) ⟨_, M, X.S, X.Mk, sts, ms, rfl, Gw.refl, hA, Ext.refl, hn, hmz, (Nat.sub_zero _).symm⟩ ?_ ?_
      · rintro k σ H1 hk ⟨z, M', S', Mk', sts', ms', rfl, g1, a1, x1, n1, m1, l1⟩
        have hk2 : k < n.toNat := hk
        have ne : sts' ≠ [] := fun z => by
          rw [z] at l1
          have e : ([] : List SO).length = 0 := rfl
          omega
        refine ⟨_, rfl, X.W, X.dx, _, rfl, n1.o, M', ⟨X.W, X.dx, S', Mk'⟩, sts', ms', rfl, n1, ⟨_, rfl, by omega, by omega⟩, ?_⟩
        refine ⟨_, rfl, _, rfl, _, _, rfl, rfl, rfl, _, rfl, iteNS (congrArg V.int (by omega)) ?_⟩
        refine ⟨_, rfl, X.W, X.dx, _, rfl, n1.o, nt_no, cl_Net_undo (X := ⟨X.W, X.dx, S', Mk'⟩) n1 a1 m1 (.inr ⟨ne, fun M6 S6 K6 H6 g6 a6 x6 s6 m6 n6 => ?_⟩)⟩
        exact ⟨_, M6, S6, K6, _, _, rfl, g1.trans g6, a6, x1.trans (Ext.sub (fun b z => .inl z) x6), n6, Nat.le_trans (List.length_filter_le _ _) m1, by rw [List.length_dropLast]; omega⟩
      · rintro σ H1 h
        exact h
    rintro σ H1 ⟨z, M', S', Mk', sts', ms', rfl, g1, a1, x1, n1, m1, l1⟩
    have e0 : sts' = [] := List.length_eq_zero_iff.mp (by omega)
    subst e0
    refine ⟨_, rfl, X.W, X.dx, _, rfl, n1.o, nt_no, cl_Net_undo (X := ⟨X.W, X.dx, S', Mk'⟩) n1 a1 m1 (.inl ⟨rfl, fun H9 s9 => ?_⟩)⟩
    refine ⟨true, kf1 Z, fun _ ea hea => ?_, fun q => nomatch q⟩
    have hn1 := n1.same s9
    have hA1 := a1.same s9
    refine ⟨_, rfl, ⟨M', ⟨X.W, X.dx, S', Mk'⟩, [], ms', rfl, hn1, hA1, (by decide), fun l1 l2 l3 p H2 s2 n1 n2 n3 z12 z13 z23 np y1 y2 y3 ep r1 r2 r3 => ?_⟩⟩
    rw [sqc_eq]
    refine ⟨(by show 0 ≤ sizeLine; decide), fun p1 h1 => ⟨(by show 0 ≤ sizeLine; decide), fun p2 h2 => ⟨(by show 0 ≤ sizeLine; decide), fun p3 h3 => ⟨(by show 4 ≤ sizeLine; decide), fun p4 h4 => ?_⟩⟩⟩⟩
    have z1 := Same.new (o := .lst []) h1
    have z2 := Same.new (o := .lst []) h2
    have z3 := Same.new (o := .lst []) h3
    have z4 := Same.new (o := .lst [.ref p1, .ref p2, .ref p3, .int 0]) h4
    have zz := z1.trans (z2.trans (z3.trans z4))
    refine seen_zero (zz _ _ ep) (Rep.up (fun b o e => zz _ _ (Fr.sub _ _ e)) r1) (Rep.up (fun b o e => zz _ _ (Fr.sub _ _ e)) r2) (Rep.up (fun b o e => zz _ _ (Fr.sub _ _ e)) r3) (z4 _ _ (z3 _ _ (z2 _ _ upd_same))) (z4 _ _ (z3 _ _ upd_same)) (z4 _ _ upd_same) upd_same ?_
    have sA := s9.trans (s2.trans zz)
    exact hq M' _ (g1.trans (Gw.of (Ext.same sA))) (a1.same sA) (x1.trans (Ext.same sA))
theorem cl__law_undone {K : Frag} {H : Hp} {Q : VK} {E : XK} {M : Addr → Prop} {X : NA} {sts : List SO} {ms : List Int} {n : Int} (hn : Nt K M H X sts ms) (hA : Alloc M H) (hmz : ms.length ≤ 100000) (hsz : sts.length ≤ 8000) (hln : n = (sts.length : Nat)) (k : ∀ M' H', Gw M M' H H' → Alloc M' H' → Ext (nM X) H H' → Q (.bl true) H') : sq (sp__law_undone K) [.ref X.W, .int n] H Q E := sqI ⟨M, X, sts, ms, n, rfl, hn, hA, hmz, hsz, hln, k⟩
end
section
variable {w : World} {K : Frag} {mg : Str → Option Value} {base : Heap}
def sp__law_first_right (K : Frag) : Sp := fun vs H Q E => ∃ (M : Addr → Prop) (X : NA) (sts : List SO) (ms : List Int), vs = [.ref X.W] ∧ Nt K M H X sts ms ∧ Alloc M H ∧ ((topS sts).t.a.length = 40) ∧ ∀ H', Same H H' → Q (.bl true) H'
theorem ok__law_first_right (Z : Zs cks fns K mg) : FnOk PP w K mg base (L2.CX PP w) 10 (ga K "_law_first_right") (fdAt K (ga K "_law_first_right")) ["net"] (sp__law_first_right K) := by
  refine L2.Fun.okX (u__law_first_right Z) sc__law_first_right (fun vs H Q E h => ?_) (fun cdv A outer s H vs Q E hr h => ?_)
  · obtain ⟨_, _, _, _, rfl, _⟩ := h
    rfl
  · obtain ⟨M, X, sts, ms, rfl, ⟨hn, hA, h40, hq⟩⟩ := h
    refine ⟨_, (pss_cons (ps_set (i := 1) sc__law_first_right.nd rfl (Or.inl rfl) (pe_lstQ (pe_lst pa_nil)))
      (C8.pss_cut (ps_for (passes_of rfl) rfl (pi_range1 rfl (n_range Z) (pa_cons pe_int pa_nil)) (pg_name (i := 2) sc__law_first_right.nd rfl (Or.inl rfl))
        (pss_one (ps_box (ps_try_many rfl rfl (takes_of rfl rfl rfl rfl) (fun W pn xe tk _ => (pss_one (ps_if (pt_cmpR op_lt (pv 2) pe_int (nomark _))
        (pss_one (ps_expr (pe_methA (pv 0) (c_Net Z) (hm_Net_add Z) (okq (ok_Net_add Z)) (hr.mono (by decide)) (b_Net_add Z) (passAt tk) (pa_cons (pe_ix (ixq (show IxR _ (rIxL K) from ix_list)) (pe_lstQ (pe_lst (pa_cons pe_int (pa_cons pe_int pa_nil)))) (pv 2) (fun _ _ => rfl)) (pa_cons (pe_ix (ixq (show IxR _ (rIxL K) from ix_list)) (pe_lstQ (pe_lst (pa_cons pe_int (pa_cons (pe_un un_neg pe_int) pa_nil)))) (pv 2) (fun _ _ => rfl)) pa_nil)))))
        (pss_one (ps_expr (pe_methA (pv 0) (c_Net Z) (hm_Net_wish Z) (okq (ok_Net_wish Z)) (hr.mono (by decide)) (b_Net_wish Z) (passAt tk) (pa_cons pe_int (pa_cons pe_int (pa_cons pe_int pa_nil)))))))))
        (.cons ⟨rfl, by decide, .inl (g_InvalidLine Z)⟩ (fun a oe cls d pn hz hf => (pss_one (ps_expr (show PE _ _ (tBM K "list" (sqm rAppend) (tVar 1) (tCons (tC (V.str _)) tNil)) from pe_bm PySem.F.plainAttrs_list PySem.F.slot_list_append PySem.F.type_list_append (mtq mt_append) (pv 1) (pa_cons pe_str pa_nil)))))
        (.cons ⟨rfl, by decide, .inl (g_InvalidIndex Z)⟩ (fun a oe cls d pn hz hf => (pss_one (ps_expr (show PE _ _ (tBM K "list" (sqm rAppend) (tVar 1) (tCons (tC (V.str _)) tNil)) from pe_bm PySem.F.plainAttrs_list PySem.F.slot_list_append PySem.F.type_list_append (mtq mt_append) (pv 1) (pa_cons pe_str pa_nil)))))
        (.cons ⟨rfl, by decide, .inl (g_HeadwayError Z)⟩ (fun a oe cls d pn hz hf => (pss_one (ps_expr (show PE _ _ (tBM K "list" (sqm rAppend) (tVar 1) (tCons (tC (V.str _)) tNil)) from pe_bm PySem.F.plainAttrs_list PySem.F.slot_list_append PySem.F.type_list_append (mtq mt_append) (pv 1) (pa_cons pe_str pa_nil)))))
        .nil)))))))
      (pss_one (ps_ret (pe_cmpR (opq (op_eqD hr.units)) (pv 1) (pe_lstQ (pe_lst (pa_cons pe_str (pa_cons pe_str (pa_cons pe_str pa_nil))))) (nomark _)))))), ?_⟩
    obtain ⟨L3, hL3⟩ : ∃ L : List Str, L = [Str.ofString "line", Str.ofString "line", Str.ofString "index"] := ⟨_, rfl⟩
    refine rd_mut (K := K) (α := Str) hA fun F H1 hF s1 m1 f1 A1 => ?_
    refine ⟨fun σ H' => ∃ z, σ = [some (.ref X.W), some (.ref F), z] ∧ Same H H' ∧ Mu K (Ad F M) H' F L3 ∧ Alloc (Ad F M) H', ?_, ?_⟩
    · refine ⟨_, rfl, (by omega), (by omega), ?_⟩
      refine for_range (lo := 0) (n := (3 : Int).toNat) (fun k σ H' => ∃ z, σ = [some (.ref X.W), some (.ref F), z] ∧ Same H H' ∧ Mu K (Ad F M) H' F (L3.take k) ∧ Alloc (Ad F M) H') ⟨none, rfl, s1, (by rw [List.take_zero]; exact m1), A1⟩ ?_ ?_
      · rintro k σ H2 hk ⟨z, rfl, s2, m2, A2⟩
        have n2 := hn.same s2
        have a2 := hA.same s2
        have hk2 : k < 3 := hk
        refine boxI ?_
        by_cases c : k < 2
        · refine ⟨_, rfl, _, _, rfl, rfl, _, rfl, ifT (by omega) ?_⟩
          refine ⟨_, rfl, X.W, X.dx, _, rfl, n2.o, nt_no, ?_⟩
          refine sqcI (r := rLstD) ⟨(by show 2 ≤ sizeLine; decide), fun p3 h3 => ⟨_, rfl, ix_raw (SqL.of upd_same) (u := .int (if k = 0 then 0 else 4)) (atI_nn (by omega) ?_) ?_⟩⟩
          · rw [show (0 + (k : Int)).toNat = k by omega]
            match k, c with
            | 0, _ => rfl
            | 1, _ => rfl
          have s3 := Same.new (o := .lst [.int 0, .int 4]) h3
          generalize upd H2 p3 (.lst [.int 0, .int 4]) = H3 at *
          refine ⟨_, rfl, sqcI (r := rLstD) ⟨(by show 2 ≤ sizeLine; decide), fun p4 h4 => ⟨_, rfl, ix_raw (SqL.of upd_same) (u := .int (if k = 0 then 1 else -1)) (atI_nn (by omega) ?_) ?_⟩⟩⟩
          · rw [show (0 + (k : Int)).toNat = k by omega]
            match k, c with
            | 0, _ => rfl
            | 1, _ => rfl
          have s4 : Same H3 (upd H3 p4 (.lst [.int 1, .int (-1)])) := Same.new h4
          have s24 : Same H2 (upd H3 p4 (.lst [.int 1, .int (-1)])) := s3.trans s4
          refine clx_Net_add_line (n2.same s24) (a2.same s24) (fun z => by match k, c with | 0, _ => exact absurd z.1 (by decide) | 1, _ => exact absurd z.2 (by decide)) fun H5 s5 => ?_
          have s25 := s24.trans s5
          have m5 := m2.same s25
          refine ⟨true, kf2 Z, fun _ ea hea => ?_, fun q => nomatch q⟩
          refine ⟨_, rfl, m5.ty, rd_app m5 (.inl rfl) (A2.same s25) (show rp K _ (.str (Str.ofString "line")) (Str.ofString "line") from rfl) (by rw [List.length_take, hL3]; show _ < 1000000; omega) fun H6 m6 f6 x6 A6 => ?_⟩
          refine ⟨_, rfl, fun b o e => x6 _ _ (fun z => z.elim (fun z => by rw [z, hF] at e; cases e) fun z => z) (s25 _ _ (s2 _ _ e)), ?_, A6⟩
          have e : L3.take (k + 1) = L3.take k ++ [Str.ofString "line"] := by
            rw [hL3]
            match k, c with
            | 0, _ => rfl
            | 1, _ => rfl
          rw [e]
          exact m6
        · obtain rfl : k = 2 := by omega
          refine ⟨_, rfl, _, _, rfl, rfl, _, rfl, ifFd (by decide) ?_⟩
          refine ⟨_, rfl, X.W, X.dx, _, rfl, n2.o, nt_no, clx_Net_wish_index n2 a2 (by decide) (by omega) (fun z => by omega) fun H5 s5 => ?_⟩
          have m5 := m2.same s5
          refine ⟨false, kf3 Z, (fun q => nomatch q), fun _ => ⟨true, kf4 Z, fun _ ea hea => ?_, fun q => nomatch q⟩⟩
          refine ⟨_, rfl, m5.ty, rd_app m5 (.inl rfl) (A2.same s5) (show rp K _ (.str (Str.ofString "index")) (Str.ofString "index") from rfl) (by rw [List.length_take, hL3]; show _ < 1000000; omega) fun H6 m6 f6 x6 A6 => ?_⟩
          refine ⟨_, rfl, fun b o e => x6 _ _ (fun z => z.elim (fun z => by rw [z, hF] at e; cases e) fun z => z) (s5 _ _ (s2 _ _ e)), ?_, A6⟩
          have e : L3.take (2 + 1) = L3.take 2 ++ [Str.ofString "index"] := by
            rw [hL3]
            rfl
          rw [e]
          exact m6
      · rintro σ H2 ⟨z, rfl, s2, m2, A2⟩
        refine ⟨z, rfl, s2, ?_, A2⟩
        have e : L3.take (3 : Int).toNat = L3 := by rw [hL3]; rfl
        rw [e] at m2
        exact m2
    rintro σ H2 ⟨z, rfl, s2, m2, A2⟩
    refine ⟨_, rfl, rd_lst (K := K) (xs := L3) A2 (by decide) (by rw [hL3]; exact .cons rfl (.cons rfl (.cons rfl .nil))) fun v3 H3 s3 r3 => ?_⟩
    have m3 := m2.same s3
    refine rd_eq (m3.done (hA.new hF)) (Rep.up Fr.free r3) Fr.sub (by rw [hL3]; intro x hx; have h9 : x = Str.ofString "line" ∨ x = Str.ofString "index" := (by simpa using hx); rcases h9 with h9 | h9 <;> (rw [h9]; show PyData.strOk _ = true; decide +kernel)) (by rw [hL3]; intro x hx; have h9 : x = Str.ofString "line" ∨ x = Str.ofString "index" := (by simpa using hx); rcases h9 with h9 | h9 <;> (rw [h9]; show PyData.strOk _ = true; decide +kernel)) ?_
    rw [decide_eq_true rfl]
    exact hq _ (s2.trans s3)
theorem cl__law_first_right {K : Frag} {H : Hp} {Q : VK} {E : XK} {M : Addr → Prop} {X : NA} {sts : List SO} {ms : List Int} (hn : Nt K M H X sts ms) (hA : Alloc M H) (h40 : (topS sts).t.a.length = 40) (k : ∀ H', Same H H' → Q (.bl true) H') : sq (sp__law_first_right K) [.ref X.W] H Q E := sqI ⟨M, X, sts, ms, rfl, hn, hA, h40, k⟩
end
section
variable {w : World} {K : Frag} {mg : Str → Option Value} {base : Heap}
/-! ### k54: what net, own net and tank are between the law's rows -/
def CHs : List Int := [1, 4, 8, 24, 24 * 10 ^ 40]
theorem chs_pos : ∀ x ∈ CHs, 1 ≤ x ∧ x ≤ 10 ^ 59 := by decide +kernel
theorem chs_dvd : ∀ x ∈ CHs, ∀ y ∈ CHs, x ∣ y ∨ y ∣ x := by decide +kernel
structure D54 (t : TD) : Prop where
  a40 : t.a.length ≤ 40
  b80 : t.b.length ≤ 80
  fa : ∀ y ∈ t.a, y.1 ∈ CHs ∧ 0 ≤ y.2 ∧ y.2 < 10 ^ 20
  fb : ∀ n ∈ t.b, (0 ≤ n.e ∧ n.e < 40) ∧ (0 ≤ n.a ∧ n.a < 40) ∧ 0 ≤ n.r ∧ n.r < 10 ^ 20
  fc : FixOk t.a t.c
theorem sz54 {z : Int} (h0 : 0 ≤ z) (h : z ≤ 10 ^ 59) : Sz 1800 z := Sz.le h0 h (Sz.of (by decide +kernel) (by decide +kernel))
theorem p20 : (10 : Int) ^ 20 ≤ 10 ^ 59 := by decide +kernel
theorem D54.fit {t : TD} (h : D54 t) : TFit t := by
  have q20 := p20
  have q1 : (100 : Int) ≤ 10 ^ 59 := by decide +kernel
  have lc := fix_len h.fc
  have a40 := h.a40
  refine ⟨h.a40, h.b80, by omega, fun y hy => ?_, fun n hn => ?_, fun y hy => ?_⟩
  · obtain ⟨a, b, c⟩ := h.fa y hy
    obtain ⟨d, e⟩ := chs_pos _ a
    exact ⟨sz54 (by omega) e, sz54 b (by omega)⟩
  · obtain ⟨⟨a, b⟩, ⟨c, d⟩, e, f⟩ := h.fb n hn
    exact ⟨sz54 a (by omega), sz54 c (by omega), sz54 e (by omega)⟩
  · obtain ⟨⟨a, b⟩, c, d⟩ := h.fc.1 y hy
    obtain ⟨e, _⟩ := h.fa _ (lineAt_at a b).2
    have := (chs_pos _ e).2
    exact ⟨sz54 a (by omega), sz54 c (by omega)⟩
theorem D54.pairs {t : TD} (h : D54 t) (h1 : 1 ≤ t.a.length) : PairsOk t.a := by
  refine ⟨⟨h1, h.a40⟩, fun p hp => ?_, fun x hx y hy => ?_⟩
  · obtain ⟨a, b, _⟩ := h.fa p hp
    exact ⟨(chs_pos _ a).1, b⟩
  · obtain ⟨p, hp, rfl⟩ := List.mem_map.mp hx
    obtain ⟨q, hq, rfl⟩ := List.mem_map.mp hy
    exact chs_dvd _ (h.fa p hp).1 _ (h.fa q hq).1
theorem D54.wish {t : TD} (h : D54 t) (h40 : t.a.length = 40) : WishOk (t.a.length : Nat) t.b := by
  refine ⟨h.b80, fun n hn => ?_⟩
  obtain ⟨⟨a, b⟩, ⟨c, d⟩, e, _⟩ := h.fb n hn
  exact ⟨⟨a, by omega⟩, ⟨c, by omega⟩, e⟩
theorem d54_blank : D54 ⟨[], [], []⟩ := ⟨Nat.zero_le _, Nat.zero_le _, (fun _ h => nomatch h), (fun _ h => nomatch h), ⟨(fun _ h => nomatch h), .nil⟩⟩
/-- a line more: no line is fixed yet -/
theorem D54.line {t : TD} {h r : Int} (d : D54 t) (hc : t.c = []) (h40 : t.a.length < 40) (hh : h ∈ CHs) (r0 : 0 ≤ r) (r1 : r < 10 ^ 20) : D54 ⟨t.a ++ [(h, r)], t.b, []⟩ := by
  refine ⟨by simp; omega, d.b80, fun y hy => ?_, d.fb, ⟨(fun _ h => nomatch h), .nil⟩⟩
  rcases List.mem_append.mp hy with z | z
  · exact d.fa y z
  · rw [List.mem_singleton.mp z]
    exact ⟨hh, r0, r1⟩
theorem D54.fix {t : TD} {i v : Int} (d : D54 t) (i0 : 0 ≤ i) (i1 : i < (t.a.length : Nat)) (v0 : 0 ≤ v) (v1 : v < (lineAt t.a i).1) (nf : i ∉ t.c.map Prod.fst) : D54 ⟨t.a, t.b, t.c ++ [(i, v)]⟩ := by
  refine ⟨d.a40, d.b80, d.fa, d.fb, ⟨fun q hq => ?_, ?_⟩⟩
  · rcases List.mem_append.mp hq with z | z
    · exact d.fc.1 q z
    · rw [List.mem_singleton.mp z]
      exact ⟨⟨i0, i1⟩, v0, v1⟩
  · show ((t.c ++ [(i, v)]).map Prod.fst).Nodup
    rw [List.map_append]
    exact List.nodup_append.mpr ⟨d.fc.2, by simp, fun a ha b hb => by
      rw [show b = i by simpa using hb]
      intro z
      exact nf (by rw [← z]; exact ha)⟩
theorem D54.want {t : TD} {n : N3} (d : D54 t) (h80 : t.b.length < 80) (hn : (0 ≤ n.e ∧ n.e < 40) ∧ (0 ≤ n.a ∧ n.a < 40) ∧ 0 ≤ n.r ∧ n.r < 10 ^ 20) : D54 ⟨t.a, t.b ++ [n], t.c⟩ := by
  refine ⟨d.a40, by simp; omega, d.fa, fun m hm => ?_, d.fc⟩
  rcases List.mem_append.mp hm with z | z
  · exact d.fb m z
  · rw [List.mem_singleton.mp z]
    exact hn
theorem D54.drop {t : TD} {b : List N3} (d : D54 t) (hl : b.length ≤ 80) (hb : ∀ n ∈ b, n ∈ t.b) : D54 ⟨t.a, b, t.c⟩ := ⟨d.a40, hl, d.fa, fun n hn => d.fb n (hb n hn), d.fc⟩
structure J54 (K : Frag) (M : Addr → Prop) (P : Addr) (q : Str) (a tc : Addr) (N : Nat) (H : Hp) (X : NA) (O : Addr) (vc : V) (sts : List SO) (ost : List TD) (t : TD) : Prop where
  w : Nw K M a tc N H X O sts [] ost []
  o : ost = (⟨[], [], []⟩ : TD) :: sts.map SO.t
  top : (topS sts).t = t
  mP : M P
  T : LamX.TabS H P q
  c : rp K (Fr M H) vc CHs
  d : D54 t
section
variable {K : Frag} {M M' : Addr → Prop} {P a tc O : Addr} {q : Str} {N N' : Nat} {H H' : Hp} {X : NA} {vc : V} {sts sts' : List SO} {ms : List Int} {ost ost' : List TD} {om : List Int} {t t' : TD}
theorem _root_.Fw.Nw.kind (h : Nw K M a tc N H X O sts ms ost om) : ∀ b, opM a tc X O b → ∀ o, H b = some o → (∃ vs, o = .lst vs) ∨ ∃ C dx fs, o = .ins C dx fs := by
  obtain ⟨ds, m, n, h1, h2, _⟩ := h.t
  obtain ⟨vs, h4, _⟩ := h.n.s
  obtain ⟨v, w, h6, _, _⟩ := h.w.o
  have h3 := h.n.o
  have h5 := h.n.m
  intro b z o e
  rcases z with (z | z) | (z | z | z) | z
  · rw [z, h1] at e; cases e; exact .inl ⟨_, rfl⟩
  · rw [z, h2] at e; cases e; exact .inl ⟨_, rfl⟩
  · rw [z, h3] at e; cases e; exact .inr ⟨_, _, _, rfl⟩
  · rw [z, h4] at e; cases e; exact .inl ⟨_, rfl⟩
  · rw [z, h5] at e; cases e; exact .inl ⟨_, rfl⟩
  · rw [z, h6] at e; cases e; exact .inl ⟨_, rfl⟩
theorem J54.same (h : J54 K M P q a tc N H X O vc sts ost t) (s : Same H H') : J54 K M P q a tc N H' X O vc sts ost t := ⟨h.w.same s, h.o, h.top, h.mP, tabS_same h.T s, Rep.up (Fr.same s) h.c, h.d⟩
theorem J54.less (h : J54 K M P q a tc N H X O vc sts ost t) (l : N' ≤ N) : J54 K M P q a tc N' H X O vc sts ost t := ⟨h.w.less l, h.o, h.top, h.mP, h.T, h.c, h.d⟩
theorem J54.draw (h : J54 K M P q a tc N H X O vc sts ost t) (x : Ext (opM a tc X O) H H') (w : Nw K M a tc N' H' X O sts [] ost []) : J54 K M P q a tc N' H' X O vc sts ost t := ⟨w, h.o, h.top, h.mP, tabS_ext h.T x h.w.kind, Rep.up (Fr.ext (Ext.sub h.w.sub x)) h.c, h.d⟩
theorem J54.len (h : J54 K M P q a tc N H X O vc sts ost t) : ost.length = sts.length + 1 := by rw [h.o]; simp
theorem J54.last (h : J54 K M P q a tc N H X O vc sts ost t) : ost.getLast? = some t := by
  rw [h.o, ← h.top]
  unfold topS
  cases e : sts.getLast? with
  | none =>
    rw [List.getLast?_eq_none_iff.mp e]
    rfl
  | some s =>
    have ne : sts ≠ [] := fun z => by rw [z] at e; cases e
    cases sts with
    | nil => exact absurd rfl ne
    | cons a l =>
      rw [List.map_cons, List.getLast?_cons_cons, ← List.map_cons, List.getLast?_map, e]
      rfl
theorem J54.last0 (h : J54 K M P q a tc N H X O vc sts ost t) : ost.getLast? = some (topS sts).t := by rw [h.top]; exact h.last
theorem J54.fit (h : J54 K M P q a tc N H X O vc sts ost t) : TFit (topS sts).t := by rw [h.top]; exact h.d.fit
/-- the net has gone on -/
theorem J54.step (h : J54 K M P q a tc N H X O vc sts ost t) (x : Ext (nM X) H H') (n : Nt K M H' X (sts ++ [⟨t'⟩]) []) (al : Alloc M H') : Nw K M a tc N H' X O (sts ++ [⟨t'⟩]) [] ost [] ∧ LamX.TabS H' P q ∧ rp K (Fr M H') vc CHs ∧ Same (Fr M H) (Fr M H') := by
  obtain ⟨w, e⟩ := h.w.nt x n al
  have f : Same (Fr M H) (Fr M H') := Fr.ext (Ext.sub h.w.sub e)
  exact ⟨w, tabS_ext h.T e h.w.kind, Rep.up f h.c, f⟩
/-- .. and the own one, too -/
theorem J54.own (h : J54 K M P q a tc N H X O vc sts ost t) (w1 : Nw K M a tc N H' X O (sts ++ [⟨t'⟩]) [] ost []) (T1 : LamX.TabS H' P q) (c1 : rp K (Fr M H') vc CHs) {H2 : Hp} (x : Ext (fun b => b = O) H' H2) (al : Alloc M H2) (ow : Ow K M H2 O (ost ++ [t']) []) (d : D54 t') :
    J54 K M P q a tc N H2 X O vc (sts ++ [⟨t'⟩]) (ost ++ [t']) t' := by
  obtain ⟨w, e⟩ := w1.ow x ow al
  refine ⟨w, ?_, by rw [topS_app], h.mP, tabS_ext T1 e w1.kind, Rep.up (Fr.ext (Ext.sub w1.sub e)) c1, d⟩
  rw [h.o, List.map_append]
  rfl
end
theorem nw_startP {K : Frag} {M : Addr → Prop} {H H3 H4 : Hp} {a tc O : Addr} {Y : NA} {N : Nat} (t : Tk a tc N H) (sub : ∀ b, tkM a tc b → M b) (s3 : Same H H3) (f3 : ∀ b, nM Y b → H b = none) (n3 : Nt K (MX M Y) H3 Y [] []) (a3 : Alloc (MX M Y) H3) (s4 : Same H3 H4) (O0 : H3 O = none)
    (w4 : Ow K (Ad O (MX M Y)) H4 O [⟨[], [], []⟩] []) (g4 : Gw (MX M Y) (Ad O (MX M Y)) H3 H4) (a4 : Alloc (Ad O (MX M Y)) H4) : Nw K (Ad O (MX M Y)) a tc N H4 Y O [] [] [⟨[], [], []⟩] [] := by
  refine ⟨t.same (s3.trans s4), n3.keep g4 (T := fun _ => False) (Ext.same s4) (fun _ _ z => z), w4, a4, fun b z => .inr (.inl (sub b z)), fun b z y => ?_, fun z => ?_, fun z => ?_⟩
  · obtain ⟨o, e, _⟩ := t.alloc b z
    rw [f3 b y] at e
    cases e
  · obtain ⟨o, e, _⟩ := a3 O (.inl (sub O z))
    rw [O0] at e
    cases e
  · obtain ⟨o, e, _⟩ := a3 O (.inr z)
    rw [O0] at e
    cases e
theorem sz61 {m : Int} (h0 : 0 ≤ m) (h : m ≤ 1000) : Sz 4000 m := Sz.up (k := 3) h0 (by omega) (by decide)
section
variable {K : Frag} {M M' T : Addr → Prop} {P a tc O : Addr} {q : Str} {N : Nat} {H H' : Hp} {X Z : NA} {vc : V} {sts : List SO} {ost : List TD} {t : TD} {s2 : List SO} {m2 : List Int}
theorem J54.add (h : J54 K M P q a tc N H X O vc sts ost t) (g : Gw M M' H H') (s : Same H H') (al : Alloc M' H') : J54 K M' P q a tc N H' X O vc sts ost t := ⟨h.w.add g s al, h.o, h.top, g.up _ h.mP, tabS_same h.T s, Rep.up g.fr h.c, h.d⟩
/-- another net goes on -/
theorem J54.other (h : J54 K M P q a tc N H X O vc sts ost t) (g : Gw M M' H H') (x : Ext T H H') (al : Alloc M' H') (kd : ∀ b, T b → ∀ o, H b = some o → (∃ vs, o = .lst vs) ∨ ∃ C dx fs, o = .ins C dx fs) (d : ∀ b, T b → ¬ opM a tc X O b) : J54 K M' P q a tc N H' X O vc sts ost t := by
  have d2 : ∀ b, opM a tc X O b → ¬ T b := fun b z y => d b y z
  obtain ⟨ds, m, k, e1, e2, r⟩ := h.w.t
  exact ⟨⟨⟨ds, m, k, x _ _ (d2 _ (.inl (.inl rfl))) e1, x _ _ (d2 _ (.inl (.inr rfl))) e2, r⟩, h.w.n.keep g x (fun b z => d2 _ (.inr (.inl z))), h.w.w.keep g x (d2 _ (.inr (.inr rfl))), al, fun b z => g.up b (h.w.subt b z), h.w.d1, h.w.d2, h.w.d3⟩, h.o, h.top, g.up _ h.mP, tabS_ext h.T x kd, Rep.up g.fr h.c, h.d⟩
theorem J54.ex (h : J54 K M P q a tc N H X O vc sts ost t) : ∀ b, opM a tc X O b → H b ≠ none := h.w.ex
theorem nt_kind (h : Nt K M H Z s2 m2) : ∀ b, nM Z b → ∀ o, H b = some o → (∃ vs, o = .lst vs) ∨ ∃ C dx fs, o = .ins C dx fs := by
  obtain ⟨vs, h4, _⟩ := h.s
  have h3 := h.o
  have h5 := h.m
  intro b z o e
  rcases z with z | z | z
  · rw [z, h3] at e; cases e; exact .inr ⟨_, _, _, rfl⟩
  · rw [z, h4] at e; cases e; exact .inl ⟨_, rfl⟩
  · rw [z, h5] at e; cases e; exact .inl ⟨_, rfl⟩
end
def qF : Str := Str.ofString "Forest.__init__.<locals>.<lambda>"
section
variable {K : Frag} {M : Addr → Prop} {P a tc O : Addr} {q : Str} {N : Nat} {H H' : Hp} {X : NA} {vc : V} {sts : List SO} {ost : List TD} {t : TD}
theorem J54.plan (h : J54 K M P q a tc N H X O vc sts ost t) (x : Ext (fun b => b = P) H H') (T' : LamX.TabS H' P q) : J54 K M P q a tc N H' X O vc sts ost t := by
  obtain ⟨ps, eP, _⟩ := id h.T
  have d : ∀ b, opM a tc X O b → ¬ b = P := fun b z y => by
    rcases h.w.kind b z _ (by rw [y]; exact eP) with ⟨_, e⟩ | ⟨_, _, _, e⟩ <;> cases e
  have g : Gw M M H H' := Gw.of (Ext.sub (fun b (z : b = P) => by rw [z]; exact h.mP) x)
  obtain ⟨ds, m, k, e1, e2, r⟩ := h.w.t
  refine ⟨⟨⟨ds, m, k, x _ _ (d _ (.inl (.inl rfl))) e1, x _ _ (d _ (.inl (.inr rfl))) e2, r⟩, h.w.n.keep g x (fun b z => d _ (.inr (.inl z))), h.w.w.keep g x (d _ (.inr (.inr rfl))), fun b z => ?_, h.w.subt, h.w.d1, h.w.d2, h.w.d3⟩, h.o, h.top, h.mP, T', Rep.up g.fr h.c, h.d⟩
  by_cases y : b = P
  · obtain ⟨ps', e', _⟩ := T'
    rw [y]
    exact ⟨_, e', trivial⟩
  · obtain ⟨o, e, w⟩ := h.w.al b z
    exact ⟨o, x _ _ y e, w⟩
end
theorem cut54 {B : List N3} {i : Int} (h0 : 0 ≤ i) (h1 : i < (B.length : Nat)) : (cutX B none (some i) ++ cutX B (some (i + 1)) none).length + 1 = B.length ∧ ∀ n ∈ cutX B none (some i) ++ cutX B (some (i + 1)) none, n ∈ B := by
  obtain ⟨j, rfl⟩ : ∃ j : Nat, i = (j : Int) := ⟨i.toNat, by omega⟩
  rw [show ((j : Int) + 1) = ((j + 1 : Nat) : Int) by omega, cutX_to (by omega), cutX_from (by omega)]
  refine ⟨by rw [List.length_append, List.length_take, List.length_drop]; omega, fun n hn => ?_⟩
  rcases List.mem_append.mp hn with z | z
  · exact List.mem_of_mem_take z
  · exact List.mem_of_mem_drop z

end
section
variable {w : World} {K : Frag} {mg : Str → Option Value} {base : Heap}
def sp_law (K : Frag) : Sp := fun vs H Q E => ∃ (sa : Addr) (ns : List Int), vs = [.ref sa] ∧ SqL K H sa (ns.map V.int) ∧ ns.length ≤ 63 ∧ H (tabAt K (ma K (ga K "Forest") "__init__")) = some (.tbl #[]) ∧ ∀ H', Q (.bl true) H'
theorem ok_law (Z : Zs cks fns K mg) (TB : TbF K mg base (ma K (ga K "Forest") "__init__")) : FnG PP w K mg base (L2.CX PP w) 24 (ga K "law") (fdAt K (ga K "law")) ["script"] (sp_law K) := by
  refine Fw.Fun.okG (u_law Z) sc_law (fun vs H Q E h => ?_) (fun cdv A outer s H vs Q E hg hr h => ?_)
  · obtain ⟨_, _, rfl, _⟩ := h
    rfl
  · obtain ⟨sa, ns, rfl, ⟨hS, hlen, hTb, hq⟩⟩ := h
    refine ⟨_, (pss_cons (ps_set (i := 1) sc_law.nd rfl (Or.inl rfl) (pe_call (ok__law_tank Z) (hr.mono (by decide)) rfl (g__law_tank Z) (u__law_tank Z).kp (b__law_tank Z) .nil passL (pa_cons (pv 0) pa_nil)))
      (pss_cons (ps_par3 (i := 2) (j := 3) (l := 4) rfl sc_law.nd rfl rfl rfl (by decide) (by decide) (by decide) rfl rfl rfl (pa_cons (pe_makeQ (pe_make0 (M_Net Z) (ok_Net_init Z) (hr.mono (by decide)) rfl (g_Net Z) (b_Net_init Z) .nil passL)) (pa_cons (pe_call0 (okq (ok__law_blank Z)) (hr.mono (by decide)) rfl (g__law_blank Z) (u__law_blank Z).kp (b__law_blank Z) .nil passL) (pa_cons (pe_lstQ (pe_lst (pa_cons pe_int (pa_cons pe_int (pa_cons pe_int (pa_cons pe_int (pa_cons (pe_op op_mul pe_int (pe_op op_pow pe_int pe_int)) pa_nil))))))) pa_nil))) rfl)
      (C8.pss_cut (ps_for (passes_of rfl) rfl (pi_range1 rfl (n_range Z) (pa_cons pe_int pa_nil)) (pg_name (i := 5) sc_law.nd rfl (Or.inl rfl))
        (pss_cons (ps_par (i := 6) (j := 7) rfl sc_law.nd rfl rfl (by decide) rfl rfl (pa_cons (pe_ix (ixq ix_list) (pv 4) (pe_call (ok__law_sip Z) (hr.mono (by decide)) rfl (g__law_sip Z) (u__law_sip Z).kp (b__law_sip Z) .nil passL (pa_cons (pv 1) (pa_cons pe_int pa_nil))) (fun _ _ => rfl)) (pa_cons (pe_call (ok__law_sip Z) (hr.mono (by decide)) rfl (g__law_sip Z) (u__law_sip Z).kp (b__law_sip Z) .nil passL (pa_cons (pv 1) (pa_cons (pe_op op_pow pe_int pe_int) pa_nil))) pa_nil)) rfl)
      (pss_cons (ps_if (pt_cmpR op_ne (pe_meth (pv 2) (c_Net Z) (hm_Net_add Z) (okq (ok_Net_add Z)) (hr.mono (by decide)) (b_Net_add Z) .nil passL (pa_cons (pv 6) (pa_cons (pv 7) pa_nil))) (pv 5) (nomark _))
        (pss_one (ps_ret pe_bl))
        pss_nil)
      (pss_one (ps_expr (pe_call (okq (ok__law_put Z)) (hr.mono (by decide)) rfl (g__law_put Z) (u__law_put Z).kp (b__law_put Z) .nil passL (pa_cons (pv 3) (pa_cons (pe_op (opq op_cat) (pe_ix (ixq ix_tup) (pe_ix (ixq ix_list) (pe_ix (ixq ix_list) (pv 3) pe_int (fun _ _ => rfl)) (pe_un un_neg pe_int) (fun _ _ => rfl)) pe_int (fun _ _ => rfl)) (pe_lstQ (pe_lst (pa_cons (pe_tupQ (pe_tup (pa_cons (pv 6) (pa_cons (pv 7) pa_nil)))) pa_nil)))) (pa_cons (pe_lstQ (pe_lst pa_nil)) (pa_cons (pe_lstQ (pe_lst pa_nil)) pa_nil))))))))))
      (pss_cons (ps_if (PW.pt (pw_or (pt_not (pt_val (pe_call (okq (ok__law_refused Z)) (hr.mono (by decide)) rfl (g__law_refused Z) (u__law_refused Z).kp (b__law_refused Z) .nil passL (pa_cons (pv 2) (pa_cons pe_int (pa_cons (pe_ix (ixq ix_list) (pv 4) (pe_call (ok__law_sip Z) (hr.mono (by decide)) rfl (g__law_sip Z) (u__law_sip Z).kp (b__law_sip Z) .nil passL (pa_cons (pv 1) (pa_cons pe_int pa_nil))) (fun _ _ => rfl)) pa_nil)))))) (pw_or1 (pt_not (pt_val (pe_callG (okqG (ok__law_same Z)) hg (hr.mono (by decide)) rfl (g__law_same Z) (u__law_same Z).kp (b__law_same Z) passL (pa_cons (pv 2) (pa_cons (pv 3) pa_nil))))))))
        (pss_one (ps_ret pe_bl))
        pss_nil)
      (pss_cons (ps_par (i := 8) (j := 9) rfl sc_law.nd rfl rfl (by decide) rfl rfl (pa_cons (pe_meth0 (pv 2) (c_Net Z) (hm_Net_twin Z) (okq (ok_Net_twin Z)) (hr.mono (by decide)) (b_Net_twin Z) .nil passL) (pa_cons (pe_ix (ixq ix_tup) (pe_ix (ixq ix_list) (pe_ix (ixq ix_list) (pv 3) pe_int (fun _ _ => rfl)) (pe_un un_neg pe_int) (fun _ _ => rfl)) pe_int (fun _ _ => rfl)) pa_nil)) rfl)
      (pss_cons (ps_expr (pe_meth0 (pv 8) (c_Net Z) (hm_Net_undo Z) (okq (ok_Net_undo Z)) (hr.mono (by decide)) (b_Net_undo Z) .nil passL))
      (pss_cons (ps_if (PW.pt (pw_or (pt_val (pe_call (okq (ok__law_refused Z)) (hr.mono (by decide)) rfl (g__law_refused Z) (u__law_refused Z).kp (b__law_refused Z) .nil passL (pa_cons (pv 8) (pa_cons pe_int (pa_cons pe_int pa_nil))))) (pw_or (pt_cmpR op_ne (pe_callB (call_lenO (len_Net Z) (ok_Net_len Z) (hr.mono (by decide)) (b_Net_len Z) passL) rfl (n_len Z) (by decide +kernel) (pa_cons (pv 8) pa_nil)) pe_int (nomark _)) (pw_or (pt_not (pt_val (pe_call (okq (ok__law_refused Z)) (hr.mono (by decide)) rfl (g__law_refused Z) (u__law_refused Z).kp (b__law_refused Z) .nil passL (pa_cons (pv 8) (pa_cons pe_int (pa_cons pe_int pa_nil)))))) (pw_or1 (pt_not (pt_val (pe_call (okq (ok__law_undone Z)) (hr.mono (by decide)) rfl (g__law_undone Z) (u__law_undone Z).kp (b__law_undone Z) .nil passL (pa_cons (pv 8) (pa_cons pe_int pa_nil))))))))))
        (pss_one (ps_ret pe_bl))
        pss_nil)
      (C8.pss_cut (ps_for (passes_of rfl) rfl (pi_range1 rfl (n_range Z) (pa_cons (pe_call (ok__law_sip Z) (hr.mono (by decide)) rfl (g__law_sip Z) (u__law_sip Z).kp (b__law_sip Z) .nil passL (pa_cons (pv 1) (pa_cons pe_int pa_nil))) pa_nil)) (pg_name (i := 10) sc_law.nd rfl (Or.inl rfl))
        (pss_cons (ps_set (i := 11) sc_law.nd rfl (Or.inl rfl) (pe_call (ok__law_sip Z) (hr.mono (by decide)) rfl (g__law_sip Z) (u__law_sip Z).kp (b__law_sip Z) .nil passL (pa_cons (pv 1) (pa_cons (pe_ix (ixq ix_tup) (pe_ix (ixq ix_list) (pv 9) (pv 10) (fun _ _ => rfl)) pe_int (fun _ _ => rfl)) pa_nil))))
      (pss_cons (ps_expr (pe_meth (pv 2) (c_Net Z) (hm_Net_fix Z) (okq (ok_Net_fix Z)) (hr.mono (by decide)) (b_Net_fix Z) .nil passL (pa_cons (pv 10) (pa_cons (pv 11) pa_nil))))
      (pss_one (ps_expr (pe_call (okq (ok__law_put Z)) (hr.mono (by decide)) rfl (g__law_put Z) (u__law_put Z).kp (b__law_put Z) .nil passL (pa_cons (pv 3) (pa_cons (pv 9) (pa_cons (pe_lstQ (pe_lst pa_nil)) (pa_cons (pe_op (opq op_cat) (pe_ix (ixq ix_tup) (pe_ix (ixq ix_list) (pe_ix (ixq ix_list) (pv 3) pe_int (fun _ _ => rfl)) (pe_un un_neg pe_int) (fun _ _ => rfl)) pe_int (fun _ _ => rfl)) (pe_lstQ (pe_lst (pa_cons (pe_tupQ (pe_tup (pa_cons (pv 10) (pa_cons (pv 11) pa_nil)))) pa_nil)))) pa_nil))))))))))
      (pss_cons (ps_set (i := 12) sc_law.nd rfl (Or.inl rfl) (pe_ix (ixq ix_tup) (pe_ix (ixq ix_list) (pe_ix (ixq ix_list) (pv 3) pe_int (fun _ _ => rfl)) (pe_un un_neg pe_int) (fun _ _ => rfl)) pe_int (fun _ _ => rfl)))
      (C8.pss_cut (ps_for (passes_of rfl) rfl (pi_range1 rfl (n_range Z) (pa_cons pe_int pa_nil)) (pg_name (i := 5) sc_law.nd rfl (Or.inl rfl))
        (pss_cons (ps_set (i := 13) sc_law.nd rfl (Or.inl rfl) (pe_tupQ (pe_tup (pa_cons (pe_call (ok__law_sip Z) (hr.mono (by decide)) rfl (g__law_sip Z) (u__law_sip Z).kp (b__law_sip Z) .nil passL (pa_cons (pv 1) (pa_cons pe_int pa_nil))) (pa_cons (pe_call (ok__law_sip Z) (hr.mono (by decide)) rfl (g__law_sip Z) (u__law_sip Z).kp (b__law_sip Z) .nil passL (pa_cons (pv 1) (pa_cons pe_int pa_nil))) (pa_cons (pe_call (ok__law_sip Z) (hr.mono (by decide)) rfl (g__law_sip Z) (u__law_sip Z).kp (b__law_sip Z) .nil passL (pa_cons (pv 1) (pa_cons (pe_op op_pow pe_int pe_int) pa_nil))) pa_nil))))))
      (pss_cons (ps_expr (pe_meth (pv 2) (c_Net Z) (hm_Net_wish Z) (okq (ok_Net_wish Z)) (hr.mono (by decide)) (b_Net_wish Z) .nil passL (pa_cons (pe_ix (ixq ix_tup) (pv 13) pe_int (fun _ _ => rfl)) (pa_cons (pe_ix (ixq ix_tup) (pv 13) pe_int (fun _ _ => rfl)) (pa_cons (pe_ix (ixq ix_tup) (pv 13) pe_int (fun _ _ => rfl)) pa_nil)))))
      (pss_one (ps_expr (pe_call (okq (ok__law_put Z)) (hr.mono (by decide)) rfl (g__law_put Z) (u__law_put Z).kp (b__law_put Z) .nil passL (pa_cons (pv 3) (pa_cons (pv 9) (pa_cons (pe_op (opq op_cat) (pe_ix (ixq ix_tup) (pe_ix (ixq ix_list) (pe_ix (ixq ix_list) (pv 3) pe_int (fun _ _ => rfl)) (pe_un un_neg pe_int) (fun _ _ => rfl)) pe_int (fun _ _ => rfl)) (pe_lstQ (pe_lst (pa_cons (pv 13) pa_nil)))) (pa_cons (pv 12) pa_nil))))))))))
      (pss_cons (ps_if (PW.pt (pw_or (pt_not (pt_val (pe_call (okq (ok__law_refused Z)) (hr.mono (by decide)) rfl (g__law_refused Z) (u__law_refused Z).kp (b__law_refused Z) .nil passL (pa_cons (pv 2) (pa_cons pe_int (pa_cons pe_int pa_nil)))))) (pw_or (pt_not (pt_val (pe_call (okq (ok__law_first_right Z)) (hr.mono (by decide)) rfl (g__law_first_right Z) (u__law_first_right Z).kp (b__law_first_right Z) .nil passL (pa_cons (pv 2) pa_nil)))) (pw_or1 (pt_not (pt_val (pe_callG (okqG (ok__law_same Z)) hg (hr.mono (by decide)) rfl (g__law_same Z) (u__law_same Z).kp (b__law_same Z) passL (pa_cons (pv 2) (pa_cons (pv 3) pa_nil)))))))))
        (pss_one (ps_ret pe_bl))
        pss_nil)
      (pss_cons (ps_expr (pe_meth0 (pv 2) (c_Net Z) (hm_Net_plan Z) (okq (ok_Net_plan Z TB)) (hr.mono (by decide)) (b_Net_plan Z) .nil passL))
      (pss_cons (ps_set (i := 10) sc_law.nd rfl (Or.inl rfl) (pe_call (ok__law_sip Z) (hr.mono (by decide)) rfl (g__law_sip Z) (u__law_sip Z).kp (b__law_sip Z) .nil passL (pa_cons (pv 1) (pa_cons pe_int pa_nil))))
      (pss_cons (ps_set (i := 14) sc_law.nd rfl (Or.inl rfl) (pe_ix (ixq ix_tup) (pe_ix (ixq ix_list) (pe_ix (ixq ix_list) (pv 3) pe_int (fun _ _ => rfl)) (pe_un un_neg pe_int) (fun _ _ => rfl)) pe_int (fun _ _ => rfl)))
      (pss_cons (ps_expr (pe_meth (pv 2) (c_Net Z) (hm_Net_drop Z) (okq (ok_Net_drop Z)) (hr.mono (by decide)) (b_Net_drop Z) .nil passL (pa_cons (pv 10) pa_nil)))
      (pss_cons (ps_expr (pe_call (okq (ok__law_put Z)) (hr.mono (by decide)) rfl (g__law_put Z) (u__law_put Z).kp (b__law_put Z) .nil passL (pa_cons (pv 3) (pa_cons (pv 9) (pa_cons (pe_op (opq op_cat) (pe_slice (slq sl_list) (pv 14) po_none (po_some (pv 10))) (pe_slice (slq sl_list) (pv 14) (po_some (pe_op op_add (pv 10) pe_int)) po_none)) (pa_cons (pv 12) pa_nil))))))
      (pss_cons (ps_if (PW.pt (pw_or (pt_not (pt_val (pe_callG (okqG (ok__law_same Z)) hg (hr.mono (by decide)) rfl (g__law_same Z) (u__law_same Z).kp (b__law_same Z) passL (pa_cons (pv 2) (pa_cons (pv 3) pa_nil))))) (pw_or (pt_val (pe_call (okq (ok__law_refused Z)) (hr.mono (by decide)) rfl (g__law_refused Z) (u__law_refused Z).kp (b__law_refused Z) .nil passL (pa_cons (pv 2) (pa_cons pe_int (pa_cons pe_int pa_nil))))) (pw_or1 (pt_not (pt_val (pe_call (okq (ok__law_refused Z)) (hr.mono (by decide)) rfl (g__law_refused Z) (u__law_refused Z).kp (b__law_refused Z) .nil passL (pa_cons (pv 2) (pa_cons pe_int (pa_cons pe_int pa_nil))))))))))
        (pss_one (ps_ret pe_bl))
        pss_nil)
      (pss_cons (ps_expr (pe_call (okq (ok__law_put Z)) (hr.mono (by decide)) rfl (g__law_put Z) (u__law_put Z).kp (b__law_put Z) .nil passL (pa_cons (pv 3) (pa_cons (pv 9) (pa_cons (pe_op (opq op_cat) (pe_ix (ixq ix_tup) (pe_ix (ixq ix_list) (pe_ix (ixq ix_list) (pv 3) pe_int (fun _ _ => rfl)) (pe_un un_neg pe_int) (fun _ _ => rfl)) pe_int (fun _ _ => rfl)) (pe_lstQ (pe_lst (pa_cons (pe_tupQ (pe_tup (pa_cons pe_int (pa_cons pe_int (pa_cons pe_int pa_nil))))) pa_nil)))) (pa_cons (pv 12) pa_nil))))))
      (pss_cons (ps_set (i := 15) sc_law.nd rfl (Or.inl rfl) (pe_meth0 (pv 2) (c_Net Z) (hm_Net_twin Z) (okq (ok_Net_twin Z)) (hr.mono (by decide)) (b_Net_twin Z) .nil passL))
      (pss_one (ps_ret (pe_and (pe_callG (okqG (ok__law_same Z)) hg (hr.mono (by decide)) rfl (g__law_same Z) (u__law_same Z).kp (b__law_same Z) passL (pa_cons (pv 2) (pa_cons (pv 3) pa_nil))) (pe_and (pe_call (okq (ok__law_undone Z)) (hr.mono (by decide)) rfl (g__law_undone Z) (u__law_undone Z).kp (b__law_undone Z) .nil passL (pa_cons (pv 15) (pa_cons (pe_op op_sub (pe_callB (crq call_len_seq) rfl (n_len Z) (by decide +kernel) (pa_cons (pe_ix (ixq ix_list) (pv 3) pe_int (fun _ _ => rfl)) pa_nil)) pe_int) pa_nil))) (pe_one (pe_callG (okqG (ok__law_same Z)) hg (hr.mono (by decide)) rfl (g__law_same Z) (u__law_same Z).kp (b__law_same Z) passL (pa_cons (pv 2) (pa_cons (pv 3) pa_nil))))))))))))))))))))))))))), ?_⟩
    obtain ⟨P, hPe⟩ : ∃ P, tabAt K (ma K (ga K "Forest") "__init__") = P := ⟨_, rfl⟩
    rw [hPe] at hTb
    refine ⟨_, rfl, ⟨sa, ns, rfl, hS, hlen, fun a tc H1 s1 na nc t1 => ?_⟩⟩
    have t2 : Tk a tc 5000 H1 := t1.less (by decide)
    have eP1 : H1 P = some (.tbl #[]) := s1 _ _ hTb
    have T1 : LamX.TabS H1 P qF := ⟨#[], eP1, trivial, fun pos cv hc => by simp [codeAmong] at hc⟩
    have A1 : Alloc (Ad P (tkM a tc)) H1 := fun b z => z.elim (fun z => by rw [z]; exact ⟨_, eP1, trivial⟩) (t2.alloc b)
    refine mk_Net A1 fun Y H3 s3 f3 n3 g3 a3 => ?_
    refine cl__law_blank a3 fun O H4 s4 O0 w4 g4 a4 => ?_
    have hw := nw_startP (M := Ad P (tkM a tc)) t2 (fun b z => .inr z) s3 f3 n3 a3 s4 O0 w4 g4 a4
    generalize hM : Ad O (MX (Ad P (tkM a tc)) Y) = M at *
    have mP : M P := by rw [← hM]; exact .inr (.inl (.inl rfl))
    have T4 := tabS_same (tabS_same T1 s3) s4
    refine ⟨_, _, rfl, rfl, ⟨by decide, by decide, by decide⟩, _, _, rfl, rfl, .inl ⟨by decide, by decide⟩, ?_⟩
    refine rd_lst (K := K) (xs := CHs) hw.al (by show 5 ≤ 1000; decide) (.cons rfl (.cons rfl (.cons rfl (.cons rfl (.cons rfl .nil))))) fun vc H5 s5 r5 => ?_
    refine ⟨_, _, _, rfl, ?_⟩
    have hj : J54 K M P qF a tc 5000 H5 Y O vc [] [⟨[], [], []⟩] ⟨[], [], []⟩ := ⟨hw.same s5, rfl, rfl, mP, tabS_same T4 s5, r5, d54_blank⟩
    clear hw T4 T1 A1 eP1 hTb t1 t2 n3 a3 w4 g4 a4 g3 hS hM
    refine ⟨fun σ H7 => ∃ (z5 z6 z7 : Option V) (sts : List SO) (ost : List TD) (A : List (Int × Int)), σ = [some (.ref sa), some (.ref a), some (.ref Y.W), some (.ref O), some vc, z5, z6, z7, none, none, none, none, none, none, none, none] ∧ J54 K M P qF a tc 4000 H7 Y O vc sts ost ⟨A, [], []⟩ ∧ A.length = 40 ∧ sts.length = 40 ∧ ∃ A0, (topS sts.dropLast).t = ⟨A0, [], []⟩ ∧ A0.length + 1 = 40 ∧ D54 ⟨A0, [], []⟩, ?_, ?_⟩
    · refine ⟨_, rfl, (by omega), (by omega), ?_⟩
      refine for_range (lo := 0) (n := (40 : Int).toNat) (fun k σ H7 => ∃ (z5 z6 z7 : Option V) (sts : List SO) (ost : List TD) (A : List (Int × Int)), σ = [some (.ref sa), some (.ref a), some (.ref Y.W), some (.ref O), some vc, z5, z6, z7, none, none, none, none, none, none, none, none] ∧ J54 K M P qF a tc (4000 + 1000 - 2 * k) H7 Y O vc sts ost ⟨A, [], []⟩ ∧ A.length = k ∧ sts.length = k ∧ (k ≠ 0 → ∃ A0, (topS sts.dropLast).t = ⟨A0, [], []⟩ ∧ A0.length + 1 = k ∧ D54 ⟨A0, [], []⟩)) ⟨_, _, _, [], _, [], rfl, hj, rfl, rfl, fun z => absurd rfl z⟩ ?_ ?_
      · rintro k σ H7 hk ⟨z5, z6, z7, sts, ost, A, rfl, j7, lA, ls, _⟩
        have hk2 : k < 40 := hk
        have hN : 4000 + 1000 - 2 * k = (4000 + 1000 - 2 * (k + 1)) + 1 + 1 := by omega
        rw [hN] at j7
        generalize 4000 + 1000 - 2 * (k + 1) = N at *
        refine ⟨_, rfl, _, rfl, ⟨a, tc, N + 1, 5, rfl, j7.w.t, (by decide), Sz.mono (sz61 (by decide) (by decide)) (by decide), fun v1 H8 g1 l1 y1 k1 => ?_⟩⟩
        obtain ⟨w1, x1⟩ := j7.w.tk y1 k1
        have j8 := j7.draw x1 w1
        obtain ⟨h, hx, hm⟩ := at_mem (xs := CHs) g1 (show v1 < ((5 : Nat) : Int) from l1)
        refine rd_ixL j8.c Fr.sub hx fun u1 e1 => ?_
        obtain rfl : u1 = V.int h := e1
        refine ⟨_, rfl, _, _, rfl, rfl, ⟨by decide, by decide, by decide⟩, ⟨a, tc, N, (10 : Int) ^ (20 : Int).toNat, rfl, j8.w.t, (by decide), Sz.mono (sz54 (by decide +kernel) (by decide +kernel)) (by decide), fun v2 H9 g2 l2 y2 k2 => ?_⟩⟩
        have l2 : v2 < 10 ^ 20 := l2
        obtain ⟨w2, x2⟩ := j8.w.tk y2 k2
        have j9 := j8.draw x2 w2
        refine ⟨_, _, rfl, ?_⟩
        have tp := j9.top
        have hp := (chs_pos h hm).1
        refine ⟨_, rfl, Y.W, Y.dx, _, rfl, j9.w.n.o, nt_no, _, rfl, _, rfl, cl_Net_add j9.w.n j9.w.al (by omega) hp g2 (by rw [tp]; show A.length < 40; omega) (fun y hy => ?_) fun H10 x10 n10 a10 => ?_⟩
        · rw [tp] at hy
          obtain ⟨q1, _⟩ := j9.d.fa y hy
          exact ⟨(chs_pos _ q1).1, chs_dvd _ q1 _ hm⟩
        rw [tp] at n10 ⊢
        obtain ⟨w10, T10, c10, f10⟩ := j9.step x10 n10 a10
        refine ⟨_, rfl, rfl, _, rfl, iteNS (congrArg V.int (show ((A.length : Nat) : Int) = 0 + (k : Int) by omega)) ?_⟩
        refine ⟨_, rfl, _, rfl, ow_0 w10.w fun u1 r1 => ⟨_, rfl, rd_ixL r1 Fr.sub (atI_last j9.last) fun u2 r2 => rd_t0 r2 Fr.sub fun u3 r3 => ?_⟩⟩
        refine ⟨_, rfl, _, rfl, rd_pair w10.al (show rp K _ (V.int h) (h : Int) from rfl) (show rp K _ (V.int v2) (v2 : Int) from rfl) fun u4 H11 s11 r4 => ?_⟩
        refine rd_lst (K := K) (xs := [(h, v2)]) (w10.al.same s11) (by show 1 ≤ 1000; decide) (.cons r4 .nil) fun u5 H12 s12 r5 => ?_
        refine rd_cat ((w10.al.same s11).same s12) (Rep.up (Fr.same (s11.trans s12)) r3) r5 (by show A.length + 1 ≤ 100000; omega) fun u6 H13 s13 r6 => ?_
        have s03 := s11.trans (s12.trans s13)
        refine rd_lst (K := K) (xs := ([] : List N3)) (w10.al.same s03) (by decide) .nil fun u7 H14 s14 r7 => ?_
        refine rd_lst (K := K) (xs := ([] : List (Int × Int))) ((w10.al.same s03).same s14) (by decide) .nil fun u8 H15 s15 r8 => ?_
        have s05 := s03.trans (s14.trans s15)
        have w15 := w10.same s05
        refine cl__law_put (t := ⟨A ++ [(h, v2)], [], []⟩) w15.w w15.al (by rw [j9.len]; omega) (Rep.up (Fr.same (s14.trans s15)) r6) (Rep.up (Fr.same s15) r7) r8 fun H16 x16 a16 ow16 => ?_
        have j16 := j9.own w15 (tabS_same T10 s05) (Rep.up (Fr.same s05) c10) x16 a16 ow16 (j9.d.line rfl (by show A.length < 40; omega) hm g2 l2)
        exact ⟨_, _, _, _, _, _, rfl, j16, by simp; omega, by simp; omega, fun _ => ⟨A, by rw [List.dropLast_concat]; exact tp, by omega, j9.d⟩⟩
      · rintro σ H7 ⟨z5, z6, z7, sts, ost, A, rfl, j7, lA, ls, q7⟩
        exact ⟨z5, z6, z7, sts, ost, A, rfl, j7.less (by decide), lA, ls, q7 (by decide)⟩
    rintro σ H7 ⟨z5, z6, z7, sts, ost, A, rfl, j7, lA, ls, A0, tp0, lA0, d0⟩
    have j7 := j7.less (show 3000 + 1 ≤ 4000 by decide)
    refine ⟨_, rfl, _, rfl, _, rfl, ⟨a, tc, 3000, 5, rfl, j7.w.t, (by decide), Sz.mono (sz61 (by decide) (by decide)) (by decide), fun v1 H8 g1 l1 y1 k1 => ?_⟩⟩
    obtain ⟨w1, x1⟩ := j7.w.tk y1 k1
    have j8 := j7.draw x1 w1
    obtain ⟨h, hx, hm⟩ := at_mem (xs := CHs) g1 (show v1 < ((5 : Nat) : Int) from l1)
    refine rd_ixL j8.c Fr.sub hx fun u1 e1 => ?_
    obtain rfl : u1 = V.int h := e1
    have tp8 := j8.top
    refine cl__law_refused j8.w.n j8.w.al ⟨by omega, .inl ⟨rfl, (chs_pos h hm).1, by rw [tp8]; exact lA, fun H9 s9 => ?_⟩⟩
    refine ⟨_, rfl, iteF ?_⟩
    have j9 := j8.same s9
    refine ⟨_, rfl, _, rfl, cl__law_same j9.w.n j9.w.w j9.w.al j9.last0 j9.len (by omega) j9.fit fun H10 s10 => ⟨_, rfl, iteF ?_⟩⟩
    have j10 := j9.same s10
    refine ⟨_, rfl, Y.W, Y.dx, _, rfl, j10.w.n.o, nt_no, cl_Net_twin j10.w.n j10.w.al fun Z H11 s11 f11 n11 g11 a11 => ?_⟩
    have j11 := j10.add g11 s11 a11
    refine ⟨_, rfl, ow_0 j11.w.w fun u1 r1 => ⟨_, rfl, rd_ixL r1 Fr.sub (atI_last j11.last) fun u2 r2 => rd_t0 r2 Fr.sub fun vr rr => ?_⟩⟩
    refine ⟨_, _, rfl, ?_⟩
    have dZ : ∀ b, nM Z b → ¬ opM a tc Y O b := fun b z y => j10.ex b y (f11 b z)
    have ne : sts ≠ [] := fun z => by rw [z] at ls; cases ls
    have ldl : sts.dropLast.length = 39 := by rw [List.length_dropLast]; omega
    refine ⟨_, rfl, Z.W, Z.dx, _, rfl, n11.o, nt_no, cl_Net_undo n11 a11 (Nat.zero_le _) (.inr ⟨ne, fun M6 S6 K6 H12 g12 a12 x12 s12 m12 n12 => ?_⟩)⟩
    have n12 : Nt K M6 H12 ⟨Z.W, Z.dx, S6, K6⟩ sts.dropLast [] := n12
    have j12 := j11.other g12 (T := nM Z) (Ext.sub (fun b z => .inl z) x12) a12 (nt_kind n11) dZ
    have rr12 := Rep.up g12.fr rr
    have dZ2 : ∀ b, nM ⟨Z.W, Z.dx, S6, K6⟩ b → ¬ opM a tc Y O b := fun b z y => by
      rcases z with z | z | z
      · exact dZ b (.inl z) y
      · exact j11.ex b y (by rw [z]; exact s12)
      · exact j11.ex b y (by rw [z]; exact m12)
    refine ⟨_, rfl, cl__law_refused (X := ⟨Z.W, Z.dx, S6, K6⟩) n12 a12 ⟨by omega, .inr (.inl ⟨rfl, by decide, by rw [tp0]; show A0.length < 40; omega, fun y hy => ?_, fun H13 x13 n13 a13 => ?_⟩)⟩⟩
    · rw [tp0] at hy
      exact ⟨(chs_pos _ (d0.fa y hy).1).1, .inr (Int.one_dvd _)⟩
    refine ⟨_, rfl, iteF ?_⟩
    have j13 := j12.other (Gw.of (Ext.sub n12.sub x13)) x13 a13 (nt_kind n12) dZ2
    have rr13 := Rep.up (Fr.ext (Ext.sub n12.sub x13)) rr12
    refine ⟨_, rfl, Z.W, Z.dx, _, rfl, n13.o, M6, ⟨Z.W, Z.dx, S6, K6⟩, _, [], rfl, n13, ⟨_, rfl, by simp; omega, by simp; omega⟩, ?_⟩
    refine ⟨rfl, _, rfl, iteNS (congrArg V.int (by simp; omega)) ?_⟩
    refine ⟨_, rfl, cl__law_refused (X := ⟨Z.W, Z.dx, S6, K6⟩) n13 a13 ⟨by simp; omega, .inl ⟨rfl, by decide, by rw [topS_app, tp0]; simp; omega, fun H14 s14 => ?_⟩⟩⟩
    refine ⟨_, rfl, iteF ?_⟩
    have n14 := n13.same s14
    refine ⟨_, rfl, cl__law_undone (X := ⟨Z.W, Z.dx, S6, K6⟩) n14 (a13.same s14) (Nat.zero_le _) (by simp; omega) (by simp; omega) fun M15 H15 g15 a15 x15 => ?_⟩
    refine ⟨_, rfl, iteF ?_⟩
    have j15 := (j13.same s14).other g15 x15 a15 (nt_kind n14) dZ2
    have rr15 := Rep.up g15.fr (Rep.up (Fr.same s14) rr13)
    clear rr rr12 rr13 j13 j12 j11 j10 j9 j8 j7 n14 n13 n12 n11 a11 a12 a13 g11 g12 g15 x12 x13 x15 r1 r2 x1 w1 hx hm y1 k1 dZ dZ2 s11 f11
    refine ⟨fun σ H7 => ∃ (z10 z11 : Option V) (sts : List SO) (ost : List TD) (C : List (Int × Int)), σ = [some (.ref sa), some (.ref a), some (.ref Y.W), some (.ref O), some vc, z5, z6, z7, some (.ref Z.W), some vr, z10, z11, none, none, none, none] ∧ J54 K M15 P qF a tc 2000 H7 Y O vc sts ost ⟨A, [], C⟩ ∧ sts.length ≤ 80 ∧ rp K (Fr M15 H7) vr A, ?_, ?_⟩
    · have j15 := j15.less (show 2900 + 1 ≤ 3000 by decide)
      refine ⟨_, rfl, ⟨a, tc, 2900, 41, rfl, j15.w.t, (by decide), Sz.mono (sz61 (by decide) (by decide)) (by decide), fun v1 H16 g1 l1 y1 k1 => ?_⟩⟩
      obtain ⟨w1, x1⟩ := j15.w.tk y1 k1
      have j16 := j15.draw x1 w1
      have rr16 := Rep.up (Fr.ext (Ext.sub j15.w.sub x1)) rr15
      refine ⟨_, rfl, (by omega), (by omega), ?_⟩
      refine for_range (lo := 0) (n := v1.toNat) (fun k σ H7 => ∃ (z10 z11 : Option V) (sts : List SO) (ost : List TD) (C : List (Int × Int)), σ = [some (.ref sa), some (.ref a), some (.ref Y.W), some (.ref O), some vc, z5, z6, z7, some (.ref Z.W), some vr, z10, z11, none, none, none, none] ∧ J54 K M15 P qF a tc (2900 - k) H7 Y O vc sts ost ⟨A, [], C⟩ ∧ sts.length = 40 + k ∧ rp K (Fr M15 H7) vr A ∧ ∀ y ∈ C, y.1 < (k : Nat)) ⟨_, _, sts, ost, [], rfl, j16, ls, rr16, (fun _ z => nomatch z)⟩ ?_ ?_
      · rintro k σ H7 hk ⟨z10, z11, sts, ost, C, rfl, j7, l7, rr7, c7⟩
        have hk2 : k < v1.toNat := hk
        have hN : 2900 - k = (2900 - (k + 1)) + 1 := by omega
        rw [hN] at j7
        generalize 2900 - (k + 1) = N at *
        have i0 : (0 : Int) ≤ 0 + (k : Int) := by omega
        have i1 : (0 : Int) + (k : Int) < (A.length : Nat) := by omega
        obtain ⟨at1, mem1⟩ := lineAt_at (p := A) i0 i1
        have hd := chs_pos _ (j7.d.fa _ mem1).1
        refine ⟨_, rfl, _, rfl, _, rfl, rd_ixL rr7 Fr.sub at1 fun u1 e1 => rd_p0 e1 Fr.sub fun u2 e2 => ?_⟩
        obtain rfl : u2 = V.int (lineAt A (0 + (k : Int))).1 := e2
        refine ⟨a, tc, N, (lineAt A (0 + (k : Int))).1, rfl, j7.w.t, (by omega), Sz.mono (sz54 (by omega) hd.2) (by decide), fun v2 H8 g2 l2 y2 k2 => ?_⟩
        obtain ⟨w2, x2⟩ := j7.w.tk y2 k2
        have j8 := j7.draw x2 w2
        have rr8 := Rep.up (Fr.ext (Ext.sub j7.w.sub x2)) rr7
        have tp := j8.top
        have lC : C.length ≤ 40 := by have := fix_len j8.d.fc; have q : C.length ≤ A.length := this; omega
        have nf : (0 : Int) + (k : Int) ∉ C.map Prod.fst := fun z => by
          obtain ⟨y, hy, e⟩ := List.mem_map.mp z
          have := c7 y hy
          omega
        refine ⟨_, rfl, Y.W, Y.dx, _, rfl, j8.w.n.o, nt_no, _, rfl, _, rfl, cl_Net_fix j8.w.n j8.w.al (by omega) i0 (by rw [tp]; exact i1) ⟨lineAt A (0 + (k : Int)), by rw [tp]; exact at1, l2⟩ g2 (by rw [tp]; exact lC) (by rw [tp]; exact nf) fun H10 x10 n10 a10 => ?_⟩
        rw [tp] at n10
        obtain ⟨w10, T10, c10, f10⟩ := j8.step x10 n10 a10
        have rr10 := Rep.up f10 rr8
        refine ⟨_, rfl, _, rfl, ?_⟩
        refine rd_lst (K := K) (xs := ([] : List N3)) w10.al (by decide) .nil fun u7 H11 s11 r7 => ?_
        have w11 := w10.same s11
        refine ⟨_, rfl, ow_0 w11.w fun u1 r1 => ⟨_, rfl, rd_ixL r1 Fr.sub (atI_last j8.last) fun u2 r2 => rd_t2 r2 Fr.sub fun u3 r3 => ?_⟩⟩
        refine ⟨_, rfl, _, rfl, rd_pair w11.al (show rp K _ (V.int (0 + (k : Int))) ((0 + (k : Int)) : Int) from rfl) (show rp K _ (V.int v2) (v2 : Int) from rfl) fun u4 H12 s12 r4 => ?_⟩
        refine rd_lst (K := K) (xs := [((0 + (k : Int)), v2)]) (w11.al.same s12) (by show 1 ≤ 1000; decide) (.cons r4 .nil) fun u5 H13 s13 r5 => ?_
        refine rd_cat ((w11.al.same s12).same s13) (Rep.up (Fr.same (s12.trans s13)) r3) r5 (by show C.length + 1 ≤ 100000; omega) fun u6 H14 s14 r6 => ?_
        have s14 := s12.trans (s13.trans s14)
        have w14 := w11.same s14
        refine cl__law_put (t := ⟨A, [], C ++ [((0 + (k : Int)), v2)]⟩) w14.w w14.al (by rw [j8.len]; omega) (Rep.up (Fr.same (s11.trans s14)) rr10) (Rep.up (Fr.same s14) r7) r6 fun H16 x16 a16 ow16 => ?_
        have j16 := j8.own w14 (tabS_same T10 (s11.trans s14)) (Rep.up (Fr.same (s11.trans s14)) c10) x16 a16 ow16 (j8.d.fix i0 i1 g2 l2 nf)
        refine ⟨_, _, _, _, _, rfl, j16, by simp; omega, Rep.up ((Fr.same (s11.trans s14)).trans (Fr.ext (Ext.sub (fun b z => by rw [show b = O from z]; exact w14.w.sub) x16))) rr10, fun y hy => ?_⟩
        rcases List.mem_append.mp hy with z | z
        · have := c7 y z
          omega
        · rw [List.mem_singleton.mp z]
          show (0 : Int) + (k : Int) < ((k + 1 : Nat) : Int)
          omega
      · rintro σ H7 ⟨z10, z11, sts, ost, C, rfl, j7, l7, rr7, c7⟩
        exact ⟨z10, z11, sts, ost, C, rfl, j7.less (by omega), by omega, rr7⟩
    clear ls ne ldl j15 rr15 tp0 d0 lA0
    rintro σ H7 ⟨z10, z11, sts, ost, C, rfl, j7, ls, rr7⟩
    refine ⟨_, rfl, ow_0 j7.w.w fun u1 r1 => ⟨_, rfl, rd_ixL r1 Fr.sub (atI_last j7.last) fun u2 r2 => rd_t2 r2 Fr.sub fun vf rf => ?_⟩⟩
    have rf7 : rp K (Fr M15 H7) vf C := rf
    clear rf r1 r2
    refine ⟨fun σ H7 => ∃ (z5 z13 : Option V) (sts : List SO) (ost : List TD) (B : List N3), σ = [some (.ref sa), some (.ref a), some (.ref Y.W), some (.ref O), some vc, z5, z6, z7, some (.ref Z.W), some vr, z10, z11, some vf, z13, none, none] ∧ J54 K M15 P qF a tc 1000 H7 Y O vc sts ost ⟨A, B, C⟩ ∧ B.length = 80 ∧ sts.length ≤ 160 ∧ rp K (Fr M15 H7) vr A ∧ rp K (Fr M15 H7) vf C, ?_, ?_⟩
    · refine ⟨_, rfl, (by omega), (by omega), ?_⟩
      refine for_range (lo := 0) (n := (80 : Int).toNat) (fun k σ H7 => ∃ (z5 z13 : Option V) (sts : List SO) (ost : List TD) (B : List N3), σ = [some (.ref sa), some (.ref a), some (.ref Y.W), some (.ref O), some vc, z5, z6, z7, some (.ref Z.W), some vr, z10, z11, some vf, z13, none, none] ∧ J54 K M15 P qF a tc (2000 - 3 * k) H7 Y O vc sts ost ⟨A, B, C⟩ ∧ B.length = k ∧ sts.length ≤ 80 + k ∧ rp K (Fr M15 H7) vr A ∧ rp K (Fr M15 H7) vf C) ⟨_, _, sts, ost, [], rfl, j7, rfl, ls, rr7, rf7⟩ ?_ ?_
      · rintro k σ H7 hk ⟨z5, z13, sts, ost, B, rfl, j7, lB, l7, rr7, rf7⟩
        have hk2 : k < 80 := hk
        have hN : 2000 - 3 * k = (2000 - 3 * (k + 1)) + 1 + 1 + 1 := by omega
        rw [hN] at j7
        generalize 2000 - 3 * (k + 1) = N at *
        refine ⟨_, rfl, ⟨a, tc, N + 1 + 1, 40, rfl, j7.w.t, (by decide), Sz.mono (sz61 (by decide) (by decide)) (by decide), fun v1 H8 g1 l1 y1 k1 => ?_⟩⟩
        obtain ⟨w1, x1⟩ := j7.w.tk y1 k1
        have j8 := j7.draw x1 w1
        have f8 := Fr.ext (Ext.sub j7.w.sub x1)
        refine ⟨_, rfl, ⟨a, tc, N + 1, 40, rfl, j8.w.t, (by decide), Sz.mono (sz61 (by decide) (by decide)) (by decide), fun v2 H9 g2 l2 y2 k2 => ?_⟩⟩
        obtain ⟨w2, x2⟩ := j8.w.tk y2 k2
        have j9 := j8.draw x2 w2
        have f9 := Fr.ext (Ext.sub j8.w.sub x2)
        refine ⟨_, rfl, _, _, rfl, rfl, ⟨by decide, by decide, by decide⟩, ⟨a, tc, N, (10 : Int) ^ (20 : Int).toNat, rfl, j9.w.t, (by decide), Sz.mono (sz54 (by decide +kernel) (by decide +kernel)) (by decide), fun v3 H10 g3 l3 y3 k3 => ?_⟩⟩
        obtain ⟨w3, x3⟩ := j9.w.tk y3 k3
        have j10 := j9.draw x3 w3
        have f10 := f8.trans (f9.trans (Fr.ext (Ext.sub j9.w.sub x3)))
        have l3 : v3 < 10 ^ 20 := l3
        refine rd_tup3 (K := K) j10.w.al fun u4 H11 s11 r4 => ?_
        have j11 := j10.same s11
        have rr11 := Rep.up (f10.trans (Fr.same s11)) rr7
        have rf11 := Rep.up (f10.trans (Fr.same s11)) rf7
        have tp := j11.top
        clear j7 j8 j9 j10 f8 f9 f10 x1 w1 x2 w2 x3 w3
        refine ⟨_, rfl, Y.W, Y.dx, _, rfl, j11.w.n.o, nt_no, _, rfl, rd_n0 r4 Fr.sub ⟨_, rfl, rd_n1 r4 Fr.sub ⟨_, rfl, rd_n2 r4 Fr.sub ?_⟩⟩⟩
        refine cl_Net_wish j11.w.n j11.w.al (by omega) g1 (by rw [tp]; show v1 < (A.length : Nat); omega) g2 (by rw [tp]; show v2 < (A.length : Nat); omega) g3 (by rw [tp]; show B.length < 80; omega) fun H12 x12 n12 a12 => ?_
        rw [tp] at n12
        obtain ⟨w12, T12, c12, f12⟩ := j11.step x12 n12 a12
        have rr12 := Rep.up f12 rr11
        have rf12 := Rep.up f12 rf11
        have r412 := Rep.up f12 r4
        refine ⟨_, rfl, _, rfl, ?_⟩
        refine ⟨_, rfl, ow_0 w12.w fun u1 r1 => ⟨_, rfl, rd_ixL r1 Fr.sub (atI_last j11.last) fun u2 r2 => rd_t1 r2 Fr.sub fun u3 r3 => ?_⟩⟩
        refine ⟨_, rfl, rd_lst (K := K) (xs := [(⟨v1, v2, v3⟩ : N3)]) w12.al (by show 1 ≤ 1000; decide) (.cons r412 .nil) fun u5 H13 s13 r5 => ?_⟩
        refine rd_cat (w12.al.same s13) (Rep.up (Fr.same s13) r3) r5 (by show B.length + 1 ≤ 100000; omega) fun u6 H14 s14 r6 => ?_
        have s14 := s13.trans s14
        have w14 := w12.same s14
        refine ⟨_, rfl, cl__law_put (t := ⟨A, B ++ [⟨v1, v2, v3⟩], C⟩) w14.w w14.al (by rw [j11.len]; omega) (Rep.up (Fr.same s14) rr12) r6 (Rep.up (Fr.same s14) rf12) fun H16 x16 a16 ow16 => ?_⟩
        have j16 := j11.own w14 (tabS_same T12 s14) (Rep.up (Fr.same s14) c12) x16 a16 ow16 (j11.d.want (by show B.length < 80; omega) ⟨⟨g1, l1⟩, ⟨g2, l2⟩, g3, l3⟩)
        have f16 := (Fr.same s14).trans (Fr.ext (M := M15) (Ext.sub (fun b (z : b = O) => by rw [z]; exact w14.w.sub) x16))
        exact ⟨_, _, _, _, _, rfl, j16, by simp; omega, by simp; omega, Rep.up f16 rr12, Rep.up f16 rf12⟩
      · rintro σ H7 ⟨z5, z13, sts, ost, B, rfl, j7, lB, l7, rr7, rf7⟩
        exact ⟨z5, z13, sts, ost, B, rfl, j7.less (by decide), lB, l7, rr7, rf7⟩
    clear ls j7 rr7 rf7
    rintro σ H7 ⟨z5, z13, sts, ost, B, rfl, j7, lB, ls, rr7, rf7⟩
    have tp := j7.top
    refine ⟨_, rfl, cl__law_refused j7.w.n j7.w.al ⟨by omega, .inr (.inr (.inl ⟨by decide, by rw [tp]; exact lA, by rw [tp]; exact lB, fun H8 s8 => ⟨_, rfl, iteF ?_⟩⟩))⟩⟩
    have j8 := j7.same s8
    refine ⟨_, rfl, cl__law_first_right j8.w.n j8.w.al (by rw [tp]; exact lA) fun H9 s9 => ⟨_, rfl, iteF ?_⟩⟩
    have j9 := j8.same s9
    refine ⟨_, rfl, _, rfl, cl__law_same j9.w.n j9.w.w j9.w.al j9.last0 j9.len (by omega) j9.fit fun H10 s10 => ⟨_, rfl, iteF ?_⟩⟩
    have j10 := j9.same s10
    have s7 := s8.trans (s9.trans s10)
    have rr10 := Rep.up (Fr.same (M := M15) s7) rr7
    have rf10 := Rep.up (Fr.same (M := M15) s7) rf7
    clear j7 j8 j9 rr7 rf7 s8 s9 s10 s7
    have dd := j10.d
    refine ⟨_, rfl, Y.W, Y.dx, _, rfl, j10.w.n.o, nt_no, cl_Net_plan (K := K) j10.w.n j10.w.al (by rw [hPe]; exact j10.mP) (by rw [hPe]; exact j10.T) (by rw [tp]; exact dd.pairs (by show 1 ≤ A.length; omega)) (by rw [tp]; exact dd.wish lA) (by rw [tp]; exact dd.fc) fun u1 H11 x11 t11 _ => ?_⟩
    rw [hPe] at x11 t11
    have j11 := j10.plan x11 t11
    have f11 := Fr.ext (M := M15) (Ext.sub (fun b (z : b = P) => by rw [z]; exact j10.mP) x11)
    have rr11 := Rep.up f11 rr10
    have rf11 := Rep.up f11 rf10
    clear f11 x11 t11 j10 rr10 rf10
    refine ⟨_, rfl, ⟨a, tc, 900, 80, rfl, (j11.less (show 900 + 1 ≤ 1000 by decide)).w.t, (by decide), Sz.mono (sz61 (by decide) (by decide)) (by decide), fun v1 H12 g1 l1 y1 k1 => ?_⟩⟩
    obtain ⟨w1, x1⟩ := j11.w.tk y1 k1
    have j12 := j11.draw x1 w1
    have f12 := Fr.ext (M := M15) (Ext.sub j11.w.sub x1)
    have rr12 := Rep.up f12 rr11
    have rf12 := Rep.up f12 rf11
    clear f12 j11 rr11 rf11 x1 w1
    refine ⟨_, rfl, ow_0 j12.w.w fun u1 r1 => ⟨_, rfl, rd_ixL r1 Fr.sub (atI_last j12.last) fun u2 r2 => rd_t1 r2 Fr.sub fun vw rw12 => ?_⟩⟩
    have rw12 : rp K (Fr M15 H12) vw B := rw12
    clear r1 r2
    obtain ⟨lcut, mcut⟩ := cut54 (B := B) g1 (by omega)
    refine ⟨_, rfl, Y.W, Y.dx, _, rfl, j12.w.n.o, nt_no, _, rfl, cl_Net_drop j12.w.n j12.w.al (by omega) g1 (by rw [tp]; show v1 < (B.length : Nat); omega) (by rw [tp]; show B.length ≤ 80; omega) fun H13 x13 n13 a13 => ?_⟩
    rw [tp] at n13
    obtain ⟨w13, T13, c13, f13⟩ := j12.step x13 n13 a13
    have rr13 := Rep.up f13 rr12
    have rf13 := Rep.up f13 rf12
    have rw13 := Rep.up f13 rw12
    refine ⟨_, rfl, _, rfl, ?_⟩
    refine ⟨_, rfl, _, rfl, _, rfl, rd_sl (lo := none) (hi := some v1) w13.al rw13 fun u1 H14 s14 r14 => ?_⟩
    refine ⟨_, rfl, _, rfl, _, _, rfl, rfl, _, rfl, rd_sl (lo := some (v1 + 1)) (hi := none) (w13.al.same s14) (Rep.up (Fr.same s14) rw13) fun u2 H15 s15 r15 => ?_⟩
    refine rd_cat ((w13.al.same s14).same s15) (Rep.up (Fr.same s15) r14) r15 (by rw [← List.length_append]; omega) fun u3 H16 s16 r16 => ?_
    have s36 := s14.trans (s15.trans s16)
    have w16 := w13.same s36
    obtain ⟨B2, hB2⟩ : ∃ z, z = cutX B none (some v1) ++ cutX B (some (v1 + 1)) none := ⟨_, rfl⟩
    rw [← hB2] at lcut mcut r16 w16
    refine ⟨_, rfl, cl__law_put (t := ⟨A, B2, C⟩) w16.w w16.al (by rw [j12.len]; omega) (Rep.up (Fr.same s36) rr13) r16 (Rep.up (Fr.same s36) rf13) fun H17 x17 a17 ow17 => ?_⟩
    have j17 := j12.own w16 (tabS_same T13 s36) (Rep.up (Fr.same s36) c13) x17 a17 ow17 (j12.d.drop (by omega) mcut)
    have f17 := (Fr.same s36).trans (Fr.ext (M := M15) (Ext.sub (fun b (z : b = O) => by rw [z]; exact w16.w.sub) x17))
    have rr17 := Rep.up f17 rr13
    have rf17 := Rep.up f17 rf13
    have lq : (sts ++ [(⟨⟨A, B2, C⟩⟩ : SO)]).length = sts.length + 1 := by simp
    generalize sts ++ [(⟨⟨A, B2, C⟩⟩ : SO)] = st2 at *
    generalize ost ++ [(⟨A, B2, C⟩ : TD)] = os2 at *
    clear j12 w13 w16 T13 c13 f13 rr13 rf13 rw13 rr12 rf12 rw12 n13 a13 x13 r14 r15 r16 s36 s14 s15 s16 f17 x17 a17 ow17
    have tp := j17.top
    refine ⟨_, rfl, _, rfl, cl__law_same j17.w.n j17.w.w j17.w.al j17.last0 j17.len (by omega) j17.fit fun H18 s18 => ⟨_, rfl, iteF ?_⟩⟩
    have j18 := j17.same s18
    refine ⟨_, rfl, cl__law_refused j18.w.n j18.w.al ⟨by omega, .inr (.inr (.inr ⟨by decide, by rw [tp]; exact lA, by rw [tp]; show B2.length < 80; omega, fun H19 x19 n19 a19 => ⟨_, rfl, iteF ?_⟩⟩))⟩⟩
    rw [tp] at n19
    obtain ⟨w19, T19, c19, f19⟩ := j18.step x19 n19 a19
    refine ⟨_, rfl, cl__law_refused w19.n w19.al ⟨by rw [List.length_append, List.length_singleton]; omega, .inr (.inr (.inl ⟨by decide, by rw [topS_app]; exact lA, by rw [topS_app]; show (B2 ++ [_]).length = 80; rw [List.length_append, List.length_singleton]; omega, fun H20 s20 => ⟨_, rfl, iteF ?_⟩⟩))⟩⟩
    have w20 := w19.same s20
    have f20 := (Fr.same (M := M15) s18).trans (f19.trans (Fr.same s20))
    have rr20 := Rep.up f20 rr17
    have rf20 := Rep.up f20 rf17
    refine ⟨_, rfl, _, rfl, ?_⟩
    refine ⟨_, rfl, ow_0 w20.w fun u1 r1 => ⟨_, rfl, rd_ixL r1 Fr.sub (atI_last j18.last) fun u2 r2 => rd_t1 r2 Fr.sub fun u3 r3 => ?_⟩⟩
    refine rd_tup3 (K := K) w20.al fun u4 H21 s21 r4 => ?_
    refine rd_lst (K := K) (xs := [(⟨0, 39, 5⟩ : N3)]) (w20.al.same s21) (by show 1 ≤ 1000; decide) (.cons r4 .nil) fun u5 H22 s22 r5 => ?_
    refine rd_cat ((w20.al.same s21).same s22) (Rep.up (Fr.same (s21.trans s22)) r3) r5 (by show B2.length + 1 ≤ 100000; omega) fun u6 H23 s23 r6 => ?_
    have s03 := s21.trans (s22.trans s23)
    have w23 := w20.same s03
    refine ⟨_, rfl, cl__law_put (t := ⟨A, B2 ++ [⟨0, 39, 5⟩], C⟩) w23.w w23.al (by rw [j18.len]; omega) (Rep.up (Fr.same s03) rr20) r6 (Rep.up (Fr.same s03) rf20) fun H24 x24 a24 ow24 => ?_⟩
    have j24 := j18.own w23 (tabS_same T19 (s20.trans s03)) (Rep.up (Fr.same (s20.trans s03)) c19) x24 a24 ow24 (j18.d.want (by show B2.length < 80; omega) ⟨⟨by decide, by decide⟩, ⟨by decide, by decide⟩, by decide, by decide⟩)
    have lq3 : (st2 ++ [(⟨⟨A, B2 ++ [⟨0, 39, 5⟩], C⟩⟩ : SO)]).length = st2.length + 1 := by simp
    generalize st2 ++ [(⟨⟨A, B2 ++ [⟨0, 39, 5⟩], C⟩⟩ : SO)] = st3 at *
    generalize os2 ++ [(⟨A, B2 ++ [⟨0, 39, 5⟩], C⟩ : TD)] = os3 at *
    refine ⟨_, rfl, Y.W, Y.dx, _, rfl, j24.w.n.o, nt_no, cl_Net_twin j24.w.n j24.w.al fun Z3 H25 s25 f25 n25 g25 a25 => ?_⟩
    have dZ3 : ∀ b, nM Z3 b → ¬ opM a tc Y O b := fun b z y => j24.ex b y (f25 b z)
    have j25 := j24.add g25 s25 a25
    refine ⟨_, rfl, _, rfl, cl__law_same j25.w.n j25.w.w j25.w.al j25.last0 j25.len (by omega) j25.fit fun H26 s26 => ⟨_, rfl, iteT ?_⟩⟩
    have j26 := j25.same s26
    have n26 := n25.same s26
    refine ⟨_, rfl, _, rfl, ow_0 j26.w.w fun u1 r1 => rd_len r1 Fr.sub ?_⟩
    refine ⟨_, _, rfl, rfl, cl__law_undone n26 (a25.same s26) (Nat.zero_le _) (by omega) (by rw [j26.len]; omega) fun M27 H27 g27 a27 x27 => ⟨_, rfl, iteT ?_⟩⟩
    have j27 := j26.other g27 x27 a27 (nt_kind n26) dZ3
    exact ⟨_, rfl, _, rfl, cl__law_same j27.w.n j27.w.w j27.w.al j27.last0 j27.len (by omega) j27.fit fun H28 _ => hq H28⟩
end
end My
open PySem PySem.W PySem.Calls PyProof.Rows
set_option maxHeartbeats 0 in
theorem PySem.Challenge.cw_onwardlines_k54_full_nets_holds : PySem.Challenge.rw_onwardlines_k54_full_nets.Holds := by
  w_on; o_law
  refine HandSHeadRun.head_any (r := My.R) (q := view My.R.prog [40]) (H := My.hk) (ob := My.ob) (M := 20000) (loose := My.loose) (d := HandSHeadRun.topDef My.R.prog 40) (kwd := []) My.ob_eq (by kernel_rfl) (fun s => by kernel_rfl) My.run (by kernel_rfl) (by kernel_rfl) (by kernel_rfl) (by rfl) (by first | assumption | decide +kernel) (by decide +kernel) ⟨rfl, rfl, rfl, rfl, rfl, by decide +kernel⟩ ?hw ?hc
  case hw => w_witness2
  case hc =>
    exact Fw.endMGT (tf := My.tfA) (l := PySem.Challenge.rw_onwardlines_k54_full_nets) (k := 24) (N := 6) (spL := My.sp_law) rfl (by kernel_rfl) ⟨rfl, by decide, by decide⟩ (by kernel_rfl)
      (fun w K mg base Z _ _ TB => My.ok_law Z TB) (fun K mg Z => My.g_law Z) (fun K mg Z s u => Fw.Fun.bindsAny (My.u_law Z) s u (fun _ _ _ _ _ _ => rfl)) (fun K H a ns hl hT hS => ⟨a, ns, rfl, hS, hl, hT, fun _ => rfl⟩)
