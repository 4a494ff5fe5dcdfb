import PyProof.Rows.All
import Wide.All
import OpenK.AllK
import Wide.FinOn
import KE.KStateDown
import KE.KSuper
import KE.DatumIndex
import HandS.ForMost
import HandS.ForExc
import HandS.Wide
import HandS.WideBits
import HandS.Property
import HandS.Star
import HandS.IsInst
import HandS.FStr
import HandS.RaiseMore
import HandS.OwnEq
import HandS.Flow
import HandS.Style
import HandS.TryMany
import HandS.MakeKw
import HandS.Defaults
import HandS.Zip
import HandS.Head2
import HandS.HeadEnd
import HandS.HeadHook2
import HandS.Nested
import PyProof.ReprRoads
import PyProof.Rows.StrDigitsNeg
import HandS.Walk
import PyProof.AttrMiss
import OpenK.KCls
import KE.KOpsOwn
import HandS.Conv
import PyProof.InstNe
import PySem.Challenge.RW_onwardlines_k07_lines_backward
set_option Elab.async false
set_option linter.all false
set_option maxRecDepth 100000
set_option maxHeartbeats 4000000
/-! Fw, part A: what the top has left, read by a hook of our own: checks of the written part, and defs by their places. -/
namespace Fw
open PySem PySem.Spec PyProof.Rows L2
open He (ga ma frG growD frG_in eqO eqO_ok relB relB_ok)
abbrev Frag := PySem.W.Frag
abbrev Ck := Frag → Bool
/-- the function at f: its name, qualified name, parameters, body, scope, the names it closes over -/
abbrev FnM : Type := Option (Str × Str × Arguments × FuncBody × Scope × Addr × List Str × Value × Addr)
def fnM (K : Frag) (f : Addr) : FnM := match K.lookup f with
  | some ⟨_, _, .func fd, _⟩ => some (fd.name, fd.qualname, fd.params, fd.body, fd.scope, fd.globals, fd.closure.map (fun c => c.1), fd.defaults, fd.builtins)
  | _ => none
structure DefM where
  at_ : Frag → Addr
  name : Str
  qual : Str
  st : Stmt
  clo : List Str := []
def DefM.val (d : DefM) : FnM := some (d.name, d.qual, defArgs d.st, .stmts (defBody d.st), defScope d.st, mainGlobals, d.clo, .none, builtinsNs)
def DefM.ok (K : Frag) (d : DefM) : Bool := PySem.W.keepIn K (.ref (d.at_ K)) && (match K.lookup (d.at_ K) with
  | some ⟨_, _, .func fd, _⟩ => PySem.W.codeIn K fd.code d.qual
  | _ => false)
/-- the function object at f -/
def fdAt (K : Frag) (f : Addr) : FuncData := match K.lookup f with
  | some ⟨_, _, .func fd, _⟩ => fd
  | _ => PySem.W.fnOf Str.empty Str.empty ⟨[], [], none, [], [], none, []⟩ [] ⟨.function, [], false, false, []⟩ .none .none .none .none none .none .none
theorem DefM.fun {K : Frag} {d : DefM} (e : fnM K (d.at_ K) = d.val) (c : d.ok K = true) (hc : d.clo = []) : Fun K d.name d.qual d.st (d.at_ K) (fdAt K (d.at_ K)) := by
  obtain ⟨kp, c2⟩ := Bool.and_eq_true_iff.mp c
  unfold fnM at e
  unfold fdAt
  cases q : K.lookup (d.at_ K) with
  | none => rw [q] at c2; cases c2
  | some o =>
    obtain ⟨oc, od, dt, osl⟩ := o
    rw [q] at c2 e
    cases dt with
    | func fd =>
      obtain ⟨n1, n2, n3, n4, n5, n6, n7, n8, n9, n10, n11, n12, n13, n14, n15⟩ := fd
      have e2 : (some (n1, n2, n3, n4, n5, n6, n7.map (fun c => c.1), n8, n15) : FnM) = some (d.name, d.qual, defArgs d.st, .stmts (defBody d.st), defScope d.st, mainGlobals, d.clo, .none, builtinsNs) := e
      rw [hc] at e2
      simp only [Option.some.injEq, Prod.mk.injEq, List.map_eq_nil_iff] at e2
      obtain ⟨h1, h2, h3, h4, h5, h6, h7, h8, h9⟩ := e2
      subst h1 h2 h3 h4 h5 h6 h7 h8 h9
      exact ⟨⟨oc, od, n9, n10, n11, n12, n13, n14, osl, rfl, q, c2⟩, kp⟩
    | _ => cases c2
/-- a def that closes over one name -/
structure FunC (K : Frag) (x qual y : Str) (st : Stmt) (f : Addr) : Prop where
  ex : ∃ (oc : Value) (od : Option Addr) (cc : Addr) (kV doc pm : Value) (an : Option Addr) (cdv ct : Value) (osl : Array (Option Value)),
    K.lookup f = some ⟨oc, od, .func (PySem.W.fnX x qual (defArgs st) (defBody st) (defScope st) [(y, cc)] .none kV doc pm an cdv ct), osl⟩ ∧ PySem.W.codeIn K cdv qual = true
  kp : PySem.W.keepIn K (.ref f) = true
theorem DefM.func {K : Frag} {d : DefM} {y : Str} (e : fnM K (d.at_ K) = d.val) (c : d.ok K = true) (hc : d.clo = [y]) : FunC K d.name d.qual y d.st (d.at_ K) := by
  obtain ⟨kp, c2⟩ := Bool.and_eq_true_iff.mp c
  unfold fnM at e
  cases q : K.lookup (d.at_ K) with
  | none => rw [q] at c2; cases c2
  | some o =>
    obtain ⟨oc, od, dt, osl⟩ := o
    rw [q] at c2 e
    cases dt with
    | func fd =>
      obtain ⟨n1, n2, n3, n4, n5, n6, n7, n8, n9, n10, n11, n12, n13, n14, n15⟩ := fd
      have e2 : (some (n1, n2, n3, n4, n5, n6, n7.map (fun c => c.1), n8, n15) : FnM) = some (d.name, d.qual, defArgs d.st, .stmts (defBody d.st), defScope d.st, mainGlobals, d.clo, .none, builtinsNs) := e
      rw [hc] at e2
      simp only [Option.some.injEq, Prod.mk.injEq] at e2
      obtain ⟨h1, h2, h3, h4, h5, h6, h7, h8, h9⟩ := e2
      obtain ⟨cc, rfl⟩ : ∃ cc, n7 = [(y, cc)] := by
        match n7, h7 with
        | [(a, b)], h7 =>
          simp only [List.map_cons, List.map_nil, List.cons.injEq, and_true] at h7
          exact ⟨b, by rw [h7]⟩
      subst h1 h2 h3 h4 h5 h6 h8 h9
      exact ⟨⟨oc, od, cc, n9, n10, n11, n12, n13, n14, osl, q, c2⟩, kp⟩
    | _ => cases c2

/-! ### the hook -/
/-- what the module's names and the statics reach in n steps -/
def asM (g : Addr → Option Obj) : Nat → List Addr
  | 0 => [mainGlobals, cStatics]
  | n + 1 => growD g (asM g n)
abbrev AlM : Type := Bool × List FnM
def obsM (ck : List Ck) (fn : List DefM) (K : Frag) : AlM := ((ck.all fun f => f K) && fn.all fun d => d.ok K, fn.map fun d => fnM K (d.at_ K))
def valM (fn : List DefM) : AlM := (true, fn.map DefM.val)
def SaysM (ck : List Ck) (fn : List DefM) (K : Frag) : Prop := obsM ck fn K = valM fn
def obsMG (n : Nat) (ck : List Ck) (fn : List DefM) (g : Addr → Option Obj) : AlM := obsM ck fn (frG g (asM g n))
def hookM (n : Nat) (ck : List Ck) (fn : List DefM) : PySem.W.Hook where
  α := AlM
  obs := fun s => obsMG n ck fn s.heap.get?
  val := fun _ => valM fn
  says := fun _ h => ∃ K : Frag, K.In h ∧ SaysM ck fn K
  of := fun _ _ e => ⟨_, frG_in, e⟩
  keeps := fun _ _ _ ⟨K, hK, c⟩ k => ⟨K, PySem.W.Frag.In.keeps hK k, c⟩
theorem obsMG_eq {n : Nat} {ck : List Ck} {fn : List DefM} {g : Addr → Option Obj} {s : Shared} (h : ∀ a, g a = s.heap.get? a) : obsMG n ck fn g = (hookM n ck fn).obs s := by
  have e : g = s.heap.get? := funext h
  rw [e] <;> rfl
/-- what the end leans on -/
structure Zs (ck : List Ck) (fn : List DefM) (K : Frag) (mg : Str → Option Value) : Prop where
  says : SaysM ck fn K
  ns : ∃ h : Heap, K.In h ∧ h.Ns mainGlobals mg
section
variable {ck : List Ck} {fn : List DefM} {K : Frag} {mg : Str → Option Value}
theorem Zs.c (Z : Zs ck fn K mg) (i : Nat) {f : Ck} (h : ck[i]? = some f := by rfl) : f K = true := by
  have c1 := (Bool.and_eq_true_iff.mp (show ((ck.all fun f => f K) && fn.all fun d => d.ok K) = true from congrArg (fun z : AlM => z.1) Z.says)).1
  exact List.all_eq_true.mp c1 f (List.mem_of_getElem? h)
theorem Zs.f0 (Z : Zs ck fn K mg) (i : Nat) {d : DefM} (h : fn[i]? = some d) : fnM K (d.at_ K) = d.val ∧ d.ok K = true := by
  have c2 := (Bool.and_eq_true_iff.mp (show ((ck.all fun f => f K) && fn.all fun d => d.ok K) = true from congrArg (fun z : AlM => z.1) Z.says)).2
  have e : fn.map (fun d => fnM K (d.at_ K)) = fn.map DefM.val := congrArg (fun z : AlM => z.2) Z.says
  have e2 : (fn.map fun d => fnM K (d.at_ K))[i]? = (fn.map DefM.val)[i]? := by rw [e]
  rw [List.getElem?_map, List.getElem?_map, h] at e2
  exact ⟨Option.some.inj e2, List.all_eq_true.mp c2 d (List.mem_of_getElem? h)⟩
theorem Zs.f (Z : Zs ck fn K mg) (i : Nat) {d : DefM} (h : fn[i]? = some d := by rfl) (hc : d.clo = [] := by rfl) : Fun K d.name d.qual d.st (d.at_ K) (fdAt K (d.at_ K)) :=
  DefM.fun (Z.f0 i h).1 (Z.f0 i h).2 hc
theorem Zs.fc (Z : Zs ck fn K mg) (i : Nat) {d : DefM} {y : Str} (h : fn[i]? = some d := by rfl) (hc : d.clo = [y] := by rfl) : FunC K d.name d.qual y d.st (d.at_ K) :=
  DefM.func (Z.f0 i h).1 (Z.f0 i h).2 hc
end
/-! ### checks -/
def cGlo (x : Str) : Ck := fun K => (He.Fa.glo x).ok K
def cFree (x : Str) : Ck := fun K => (He.Fa.free x).ok K
def cInt (x : Str) (i : Int) : Ck := fun K => (He.Fa.int x i).ok K
def cCls (x : Str) : Ck := fun K => (He.Fa.cls x).ok K
def cNoat (x f : Str) : Ck := fun K => (He.Fa.noat x f).ok K
def cMeth (x m : Str) : Ck := fun K => (He.Fa.meth x m).ok K
def cMkr (x : Str) : Ck := fun K => (He.Fa.mkr x).ok K
def cKeep (x : Str) : Ck := fun K => (He.Fa.keep x).ok K
/-- the property f of the class named x; its getter -/
def prA (K : Frag) (C : Addr) (f : Str) : Addr := match PySem.W.recIn K (ma K C f) "property" with
  | some (.ref g :: _) => g
  | _ => 0
def cProp (x f : Str) : Ck := fun K => eqO (PySem.W.findIn K (.ref (ga K x)) f) (some (some (.ref (ma K (ga K x) f)))) &&
  (eqO (PySem.W.specialIn K (.ref (ma K (ga K x) f)) "__get__") (some (some (.builtin "property.__get__"))) && (decide (PySem.W.takesIn K (.ref (ma K (ga K x) f)) = some true) &&
  (match PySem.W.recIn K (ma K (ga K x) f) "property" with
  | some (.ref g :: _) => true
  | _ => false)))
/-- the same getter in both classes -/
def cSameP (x y f : Str) : Ck := fun K => decide (prA K (ga K x) f = prA K (ga K y) f)
def cSameM (x y f : Str) : Ck := fun K => decide (ma K (ga K x) f = ma K (ga K y) f)
/-- an instance of the class named x may be called -/
def cCall (x : Str) : Ck := fun K => eqO (PySem.W.findIn K (.ref (ga K x)) "__call__") (some (some (.ref (ma K (ga K x) "__call__")))) && (PySem.W.isFn K (.ref (ma K (ga K x) "__call__")) && PySem.W.fnIn K (ma K (ga K x) "__call__"))
/-- a text constant of a class -/
def cCon (x f z : Str) : Ck := fun K => (match PySem.W.findIn K (.ref (ga K x)) f with
  | some (some (.str y t)) => decide (y = z) && (eqO (PySem.W.specialIn K (.str y t) "__get__") (some none))
  | _ => false)
section
variable {K : Frag} {mg : Str → Option Value} {ck : List Ck} {fn : List DefM}
theorem Zs.glo (Z : Zs ck fn K mg) {x : Str} (c : cGlo x K = true) : mg x = some (.ref (ga K x)) := let ⟨_, X, G⟩ := Z.ns; He.glo_ok X G c
theorem Zs.free (Z : Zs ck fn K mg) {x : Str} (c : cFree x K = true) : mg x = none := let ⟨_, X, G⟩ := Z.ns; He.free_ok X G c
theorem Zs.int (Z : Zs ck fn K mg) {x : Str} {i : Int} (c : cInt x i K = true) : ∃ u, mg x = some u ∧ RelV (.int i) u := let ⟨_, X, G⟩ := Z.ns; let ⟨t, e⟩ := He.int_ok X G c; ⟨_, e, t, rfl⟩
theorem cls_of {x : Str} (c : cCls x K = true) : Cls K (ga K x) := He.cls_ok c
theorem noat_of {x f : Str} (c : cNoat x f K = true) : NoAttr K (ga K x) f := He.noat_ok c
theorem meth_of {x m : Str} (c : cMeth x m K = true) : Meth K (ga K x) m (ma K (ga K x) m) := He.meth_ok c
theorem mkr_of {x : Str} (c : cMkr x K = true) : Mk K (ga K x) (ma K (ga K x) "__init__") := He.mkr_ok c
theorem prop_of {x f : Str} (c : cProp x f K = true) : PropOf K (ga K x) f (ma K (ga K x) f) (prA K (ga K x) f) := by
  obtain ⟨c1, c⟩ := Bool.and_eq_true_iff.mp c
  obtain ⟨c2, c⟩ := Bool.and_eq_true_iff.mp c
  obtain ⟨c3, c4⟩ := Bool.and_eq_true_iff.mp c
  refine ⟨eqO_ok c1, eqO_ok c2, of_decide_eq_true c3, ?_⟩
  unfold prA
  cases e : PySem.W.recIn K (ma K (ga K x) f) "property" with
  | none => rw [e] at c4; cases c4
  | some l =>
    rw [e] at c4
    match l, c4 with
    | (.ref g :: r), _ => exact ⟨r, rfl⟩
theorem call_of {x : Str} (c : cCall x K = true) : StX.CallO K (ga K x) (ma K (ga K x) "__call__") := by
  obtain ⟨c1, c⟩ := Bool.and_eq_true_iff.mp c
  obtain ⟨c2, c3⟩ := Bool.and_eq_true_iff.mp c
  exact ⟨eqO_ok c1, c2, c3⟩
theorem con_of {x f z : Str} (c : cCon x f z K = true) (cp : PySem.W.copiedNames.contains f = false) : ∃ u, Con K (ga K x) f (.str z) u := by
  unfold cCon at c
  cases e : PySem.W.findIn K (.ref (ga K x)) f with
  | none => rw [e] at c; cases c
  | some r =>
    rw [e] at c
    match r, c, e with
    | some (.str y t), c, e =>
      obtain ⟨c1, c2⟩ := Bool.and_eq_true_iff.mp c
      have e1 : y = z := of_decide_eq_true c1
      exact ⟨.str y t, e, ⟨t, by rw [e1]⟩, eqO_ok c2, cp⟩
end
theorem Fun.bindsAny {K : Frag} {x qual y : Str} {st : Stmt} {f : Addr} {fd : FuncData} (F : Fun K x qual st f fd) (s : Shared) (u : Value)
    (h : ∀ (kV doc pm : Value) (an : Option Addr) (cdv ct : Value), bindArgs (PySem.W.fnOf x qual (defArgs st) (defBody st) (defScope st) .none kV doc pm an cdv ct) ⟨[u], []⟩ = pure [(y, u)]) : BindsTo s fd ⟨[u], []⟩ [(y, u)] := by
  obtain ⟨oc, od, kV, doc, pm, an, cdv, ct, osl, rfl, lk, hcd⟩ := F.ex
  exact .of_eq (h kV doc pm an cdv ct)
/-! ### the end: a law's def keeps its promise -/
theorem endM {l : PySem.W.OpenLaw} {k N : Nat} {q : Program} {loose : List Str} {d : DefRec} {ck : List Ck} {fn : List DefM} {XP : (Str → Option Value) → Heap → Prop} {spL : Frag → Sp}
    (hn : l.most = some 63) (hdf : d.params.defaults = []) (hr : Room k callerA) (hd : d.name = ("law" : Str))
    (F : ∀ (w : World) (K : Frag) (mg : Str → Option Value) (base : Heap), Zs ck fn K mg → K.In base → base.Ns mainGlobals mg → FnOk l.prog w K mg base (L2.CX l.prog w) k (ga K "law") (fdAt K (ga K "law")) ["script"] (spL K))
    (hg : ∀ (K : Frag) (mg : Str → Option Value), Zs ck fn K mg → mg "law" = some (.ref (ga K "law")))
    (hb : ∀ (K : Frag) (mg : Str → Option Value), Zs ck fn K mg → ∀ (s : Shared) (u : Value), BindsTo s (fdAt K (ga K "law")) ⟨[u], []⟩ [("script", u)])
    (hs : ∀ (K : Frag) (H : Hp) (a : Addr) (ns : List Int), ns.length ≤ 63 → Only H → SqL K H a (ns.map V.int) → spL K [.ref a] H (fun v _ => v = .bl true) fun _ _ _ => False) :
    PySem.W.WalkO q loose XP (hookM N ck fn).says l.row.toRowW d [] (fun f vs => PySem.call f vs) := by
  refine Att.attach_call hn hdf fun w s₀ s₁ mg mb fa o pm cd doc a vs ns G Y ho hd' hcd hmg hobj hints hlen hgn => ?_
  obtain ⟨K, KX, c⟩ := Y
  have Z : Zs ck fn K mg := ⟨c, _, KX, G.T.g⟩
  have e : fa = ga K "law" := by
    have h1 := hg K mg Z
    rw [hd] at hmg
    rw [hmg] at h1
    cases h1
    rfl
  subst e
  exact law_call KX G.T.g G.T.b G.T.builtins G.T.nolimit hgn hobj hints (Nat.le_trans hlen (by decide)) hr (fun base h1 h2 => F w K mg base Z h1 h2) (hb K mg Z) (fun H hO hS => hs K H a ns hlen hO hS) fun H e s' h => by
    obtain ⟨_, _, _, _, _, _, _, _, _, _, _, _, z⟩ := h
    exact z.elim
end Fw

/-! Fw, part B: an __init__ that says super().__init__(..) and no more. -/
namespace Fw
open PySem PySem.Spec PyProof.Rows L2
open He (ga ma eqO eqO_ok)
/-- the address that a cell holds; the file that a code object names -/
def cellOf (K : Frag) (cc : Addr) : Option Addr := match K.lookup cc with
  | some ⟨_, _, .cell (some (.ref a)), _⟩ => some a
  | _ => none
theorem cellOf_ok {K : Frag} {cc D : Addr} (h : cellOf K cc = some D) : ∃ cl cld csl, K.lookup cc = some ⟨cl, cld, .cell (some (.ref D)), csl⟩ := by
  unfold cellOf at h
  split at h
  · rename_i a b c d e
    cases h
    exact ⟨_, _, _, e⟩
  · cases h
def fileOf (K : Frag) (v : Value) : Option Str := match v with
  | .ref c => (match K.lookup c with
    | some ⟨_, _, .fields vs, _⟩ => (match (vs.toList[2]? : Option Value) with
      | some (.str y _) => some y
      | _ => none)
    | _ => none)
  | _ => none
theorem fileOf_ok {K : Frag} {v : Value} {z : Str} (h : fileOf K v = some z) : ∃ c ccl cdd vs ccs t, v = .ref c ∧ K.lookup c = some ⟨ccl, cdd, .fields vs, ccs⟩ ∧ vs.toList[2]? = some (.str z t) := by
  unfold fileOf at h
  split at h
  · split at h
    · split at h
      · rename_i e1 _ _ _ e2
        cases h
        exact ⟨_, _, _, _, _, _, rfl, by assumption, by assumption⟩
      · cases h
    · cases h
  · cases h
def cloCell (K : Frag) (f : Addr) : Option Addr := match K.lookup f with
  | some ⟨_, _, .func fd, _⟩ => (match fd.closure with
    | [p] => cellOf K p.2
    | _ => none)
  | _ => none
def fnFile (K : Frag) (f : Addr) : Option Str := match K.lookup f with
  | some ⟨_, _, .func fd, _⟩ => fileOf K fd.code
  | _ => none
/-- what of the written part such a def leans on: f the def, D its class, f2 the __init__ of the class above, z the text's file -/
def supB (K : Frag) (f D f2 : Addr) (z : Str) : Bool :=
  decide (cloCell K f = some D) && (decide (fnFile K f = some z) &&
  ((PySem.W.clsIn K D).isSome && (decide (PySem.W.mroIn K D (.ref D) = some true) && (eqO (PySem.W.ks_superIn K D D "__init__") (some (some (.ref f2))) &&
  (decide (PySem.W.typeIn K (.ref f2) = some (.type "function")) && (PySem.W.fnIn K f2 && (eqO (PySem.W.nsIn K mainGlobals "super") (some none) && eqO (PySem.W.nsIn K cStatics "thirdparty.any") (some none))))))))
def cSup (x y z : Str) : Ck := fun K => supB K (ma K (ga K x) "__init__") (ga K x) (ma K (ga K y) "__init__") z
structure SupOk (K : Frag) (f D f2 : Addr) (z : Str) (cc : Addr) (cdv : Value) : Prop where
  cell : ∃ cl cld csl, K.lookup cc = some ⟨cl, cld, .cell (some (.ref D)), csl⟩
  code : ∃ c ccl cdd vs ccs t, cdv = .ref c ∧ K.lookup c = some ⟨ccl, cdd, .fields vs, ccs⟩ ∧ vs.toList[2]? = some (.str z t)
  cls : ∃ cd, PySem.W.clsIn K D = some cd
  mro : PySem.W.mroIn K D (.ref D) = some true
  sup : PySem.W.ks_superIn K D D "__init__" = some (some (.ref f2))
  ty : PySem.W.typeIn K (.ref f2) = some (.type "function")
  fi : PySem.W.fnIn K f2 = true
  bsup : PySem.W.nsIn K mainGlobals "super" = some none
  thrd : PySem.W.nsIn K cStatics "thirdparty.any" = some none
theorem supB_ok {K : Frag} {f D f2 : Addr} {z : Str} {fd : FuncData} {oc : Value} {od : Option Addr} {osl : Array (Option Value)} {y : Str} {cc : Addr} (h : supB K f D f2 z = true) (hf : K.lookup f = some ⟨oc, od, .func fd, osl⟩) (hc : fd.closure = [(y, cc)]) : SupOk K f D f2 z cc fd.code := by
  obtain ⟨h0, h⟩ := Bool.and_eq_true_iff.mp h
  obtain ⟨h1, h⟩ := Bool.and_eq_true_iff.mp h
  obtain ⟨h2, h⟩ := Bool.and_eq_true_iff.mp h
  obtain ⟨h3, h⟩ := Bool.and_eq_true_iff.mp h
  obtain ⟨h4, h⟩ := Bool.and_eq_true_iff.mp h
  obtain ⟨h5, h⟩ := Bool.and_eq_true_iff.mp h
  obtain ⟨h6, h⟩ := Bool.and_eq_true_iff.mp h
  obtain ⟨h7, h8⟩ := Bool.and_eq_true_iff.mp h
  have c1 : cloCell K f = some D := of_decide_eq_true h0
  have c2 : fnFile K f = some z := of_decide_eq_true h1
  unfold cloCell at c1
  unfold fnFile at c2
  rw [hf] at c1 c2
  dsimp only at c1 c2
  rw [hc] at c1
  exact ⟨cellOf_ok c1, fileOf_ok c2, Option.isSome_iff_exists.mp h2, of_decide_eq_true h3, eqO_ok h4, of_decide_eq_true h5, h6, eqO_ok h7, eqO_ok h8⟩

/-- the scope of such a def -/
structure SupScope (N ps : List Str) (sc : Scope) : Prop where
  kind : sc.kind = .function
  co : sc.isCoroutine = false
  gen : sc.isGenerator = false
  nd : N.Nodup
  pre : N = ps
  par : ∀ x ∈ ps, sc.names.lookup x = some .local
  nocell : ∀ y ∈ sc.names, y.2 ≠ .cell
  fr : ∀ y ∈ sc.names, y.2 = .free → y.1 = "__class__"
  ks : sc.names.lookup ("super" : Str) = some .globalImplicit
  kc : sc.names.lookup ("__class__" : Str) = some .free

/-- the context of such a def's body -/
def supCx (P : Program) (w : World) (K : Frag) (mg : Str → Option Value) (base : Heap) (N : List Str) (qual : Str) (scope : Scope) (f : Addr) (cd : Value) (cc : Addr) (A : Around) (outer : List Env) (s : Shared) (H : Hp) (E : XK) : Cx where
  prog := P
  w := w
  K := K
  mg := mg
  base := base
  A := A.deeper (PySem.W.ksEnv qual scope s.heap.objs.size f cd cc)
  N := N
  s_0 := s
  H_0 := H
  env := PySem.W.ksEnv qual scope s.heap.objs.size f cd cc
  outer := outer
  stack := PySem.W.ksEnv qual scope s.heap.objs.size f cd cc :: outer
  ex := []
  calm := true
  fn := fun _ => false
  pn := []
  xe := fun e s' => wpAny (model P w) (A.deeper (PySem.W.ksEnv qual scope s.heap.objs.size f cd cc)) (leaving (PySem.W.ksEnv qual scope s.heap.objs.size f cd cc) e) (fun _ s'' => L2.CX P w outer H s E e s'') (fun e' s'' => L2.CX P w outer H s E e' s'') s'

theorem rev_look {ps : List Str} {us : List Value} {i : Nat} {x : Str} {u : Value} (nd : ps.Nodup) (h1 : ps[i]? = some x) (h2 : us[i]? = some u) : (ps.zip us).reverse.lookup x = some u := NdefX.zip_look nd h1 h2

theorem sup_inv {P : Program} {w : World} {K : Frag} {mg : Str → Option Value} {base : Heap} {N ps : List Str} {qual : Str} {scope : Scope} {f D f2 cc : Addr} {z : Str} {cd : Value} {A : Around} {outer : List Env} {s : Shared} {h₁ : Heap} {tk : Nat} {H : Hp} {E : XK} {us : List Value} {vs : List V}
    (S : SupScope N ps scope) (O : SupOk K f D f2 z cc cd) (hd : A.handled = none) (e0 : Env0 P w K mg base A outer s H) (hl : vs.length = ps.length) (r : Vals vs us)
    (hns : h₁.Ns s.heap.objs.size (fun x => (ps.zip us).reverse.lookup x)) (hk : ∀ b o, s.heap.get? b = some o → h₁.get? b = some o) :
    Inv (supCx P w K mg base N qual scope f cd cc A outer s H E) [] (L2.start N vs) H { s with heap := h₁, toks := tk } := by
  have noA : ∀ b : Addr, b ∉ (supCx P w K mg base N qual scope f cd cc A outer s H E).ex := fun b z => absurd (show b ∈ ([] : List Addr) from z) (by simp)
  have cl1 : ∀ y c, (supCx P w K mg base N qual scope f cd cc A outer s H E).env.cells.lookup y = some c → y = "__class__" ∧ c = cc := fun y c h => by
    have h' : (match y == ("__class__" : Str) with | true => some cc | false => none) = some c := h
    cases e : (y == ("__class__" : Str)) with
    | true => rw [e] at h'; exact ⟨beq_iff_eq.mp e, (Option.some.inj h').symm⟩
    | false => rw [e] at h'; cases h'
  obtain ⟨cl, cld, csl, hcell⟩ := O.cell
  have KX : K.In s.heap := e0.mod.kin.keeps fun b o e => (e0.bs b o e).1
  refine ⟨⟨e0.mod, S.kind, rfl, rfl, Nat.le_refl _, fun y z c h1 h2 => ?_, fun y hy => ?_, fun y c hf _ => ?_, fun _ => hd, Around.frames_deeper e0.frames, .inr ⟨rfl, rfl⟩, fun b z => absurd z (noA b), e0.bs, e0.bsz, fun b _ _ => noA b, fun b z => absurd z (noA b), e0.funs, e0.frf⟩,
    rfl, e0.bare, Un.kept hk, ⟨_, hns, fun i y v h1 h2 h3 => ?_⟩, fun y c h => ?_, e0.hok.fresh (Nat.le_refl _), fun y c h => ?_, fun p hp => absurd (show p ∈ ([] : List (Addr × Obj)) from hp) (by simp), e0.hok.kept hk, ?_⟩
  · exact (cl1 y c h1).1.trans (cl1 z c h2).1.symm
  · have hy : scope.names.lookup y = some .cell ∨ scope.names.lookup y = some .free := hy
    rcases hy with hy | hy
    · exact absurd rfl (S.nocell _ (PySem.mem_of_lookup hy))
    · have e := S.fr _ (PySem.mem_of_lookup hy) rfl
      have e' : y = "__class__" := e
      subst e'
      exact ⟨cc, by rfl⟩
  · cases (show false = true from hf)
  · have hN : vs.length = N.length := by rw [S.pre]; exact hl
    have hs : L2.start N vs = vs.map some := by
      unfold L2.start
      rw [hN, Nat.sub_self]
      simp
    rw [hs, List.getElem?_map] at h2
    cases e : vs[i]? with
    | none => rw [e] at h2; cases h2
    | some a =>
      rw [e] at h2
      cases h2
      obtain ⟨u, hu, rv⟩ := r.get e
      have hp : ps[i]? = some y := by rw [← S.pre]; exact h1
      have nd : ps.Nodup := by rw [← S.pre]; exact S.nd
      exact ⟨u, rv, .inl ⟨S.par y (List.mem_of_getElem? hp), rev_look nd hp hu⟩⟩
  · obtain ⟨_, rfl⟩ := cl1 y c h
    exact ⟨_, _, hk _ _ (KX _ _ hcell), rfl⟩
  · obtain ⟨_, rfl⟩ := cl1 y c h
    exact (e0.bs _ _ (e0.mod.kin _ _ hcell)).2
  · rw [show (L2.start N vs).length = N.length from ?_]
    rfl
    unfold L2.start
    rw [List.length_append, List.length_map, List.length_replicate, S.pre, hl]
    omega

theorem fn_super {P : Program} {w : World} {K : Frag} {mg : Str → Option Value} {base : Heap} {k : Nat} {f D f2 : Addr} {fd2 : FuncData} {x qual z : Str} {st : Stmt} {N ps ps2 : List Str} {sp sp2 : Sp} {e : Expr} {es : List Expr} {p0 p1 apos pos pos2 : Pos} {ar : Arg} {ta : TA}
    (F : FunC K x qual "__class__" st f) (S : SupScope N ps (defScope st)) (hB : supB K f D f2 z = true) (hz : ((P.main.file : Str) == z) = true) (htop : (P.main.scope.names.lookup ("super" : Str)).isSome = false)
    (hb : defBody st = [.Expr (.Call (.Attribute (.Call (.Name "super" p0) [] [] p1) "__init__" apos) (e :: es) [] pos) pos2])
    (har : ((defArgs st).posonlyargs ++ (defArgs st).args).head? = some ar) (hself : ps[0]? = some ar.arg)
    (F2 : FnOk P w K mg base (L2.CX P w) k f2 fd2 ps2 sp2) (b2 : Binds K fd2 ps2 [])
    (len : ∀ vs H Q E, sp vs H Q E → vs.length = ps.length)
    (ha : ∀ (cdv : Value) (cc : Addr) (A : Around) (outer : List Env) (s : Shared) (H : Hp) (E : XK), PA (supCx P w K mg base N qual (defScope st) f cdv cc A outer s H E) (e :: es) ta)
    {pl : Env → Sem Bool} (ht : ∀ env : Env, eval (.Call (.Attribute (.Call (.Name "super" p0) [] [] p1) "__init__" apos) (e :: es) [] pos) env = (do
      let ov ← attributeBase (.Call (.Name "super" p0) [] [] p1) "__init__" env (eval (.Call (.Name "super" p0) [] [] p1) env)
      standAt apos.atName
      let (g, first) ← holding [ov] (getMethod ov "__init__" (pl env))
      callWith pos g first (backTo pos (starEach (e :: es) env)) []))
    (hst : ∀ env : Env, starEach (e :: es) env = (false, eval e env) :: starEach es env) (hpl : ∀ env : Env, (backTo pos (starEach es env)).any (·.1) = false)
    (hsp : ∀ vs H Q E, sp vs H Q E → ∃ xa dx fs, vs[0]? = some (.ref xa) ∧ H xa = some (.ins D dx fs) ∧ ta (L2.start N vs) H fun us H1 => sp2 (.ref xa :: us) H1 (fun v H2 => Q .non H2) E) :
    FnOk P w K mg base (L2.CX P w) (k + 1) f (fdAt K f) ps sp := by
  obtain ⟨oc, od, cc, kV, doc, pm, an, cdv, ct, osl, lk, hcd⟩ := F.ex
  have efd : fdAt K f = PySem.W.fnX x qual (defArgs st) (defBody st) (defScope st) [("__class__", cc)] .none kV doc pm an cdv ct := by
    unfold fdAt
    rw [lk]
  rw [efd]
  have O : SupOk K f D f2 z cc cdv := supB_ok hB lk rfl
  refine ⟨len, fun A outer s H args us vs Q E hr e0 hbd r hq => ?_⟩
  have hl := len _ _ _ _ hq
  have KX : K.In s.heap := e0.mod.kin.keeps fun b o e => (e0.bs b o e).1
  have lim : s.heap.NoLimit := e0.mod.nolimit.keeps fun b o e => (e0.bs b o e).1
  have hloc : ∀ y ∈ ps.zip us, (defScope st).names.lookup y.1 = some .local := fun ⟨n, v⟩ hy => S.par n (List.of_mem_zip hy).1
  refine PySem.ks_codeAny_call_defAt (fd := PySem.W.fnX x qual (defArgs st) (defBody st) (defScope st) [("__class__", cc)] .none kV doc pm an cdv ct) hr.depth (KX _ _ lk) rfl lim (PySem.W.codeRec_of KX hcd) rfl hbd S.nocell hloc (fun h₁ hns hk₁ => ?_) S.co S.gen S.kind
  have I := sup_inv (qual := qual) (E := E) (tk := s.toks + (ps.zip us).length) S O hr.hd e0 hl r hns hk₁
  obtain ⟨xa, dx, fs, hv0, hx, hta⟩ := hsp _ _ _ _ hq
  -- the body
  have hex : execs (defBody st) (PySem.W.ksEnv qual (defScope st) s.heap.objs.size f cdv cc) = execs [.Expr (.Call (.Attribute (.Call (.Name "super" p0) [] [] p1) "__init__" apos) (e :: es) [] pos) pos2] (PySem.W.ksEnv qual (defScope st) s.heap.objs.size f cdv cc) := by rw [hb]
  show PySem.wpAt (model P w) (A.deeper (PySem.W.ksEnv qual (defScope st) s.heap.objs.size f cdv cc)) (.func (defBody st) (PySem.W.ksEnv qual (defScope st) s.heap.objs.size f cdv cc)) (execs (defBody st) (PySem.W.ksEnv qual (defScope st) s.heap.objs.size f cdv cc)) _ _ _
  rw [hex]
  have hint : interactive (PySem.W.ksEnv qual (defScope st) s.heap.objs.size f cdv cc) = false := I.quiet
  have X1 : K.In h₁ := KX.keeps hk₁
  obtain ⟨cl, cld, csl, hcell⟩ := O.cell
  obtain ⟨c, ccl, cdd, vcs, ccs, tf, ecd, hcode, hvs⟩ := O.code
  obtain ⟨cdD, hcD⟩ := O.cls
  have hvs' : vcs[2]? = some (.str z tf) := by rw [← Array.getElem?_toList]; exact hvs
  obtain ⟨oD, hD1, hD2⟩ : ∃ oD, h₁.get? D = some oD ∧ oD.data = .cls cdD := by
    unfold PySem.W.clsIn at hcD
    split at hcD
    · rename_i ho
      cases hcD
      exact ⟨_, X1 _ _ ho, rfl⟩
    · cases hcD
  obtain ⟨of, hof, hofc⟩ : ∃ of, K.lookup f2 = some of ∧ of.cls = .type "function" := by
    have ht : (K.lookup f2).map (fun o => o.cls) = some (.type "function") := O.ty
    cases q : K.lookup f2 with
    | none => rw [q] at ht; cases ht
    | some o => rw [q] at ht; exact ⟨o, rfl, Option.some.inj ht⟩
  obtain ⟨mA, OM, _⟩ := ins_get I.hok hx
  obtain ⟨odx, J, _⟩ := OM.look
  obtain ⟨mb, hmb, hbb⟩ := e0.mod.blt
  have up0 : ∀ b o, base.get? b = some o → h₁.get? b = some o := fun b o q => hk₁ b o (e0.bs b o q).1
  have hself2 : (fun y => (ps.zip us).reverse.lookup y) ar.arg = some (Value.ref xa) := by
    obtain ⟨u, hu, ru⟩ := r.get hv0
    have ru' : u = Value.ref xa := ru
    subst ru'
    exact rev_look (by rw [← S.pre]; exact S.nd) hself hu
  have hka : (defScope st).names.lookup ar.arg = some .local := S.par _ (List.mem_of_getElem? hself)
  refine PySem.ks_wpAt_execs_cons (PySem.ks_wpAt_Expr_any (PySem.ks_wpAt_MethodCall ?_ (ht _)) hint rfl)
  refine PySem.ks_wpAt_super_base (attr := "__init__") (env := PySem.W.ksEnv qual (defScope st) s.heap.objs.size f cdv cc) (f := f) (cc := c) (ar := ar) (fd := PySem.W.fnX x qual (defArgs st) (defBody st) (defScope st) [("__class__", cc)] .none kV doc pm an cdv ct) S.ks S.kc (by decide) rfl (X1 _ _ lk) rfl har ecd (X1 _ _ hcode) rfl hvs' hz htop ?_
  refine PySem.W.ks_loadName_global S.kind S.ks (PySem.Calls.loadGlobal_builtin (env := PySem.W.ksEnv qual (defScope st) s.heap.objs.size f cdv cc) (e0.mod.glob.keeps up0) (PySem.W.mg_none_of e0.mod.kin e0.mod.glob O.bsup) (hmb.keeps up0) ((hbb _ (by decide +kernel)).trans (by decide +kernel)) ⟨rfl, ?_⟩)
  refine wpAny_loadName_free S.kind S.kc rfl ⟨_, X1 _ _ hcell, rfl⟩ ?_
  refine wpAny_loadName_local S.kind hka hns hself2 ?_
  refine PySem.ks_wpAny_isType_cls hD1 hD2 ⟨rfl, ?_⟩
  refine PySem.ks_wpAny_call_super hD1 hD2 J.at_ J.cls (fun c e => ?_) (PySem.W.looks_mroIn X1 O.mro) (fun h' es' kk => ?_)
  · have := J.no
    unfold PySem.W.notCls at this
    rw [e] at this
    exact Bool.noConfusion this
  -- the super object stands; its __init__, bound
  have I2 := I.kept (h' := h') (t' := s.toks + (ps.zip us).length) kk
  have X2 : K.In h' := X1.keeps kk
  have hal : PySem.W.alongIn K "__init__" ((cdD.mro.dropWhile (· != .ref D)).drop 1) = some (some (.ref f2)) := by
    have q := O.sup
    unfold PySem.W.ks_superIn at q
    rw [hcD] at q
    exact q
  refine PySem.ks_wpAny_getMethod_super es' (PySem.W.looks_opaque X2 O.thrd) (l₀ := cdD.mro) ?_ rfl X2 hal (X2 _ _ hof) hofc (PySem.W.ks_ne X1 J hcD) (by decide) ?_
  · exact fun A Q E s k q => wpAny_bind ((PySem.W.looks_clsIn X2 hcD) A _ E s k (wpAny_pure q))
  have km : ∀ b o, h'.get? b = some o → (h'.push { cls := .type "method", data := .fields #[.ref f2, .ref xa] }).get? b = some o := fun b o q => Heap.get?_push_of_some _ q
  have I3 := I2.kept (h' := h'.push { cls := .type "method", data := .fields #[.ref f2, .ref xa] }) (t' := s.toks + (ps.zip us).length + 1) km
  have hq3 : (h'.push { cls := .type "method", data := .fields #[.ref f2, .ref xa] }).get? h'.objs.size = some (PySem.W.methodObj (.ref f2) (.ref xa)) := Heap.get?_push_at rfl rfl
  have I4 := I3.pins_of (pins' := [(h'.objs.size, PySem.W.methodObj (.ref f2) (.ref xa))]) fun p hp => by
    have e : p = (h'.objs.size, PySem.W.methodObj (.ref f2) (.ref xa)) := by simpa using hp
    subst e
    exact ⟨hq3, I2.hok.fresh (Nat.le_refl _), Nat.ne_of_gt I2.lt, I2.nofs (Nat.le_refl _), fun v q => nomatch q⟩
  have hE : (backToKw pos (keywordEach [] (PySem.W.ksEnv qual (defScope st) s.heap.objs.size f cdv cc))) = [] := rfl
  rw [hst]
  refine PySem.W.callWith_of (P := PySem.W.MethP K h'.objs.size f2 (.ref xa)) (by show ((false || (backTo pos (starEach es _)).any (fun x => x.1)) || false) = false; rw [hpl]; rfl) (PySem.W.keeps_M O.fi) (Calls.evalArgs_plain ?_)
  have hrun := (ha cdv cc A outer s H E).run pos _ _ _ _ _ I4 hta
  rw [hst] at hrun
  refine thn hrun fun us2 s4 ⟨vs2, H2, I5, r2, q2⟩ => ?_
  have hm4 : s4.heap.get? h'.objs.size = some (PySem.W.methodObj (.ref f2) (.ref xa)) := (I5.pin _ (List.mem_cons_self ..)).1
  refine ⟨⟨hm4, I5.kIn⟩, wpAny_call (PySem.W.method_call hm4 ?_)⟩
  have hr2 : Room k (supCx P w K mg base N qual (defScope st) f cdv cc A outer s H E).A := hr.deeper _
  refine codeAny_mono (run_fnR (us := .ref xa :: us2) (vs := .ref xa :: vs2) ((F2.raw b2 .nil).imp fun vs H Q E q => by rw [List.append_nil]; exact q) hr2 (passes_call (takes_of rfl rfl rfl rfl) fun _ _ _ _ q => q) I5 (.cons rfl r2) q2) fun rr s5 hq5 => ?_
  cases rr with
  | error er => exact hq5
  | ok fl =>
    cases fl with
    | ret u =>
      obtain ⟨v, H', J5, _, q⟩ := hq5
      exact wpAt_of_wpAny (wpAny_execs_nil ⟨.non, H', J5.os, J5.bare, J5.base, J5.hok, rfl, q⟩)
    | next => exact False.elim hq5
    | brk => exact False.elim hq5
    | cont => exact False.elim hq5
theorem FunC.binds {K : Frag} {x qual y : Str} {st : Stmt} {f : Addr} {ps : List Str} (F : FunC K x qual y st f)
    (h : ∀ (cc : Addr) (kV doc pm : Value) (an : Option Addr) (cdv ct : Value) (us : List Value), us.length = ps.length → bindArgs (PySem.W.fnX x qual (defArgs st) (defBody st) (defScope st) [(y, cc)] .none kV doc pm an cdv ct) ⟨us, []⟩ = pure (ps.zip us)) : L2.Binds K (fdAt K f) ps [] := by
  obtain ⟨oc, od, cc, kV, doc, pm, an, cdv, ct, osl, lk, hcd⟩ := F.ex
  have efd : fdAt K f = PySem.W.fnX x qual (defArgs st) (defBody st) (defScope st) [(y, cc)] .none kV doc pm an cdv ct := by
    unfold fdAt
    rw [lk]
  rw [efd]
  exact .all (h cc kV doc pm an cdv ct)
end Fw

/-! Fw, part C: lines of any kind; calls by keywords alone; what stays of the heap. -/
namespace Fw
open PySem PySem.Spec PyProof.Rows L2
open He (ga ma eqO eqO_ok)
/-! ### calls -/
/-- f(k = v, ..), no positional value -/
theorem pe_callN0 {X : Cx} {CX : CXT} {k : Nat} {f : Addr} {fd : FuncData} {ps ks : List Str} {sp : Sp} {E : XK} {x : Str} {p pos : Pos} {kws : List Keyword} {tk : TA} {g : List Value → List Value → List Value} {gV : List V → List V → List V}
    (F : FnOk X.prog X.w X.K X.mg X.base CX k f fd ps sp) (hr : Room k X.A) (hg : Gl X x) (hm : X.mg x = some (.ref f)) (hk : PySem.W.keepIn X.K (.ref f) = true) (hb : KBn X.K fd ps 0 ks g gV) (hx : Passes CX X E) (hkw : PK X kws tk)
    (hall : (backToKw pos (keywordEach kws X.env)).all (fun q => q.1.isSome) = true := by rfl) (hks : (backToKw pos (keywordEach kws X.env)).filterMap (fun q => q.1) = ks := by rfl) (hdb : (x == ("__debug__" : Str)) = false := by decide)
    (hpl : ((backTo pos (starEach [] X.env)).any (fun q => q.1) || (backToKw pos (keywordEach kws X.env)).any (fun q => q.1.isNone)) = false := by rfl) :
    PE X (.Call (.Name x p) [] kws pos) (tCallN 0 ks.length sp gV E tNil tk) := by
  refine ⟨fun pins s σ H Q I h => ?_⟩
  refine wpAny_Call_Name_kw (ld_glob I hg hm ?_ hdb)
  refine PySem.W.callWith_KW0 (h₀ := X.base) I.ok.mod.kin hk hall ?_ hpl
  refine thn (hkw.run pos pins s σ H _ I h) fun ws s2 ⟨zs, H2, I2, rz, l1, l2, q2⟩ => ⟨I2.kIn, ?_⟩
  rw [hks]
  exact run_fnN (us := []) (vs := []) F hr hb hx I2 .nil rz rfl l2 q2
/-- how keywords bind where the def has no defaults: h by cases of the lists, each one rfl -/
theorem Fun.kb {K : Frag} {x qual : Str} {st : Stmt} {f : Addr} {fd : FuncData} {ps : List Str} (F : Fun K x qual st f fd) (n : Nat) (ks : List Str) (g : {α : Type} → List α → List α → List α)
    (hrel : ∀ {vs zs : List V} {us ws : List Value}, Vals vs us → Vals zs ws → Vals (g vs zs) (g us ws))
    (h : ∀ (kV doc pm : Value) (an : Option Addr) (cdv ct : Value) (us ws : List Value), us.length = n → ws.length = ks.length → bindArgs (PySem.W.fnOf x qual (defArgs st) (defBody st) (defScope st) .none kV doc pm an cdv ct) ⟨us, ks.zip ws⟩ = pure (ps.zip (g us ws))) :
    KBn K fd ps n ks g g := by
  obtain ⟨oc, od, kV, doc, pm, an, cdv, ct, osl, rfl, lk, hcd⟩ := F.ex
  exact ⟨fun s us ws _ l1 l2 => .of_eq (h kV doc pm an cdv ct us ws l1 l2), fun r1 r2 => hrel r1 r2⟩
/-- the items at these places -/
def pick {α : Type} (l : List α) (is : List Nat) : List α := is.filterMap fun i => l[i]?
theorem Vals.pick {vs : List V} {us : List Value} (r : Vals vs us) (is : List Nat) : Vals (Fw.pick vs is) (Fw.pick us is) := by
  unfold Fw.pick
  induction is with
  | nil => exact .nil
  | cons i is ih =>
    rw [List.filterMap_cons, List.filterMap_cons]
    cases e : vs[i]? with
    | none => rw [r.none_of e]; exact ih
    | some v =>
      obtain ⟨u, hu, rv⟩ := r.get e
      rw [hu]
      exact .cons rv ih
/-! ### lines -/
inductive LK where
  | line | walk | stop
  deriving DecidableEq
def cA (K : Frag) : LK → Addr
  | .line => ga K "Line"
  | .walk => ga K "Walk"
  | .stop => ga K "Stop"
/-- the numbers of a line -/
structure N3 where
  e : Int
  a : Int
  r : Int
  deriving DecidableEq
def N3.ok (n : N3) : Prop := 1 ≤ n.e ∧ 0 ≤ n.a ∧ n.a < n.e ∧ 0 ≤ n.r
def lf (n : N3) : List (Str × V) := putF "held_ride" (.int n.r) (putF "held_at" (.int n.a) (putF "held_every" (.int n.e) []))
theorem lf_e (n : N3) : (lf n).lookup ("held_every" : Str) = some (.int n.e) := by
  unfold lf
  rw [lookup_putF, if_neg (by decide +kernel), lookup_putF, if_neg (by decide +kernel), lookup_putF, if_pos rfl]
theorem lf_a (n : N3) : (lf n).lookup ("held_at" : Str) = some (.int n.a) := by
  unfold lf
  rw [lookup_putF, if_neg (by decide +kernel), lookup_putF, if_pos rfl]
theorem lf_r (n : N3) : (lf n).lookup ("held_ride" : Str) = some (.int n.r) := by
  unfold lf
  rw [lookup_putF, if_pos rfl]
theorem lf_no (n : N3) {m : Str} (h1 : ¬ m = "held_ride") (h2 : ¬ m = "held_at") (h3 : ¬ m = "held_every") : (lf n).lookup m = none := by
  unfold lf
  rw [lookup_putF, if_neg h1, lookup_putF, if_neg h2, lookup_putF, if_neg h3]
  rfl
/-- at a stands a line of the kind k with the numbers n -/
def LnAt (K : Frag) (H : Hp) (a : Addr) (k : LK) (n : N3) : Prop := ∃ dx, H a = some (.ins (cA K k) dx (lf n))
theorem LnAt.same {K : Frag} {H H' : Hp} {a : Addr} {k : LK} {n : N3} (h : LnAt K H a k n) (s : Same H H') : LnAt K H' a k n := let ⟨dx, e⟩ := h; ⟨dx, s _ _ e⟩
/-- what the top must say of the three classes -/
structure LnF (K : Frag) : Prop where
  cls : ∀ k, Cls K (cA K k)
  nE : ∀ k, NoAttr K (cA K k) "held_every"
  nA : ∀ k, NoAttr K (cA K k) "held_at"
  nR : ∀ k, NoAttr K (cA K k) "held_ride"
/-- e.f, a property of lines whose getter hands back the field hf -/
def tLG (K : Frag) (ta : TE) (g : N3 → Int) : TE := fun σ H Q => ta σ H fun x H1 => ∃ a k n, x = .ref a ∧ LnAt K H1 a k n ∧ Q (.int (g n)) H1
theorem pe_lget {X : Cx} {f hf : Str} {g : Addr} {fd : FuncData} {e : Expr} {pos : Pos} {ta : TE} {gg : N3 → Int} (he : PE X e ta) (L : LnF X.K) (hp : ∀ k, ∃ p, PropOf X.K (cA X.K k) f p g)
    (F : ∀ k, FnOk X.prog X.w X.K X.mg X.base (L2.CX X.prog X.w) 1 g fd ["self"] (getSp (cA X.K k) hf)) (hb : Binds X.K fd ["self"] []) (hr : Room 2 X.A) (hl : ∀ n, (lf n).lookup hf = some (.int (gg n)))
    (hab : attributeBase e f X.env (eval e X.env) = eval e X.env) : PE X (.Attribute e f pos) (tLG X.K ta gg) := by
  refine ⟨fun pins s σ H Q I h => ?_⟩
  refine attr_of hab (thn (he.run pins s σ H _ I h) fun u s1 ⟨x, H1, I1, rx, a, k, n, ex, ⟨dx, ea⟩, q⟩ => ?_)
  subst ex
  obtain rfl : u = Value.ref a := rx
  obtain ⟨p, hp⟩ := hp k
  exact getprop_ok I1 ea (L.cls k) hp (F k) hr hb .nil passL ⟨a, dx, _, _, rfl, ea, hl n, q⟩
theorem ok_getter {P : Program} {w : World} {K : Frag} {mg : Str → Option Value} {base : Heap} {CX : CXT} {x qual hf : Str} {st : Stmt} {g C : Addr} {fd : FuncData} {N : List Str} {p1 p2 p3 : Pos} (F : Fun K x qual st g fd) (S : FnScope N ["self"] (defScope st))
    (hN : N[0]? = some ("self" : Str)) (hb : defBody st = [.Return (some (.Attribute (.Name "self" p1) hf p2)) p3]) (c : Cls K C) (n : NoAttr K C hf) : FnOk P w K mg base CX 1 g fd ["self"] (getSp C hf) := by
  obtain ⟨oc, od, kV, doc, pm, an, cdv, ct, osl, rfl, lk, hcd⟩ := F.ex
  exact fn_getter lk hcd S hN hb c n
/-- o.m(e, ..), o a line, m the same def in all three classes -/
def tLM (K : Frag) (sp : Sp) (E : XK) (ta : TE) (t : TA) : TE := fun σ H Q => ta σ H fun x H1 => ∃ a k n, x = .ref a ∧ LnAt K H1 a k n ∧ t σ H1 fun vs H2 => sp (.ref a :: vs) H2 Q E
theorem pe_lmeth {X : Cx} {k0 : Nat} {f : Addr} {fd : FuncData} {ps : List Str} {sp : Sp} {E : XK} {m : Str} {pos apos : Pos} {e o : Expr} {es : List Expr} {ta : TE} {t : TA} {pl : Sem Bool} (he : PE X o ta) (L : LnF X.K) (hm : ∀ k, Meth X.K (cA X.K k) m f)
    (F : FnOk X.prog X.w X.K X.mg X.base (L2.CX X.prog X.w) k0 f fd ps sp) (hr : Room k0 X.A) (hb : Binds X.K fd ps []) (hx : Passes (L2.CX X.prog X.w) X E) (ha : PA X (e :: es) t)
    (n1 : ¬ m = "held_ride" := by decide +kernel) (n2 : ¬ m = "held_at" := by decide +kernel) (n3 : ¬ m = "held_every" := by decide +kernel)
    (hst : starEach (e :: es) X.env = (false, eval e X.env) :: starEach es X.env := by rfl) (hpl : (backTo pos (starEach es X.env)).any (fun q => q.1) = false := by rfl)
    (ht : eval (.Call (.Attribute o m apos) (e :: es) [] pos) X.env = (do
      let ov ← eval o X.env
      standAt apos.atName
      let (g, first) ← holding [ov] (getMethod ov m pl)
      callWith pos g first (backTo pos (starEach (e :: es) X.env)) (backToKw pos (keywordEach [] X.env))) := by rfl) :
    PE X (.Call (.Attribute o m apos) (e :: es) [] pos) (tLM X.K sp E ta t) := by
  refine ⟨fun pins s σ H Q I h => ?_⟩
  refine PySem.W.methodCall_KW (pl := pl) (thn (he.run pins s σ H _ I h) fun u s1 ⟨x, H1, I1, rx, a, k, n, ex, ⟨dx, ea⟩, q⟩ => ?_) ht
  subst ex
  obtain rfl : u = Value.ref a := rx
  refine getmeth_ok I1 ea (L.cls k) (hm k) (lf_no n n1 n2 n3) ?_
  refine PySem.W.callWith_K (first := [.ref a]) (h₀ := X.base) I.ok.mod.kin (hm k).kp (thn (ha.run pos pins s1 σ H1 _ I1 q) fun us s2 ⟨vs, H2, I2, r, q2⟩ => ⟨I2.kIn, ?_⟩) hst hpl
  exact run_fn (us := .ref a :: us) (vs := .ref a :: vs) F hr hb .nil hx I2 (.cons rfl r) (by rw [List.append_nil]; exact q2)
/-- o.m(), o a line -/
theorem pe_lmeth0 {X : Cx} {k0 : Nat} {f : Addr} {fd : FuncData} {ps : List Str} {sp : Sp} {E : XK} {m : Str} {pos apos : Pos} {o : Expr} {ta : TE} {pl : Sem Bool} (he : PE X o ta) (L : LnF X.K) (hm : ∀ k, Meth X.K (cA X.K k) m f)
    (F : FnOk X.prog X.w X.K X.mg X.base (L2.CX X.prog X.w) k0 f fd ps sp) (hr : Room k0 X.A) (hb : Binds X.K fd ps []) (hx : Passes (L2.CX X.prog X.w) X E)
    (n1 : ¬ m = "held_ride" := by decide +kernel) (n2 : ¬ m = "held_at" := by decide +kernel) (n3 : ¬ m = "held_every" := by decide +kernel)
    (ht : eval (.Call (.Attribute o m apos) [] [] pos) X.env = (do
      let ov ← eval o X.env
      standAt apos.atName
      let (g, first) ← holding [ov] (getMethod ov m pl)
      callWith pos g first (backTo pos (starEach [] X.env)) (backToKw pos (keywordEach [] X.env))) := by rfl) :
    PE X (.Call (.Attribute o m apos) [] [] pos) (tLM X.K sp E ta tNil) := by
  refine ⟨fun pins s σ H Q I h => ?_⟩
  refine PySem.W.methodCall_KW (pl := pl) (thn (he.run pins s σ H _ I h) fun u s1 ⟨x, H1, I1, rx, a, k, n, ex, ⟨dx, ea⟩, q⟩ => ?_) ht
  subst ex
  obtain rfl : u = Value.ref a := rx
  refine getmeth_ok I1 ea (L.cls k) (hm k) (lf_no n n1 n2 n3) ?_
  exact PySem.W.callWith_K0 (first := [.ref a]) I1.kIn (hm k).kp (run_fn (us := [.ref a]) (vs := [.ref a]) F hr hb .nil hx I1 (.cons rfl .nil) (by rw [List.append_nil]; exact q))
/-- line(e, ..) -/
theorem pe_lcall {X : Cx} {k0 : Nat} {g : Addr} {sp : Sp} {E : XK} {fe e : Expr} {es : List Expr} {tf : TE} {t : TA} {pos : Pos} (hf : PE X fe tf) (c : ∀ k, StX.CallO X.K (cA X.K k) g) (F : FnR X.prog X.w X.K X.mg X.base (L2.CX X.prog X.w) k0 g sp) (hr : Room k0 X.A) (hx : Passes (L2.CX X.prog X.w) X E)
    (ha : PA X (e :: es) t) (ht : eval (.Call fe (e :: es) [] pos) X.env = (do callWith pos (← eval fe X.env) [] (backTo pos (starEach (e :: es) X.env)) (backToKw pos (keywordEach [] X.env))) := by rfl)
    (he : starEach (e :: es) X.env = (false, eval e X.env) :: starEach es X.env := by rfl) (hpl : (backTo pos (starEach es X.env)).any (fun q => q.1) = false := by rfl) :
    PE X (.Call fe (e :: es) [] pos) (fun σ H Q => tf σ H fun y H1 => ∃ a, y = V.ref a ∧ t σ H1 fun vs H2 => (∃ k n, LnAt X.K H2 a k n) ∧ sp (V.ref a :: vs) H2 Q E) := by
  refine ⟨fun pins s σ H Q I h => ?_⟩
  refine Call_ (thn (hf.run pins s σ H _ I h) fun u s1 ⟨y, H1, I1, ry, a, ey, q⟩ => ?_) ht
  subst ey
  obtain rfl : u = Value.ref a := ry
  refine StX.callO_with (thn (ha.run pos pins s1 σ H1 _ I1 q) fun us s2 ⟨vs, H2, I2, r, ⟨k, n, dx, hi⟩, q2⟩ => ?_) he hpl
  have hI : StX.InsC X H2 a (cA X.K k) := .inr ⟨dx, _, hi⟩
  obtain ⟨ox, od, J, hd⟩ := StX.insC_at I2 hI
  exact ⟨⟨_, ox, od, J, hd⟩, StX.run_callO (c k) F hr hx I2 hI r q2⟩

/-! ### heaps: what stays -/
/-- all but what M holds is as it was -/
def Ext (M : Addr → Prop) (H H' : Hp) : Prop := ∀ b o, ¬ M b → H b = some o → H' b = some o
theorem Ext.refl {M : Addr → Prop} {H : Hp} : Ext M H H := fun _ _ _ e => e
theorem Ext.trans {M : Addr → Prop} {H H1 H2 : Hp} (a : Ext M H H1) (b : Ext M H1 H2) : Ext M H H2 := fun c o n e => b c o n (a c o n e)
theorem Ext.same {M : Addr → Prop} {H H' : Hp} (s : Same H H') : Ext M H H' := fun b o _ e => s b o e
theorem Same.new {H : Hp} {p : Addr} {o : HO} (h : H p = none) : Same H (upd H p o) := fun b u e => by rw [upd_ne (ne_of_none e h)]; exact e
theorem Ext.new {M : Addr → Prop} {H : Hp} {p : Addr} {o : HO} (h : H p = none) : Ext M H (upd H p o) := Ext.same (Same.new h)
end Fw

/-! Fw, part D: the tank of draws; numbers; the mathematics of one line taken again and again. -/
namespace Fw
open PySem PySem.Spec PyProof.Rows L2
/-! ### great numbers -/
theorem pow_lt_two {n : Nat} {i : Int} (h1 : -(2 ^ n : Int) < i) (h2 : i < (2 ^ n : Int)) : i.natAbs < 2 ^ n := by
  have e : ((2 ^ n : Nat) : Int) = (2 : Int) ^ n := by simp
  rw [← e] at h1 h2
  omega
/-- i lies within b bits -/
def Sz (b : Nat) (i : Int) : Prop := i.natAbs < 2 ^ b
theorem Sz.of {b : Nat} {i : Int} (h1 : -(2 ^ b : Int) < i) (h2 : i < (2 ^ b : Int)) : Sz b i := pow_lt_two h1 h2
theorem Sz.mono {a b : Nat} {i : Int} (h : Sz a i) (l : a ≤ b) : Sz b i := Nat.lt_of_lt_of_le h (Nat.pow_le_pow_right (by decide) l)
theorem Sz.mul {a b : Nat} {i j : Int} (h : Sz a i) (g : Sz b j) : Sz (a + b) (i * j) := wide_lt h g
theorem Sz.add {a : Nat} {i j : Int} (h : Sz a i) (g : Sz a j) : Sz (a + 1) (i + j) := by
  unfold Sz at *
  rw [Nat.pow_succ]
  omega
theorem Sz.sub {a : Nat} {i j : Int} (h : Sz a i) (g : Sz a j) : Sz (a + 1) (i - j) := by
  unfold Sz at *
  rw [Nat.pow_succ]
  omega
theorem Sz.mod {a : Nat} {i j : Int} (h : 0 < j) (g : Sz a j) : Sz a (i % j) := by
  have h1 := Int.emod_nonneg i (show j ≠ 0 by omega)
  have h2 := Int.emod_lt_of_pos i h
  unfold Sz at *
  omega
theorem Sz.cmul {a b : Nat} {i j : Int} (h : Sz a i) (g : Sz b j) (ha : 0 < a := by decide) (hb : 0 < b := by decide) (l : a + b ≤ 1000000 := by decide) : CMulW i j := wide_mul h g ha hb l
theorem Sz.div {b : Nat} {i j : Int} (h : 0 < j) (g : Sz b j) (hb : 0 < b := by decide) (l : b ≤ 9000 := by decide) : CDivW i j := wide_div h g hb l
theorem Sz.le {a : Nat} {i j : Int} (h0 : 0 ≤ i) (h : i ≤ j) (g : Sz a j) : Sz a i := wide_le h0 h g
/-! ### the tank: a list [c, mixed, drawn], c the list of the digits -/
def tkM (a c : Addr) (b : Addr) : Prop := b = a ∨ b = c
abbrev M127 : Int := 170141183460469231731687303715884105727
/-- N draws may still be made -/
def Tk (a c : Addr) (N : Nat) (H : Hp) : Prop := ∃ (ds : List Int) (m n : Int), H a = some (.lst [.ref c, .int m, .int n]) ∧ H c = some (.lst (ds.map V.int)) ∧ ds.length ≤ 100 ∧ 0 ≤ m ∧ m < M127 ∧ 0 ≤ n ∧ n + (N : Int) ≤ 2 ^ 40
theorem Tk.less {a c : Addr} {N N' : Nat} {H : Hp} (h : Tk a c N H) (l : N' ≤ N) : Tk a c N' H := by
  obtain ⟨ds, m, n, h1, h2, h3, h4, h5, h6, h7⟩ := h
  exact ⟨ds, m, n, h1, h2, h3, h4, h5, h6, by omega⟩
theorem Tk.same {a c : Addr} {N : Nat} {H H' : Hp} (h : Tk a c N H) (s : Same H H') : Tk a c N H' := by
  obtain ⟨ds, m, n, h1, h2, h3⟩ := h
  exact ⟨ds, m, n, s _ _ h1, s _ _ h2, h3⟩
theorem Tk.ne {a c : Addr} {N : Nat} {H : Hp} (h : Tk a c N H) : a ≠ c := by
  obtain ⟨ds, m, n, h1, h2, _⟩ := h
  intro e
  subst e
  rw [h1] at h2
  cases ds with
  | nil => cases h2
  | cons d r => cases h2
/-- an object that is no list is none of the tank's -/
theorem Tk.out {a c p : Addr} {N : Nat} {H : Hp} {o : HO} (h : Tk a c N H) (e : H p = some o) (d : ∀ xs, o ≠ .lst xs) : ¬ tkM a c p := by
  obtain ⟨ds, m, n, h1, h2, _⟩ := h
  rintro (rfl | rfl)
  · rw [h1] at e; cases e; exact d _ rfl
  · rw [h2] at e; cases e; exact d _ rfl
theorem Tk.fresh {a c p : Addr} {N : Nat} {H : Hp} (h : Tk a c N H) (e : H p = none) : ¬ tkM a c p := by
  obtain ⟨ds, m, n, h1, h2, _⟩ := h
  rintro (rfl | rfl)
  · rw [h1] at e; cases e
  · rw [h2] at e; cases e
theorem Tk.tup {a c p : Addr} {N : Nat} {H H' : Hp} {xs : List V} (h : Tk a c N H) (x : Ext (tkM a c) H H') (e : H p = some (.tup xs)) : H' p = some (.tup xs) := x _ _ (h.out e fun _ z => nomatch z) e
theorem Tk.line {K : Frag} {a c p : Addr} {N : Nat} {H H' : Hp} {k : LK} {n : N3} (h : Tk a c N H) (x : Ext (tkM a c) H H') (e : LnAt K H p k n) : LnAt K H' p k n := let ⟨dx, e⟩ := e; ⟨dx, x _ _ (h.out e fun _ z => nomatch z) e⟩
theorem Tk.script {K : Frag} {a c p : Addr} {N : Nat} {H H' : Hp} {xs : List V} (h : Tk a c N H) (x : Ext (tkM a c) H H') (e : SqL K H p xs) (hn : ¬ tkM a c p) : SqL K H' p xs := by
  rcases e with (e | ⟨o, e⟩) | e
  · exact .inl (.inl (x _ _ hn e))
  · exact .inl (.inr ⟨o, x _ _ hn e⟩)
  · exact .inr e
/-- sip(tank, many): some number below many, and one draw less -/
def spSip (K : Frag) : Sp := fun vs H Q _ => ∃ (a c : Addr) (N : Nat) (m : Int), vs = [.ref a, .int m] ∧ Tk a c (N + 1) H ∧ 1 ≤ m ∧ Sz 8000 m ∧
  ∀ (v : Int) (H' : Hp), 0 ≤ v → v < m → Ext (tkM a c) H H' → Tk a c N H' → Q (.int v) H'
/-- what the deep == says of a list of ints and the empty list -/
theorem eqv_nil (ds : List PyData) : PyData.eqv (.list ds) (.list []) = decide (ds = []) := by
  cases ds with
  | nil => rfl
  | cons d r => rfl
theorem dpAll_ints {K : Frag} {H : Hp} : ∀ ds : List Int, DpAll K H (ds.map V.int) (ds.map PyData.int)
  | [] => .nil
  | d :: r => .cons (.int d) (dpAll_ints r)
theorem canLay_ints : ∀ ds : List Int, PyData.canLayAll0 (ds.map PyData.int) = true
  | [] => by simp [PyData.canLayAll0]
  | d :: r => by
    rw [List.map_cons]
    simp only [PyData.canLayAll0, PyData.canLay0, canLay_ints r, Bool.and_self]
theorem depth_ints : ∀ ds : List Int, PyData.depthAll (ds.map PyData.int) = 0
  | [] => by simp [PyData.depthAll]
  | d :: r => by
    rw [List.map_cons]
    simp only [PyData.depthAll, PyData.depth, depth_ints r, Nat.max_self]
theorem shaped_ints (ds : List Int) : SeqAt.shaped (.list (ds.map PyData.int)) = true := by
  unfold SeqAt.shaped
  simp only [PyData.canLay0, canLay_ints, PyData.depth, depth_ints, Bool.true_and]
  decide
theorem ifT {p A B : Prop} [Decidable p] (h : p) (a : A) : if decide p = true then A else B := by
  rw [if_pos (decide_eq_true h)]
  exact a
theorem ifF {p A B : Prop} [Decidable p] (h : ¬ p) (b : B) : if decide p = true then A else B := by
  rw [if_neg (by rw [decide_eq_false h]; exact Bool.false_ne_true)]
  exact b
theorem ifD {p A B : Prop} [Decidable p] (h : p → A) (g : ¬ p → B) : if decide p = true then A else B := by
  by_cases c : p
  · exact ifT c (h c)
  · exact ifF c (g c)
theorem qT {p : Prop} [Decidable p] {Q : VK} {H : Hp} (h : p) (q : Q (.bl true) H) : Q (.bl (decide p)) H := by
  rw [decide_eq_true h]
  exact q
theorem qF {p : Prop} [Decidable p] {Q : VK} {H : Hp} (h : ¬ p) (q : Q (.bl false) H) : Q (.bl (decide p)) H := by
  rw [decide_eq_false h]
  exact q
theorem at0 {α : Type} {x : α} {xs : List α} : atI (x :: xs) 0 = some x := atI_nat (j := 0) rfl
theorem ix0 {n : Nat} : ixN (n + 1) 0 = some 0 := by
  unfold ixN
  rw [if_pos (by decide), if_pos (by omega)]
  rfl
theorem sq0 {n : Nat} : seqIndex? 0 (n + 1) = some 0 := by
  have h := (ixN_seq (ix0 (n := n))).1
  exact h
theorem Sz.m127 {m : Int} (h0 : 0 ≤ m) (h1 : m < M127) : Sz 127 m := by
  have a : (0 : Int) < 2 ^ 127 := by decide
  exact Sz.of (by omega) (Int.lt_of_lt_of_le h1 (by decide))
theorem Sz.n40 {n : Int} (h0 : 0 ≤ n) (h1 : n ≤ 2 ^ 40) : Sz 41 n := by
  have a : (0 : Int) < 2 ^ 41 := by decide
  have b : (2 : Int) ^ 40 < 2 ^ 41 := by decide
  exact Sz.of (by omega) (by omega)
/-- the items of a cut list of ints -/
def cutI (ns : List Int) (lo hi : Option Int) : List Int := (ns.drop (HT.sIx ns.length 0 lo)).take (HT.sIx ns.length ns.length hi - HT.sIx ns.length 0 lo)
theorem cutV_ints (ns : List Int) (lo hi : Option Int) : cutV (ns.map V.int) lo hi = (cutI ns lo hi).map V.int := by
  unfold cutV cutI
  rw [List.length_map, List.map_take, List.map_drop]
theorem cutI_le (ns : List Int) (lo hi : Option Int) : (cutI ns lo hi).length ≤ ns.length := by
  unfold cutI
  rw [List.length_take, List.length_drop]
  omega
theorem get_ints {ns : List Int} {i : Nat} {x : V} (h : (ns.map V.int)[i]? = some x) : ∃ z, ns[i]? = some z ∧ x = .int z := by
  rw [List.getElem?_map] at h
  cases e : ns[i]? with
  | none => rw [e] at h; cases h
  | some z => rw [e] at h; exact ⟨z, rfl, (Option.some.inj h).symm⟩
/-! ### rounds -/
def dep (n : N3) (t : Int) : Int := t + (n.a - t) % n.e
def rl (n : N3) : Int := n.r + (0 - n.r) % n.e
def arr (n : N3) (t m : Int) : Int := dep n t + (m - 1) * rl n + n.r
def optV : Option Int → V
  | none => .non
  | some i => .int i
def ovt (x y : N3) (t : Int) : Option Int := if arr y t 1 - arr x t 1 < 0 then some 1 else if 0 < rl x - rl y then some (2 + (arr y t 1 - arr x t 1) / (rl x - rl y)) else none
/-- the time from the first departure to the end of m rounds -/
def RR (n : N3) (m : Int) : Int := (m - 1) * rl n + n.r
theorem arr_RR (n : N3) (t m : Int) : arr n t m = dep n t + RR n m := by
  unfold arr RR
  omega
theorem rl_dvd {n : N3} (h : 0 < n.e) : ∃ k, rl n = n.e * k := by
  unfold rl
  have e := Int.emod_add_mul_ediv (0 - n.r) n.e
  refine ⟨-((0 - n.r) / n.e), ?_⟩
  rw [Int.mul_neg]
  omega
theorem RR_mod {n : N3} (h : 0 < n.e) (m : Int) : (0 - RR n m) % n.e = (0 - n.r) % n.e := by
  obtain ⟨k, e⟩ := rl_dvd h
  unfold RR
  rw [e, show (0 : Int) - ((m - 1) * (n.e * k) + n.r) = (0 - n.r) + n.e * (-((m - 1) * k)) by
    rw [Int.mul_neg, Int.mul_left_comm]
    omega]
  exact Int.add_mul_emod_self_left ..
theorem RR_add {n : N3} (h : 0 < n.e) (j k : Int) : RR n j + (0 - RR n j) % n.e + RR n k = RR n (j + k) := by
  rw [RR_mod h]
  have e : rl n = n.r + (0 - n.r) % n.e := rfl
  generalize hd : (0 - n.r) % n.e = d at e
  unfold RR
  rw [e]
  have e1 : (j + k - 1) * (n.r + d) = (j - 1) * (n.r + d) + (k - 1) * (n.r + d) + (n.r + d) := by
    rw [← Int.add_mul, show j + k - 1 = (j - 1 + (k - 1)) + 1 by omega, Int.add_mul _ 1, Int.one_mul]
  omega
theorem rl_nn {n : N3} (h : n.ok) : n.r ≤ rl n ∧ rl n < n.r + n.e := by
  obtain ⟨h1, h2, h3, h4⟩ := h
  have a := Int.emod_nonneg (0 - n.r) (show n.e ≠ 0 by omega)
  have b := Int.emod_lt_of_pos (0 - n.r) (show 0 < n.e by omega)
  unfold rl
  omega
theorem dep_le {n : N3} (h : n.ok) (t : Int) : t ≤ dep n t ∧ dep n t < t + n.e := by
  obtain ⟨h1, h2, h3, h4⟩ := h
  have a := Int.emod_nonneg (n.a - t) (show n.e ≠ 0 by omega)
  have b := Int.emod_lt_of_pos (n.a - t) (show 0 < n.e by omega)
  unfold dep
  omega
/-- the law's own arrival after m rounds -/
def farN (n : N3) (s m : Int) : Int := if m = 0 then s else arr n s m
theorem at_mem {α : Type} {xs : List α} {v : Int} (h0 : 0 ≤ v) (h1 : v < (xs.length : Int)) : ∃ x, atI xs v = some x ∧ x ∈ xs := by
  obtain ⟨j, rfl⟩ : ∃ j : Nat, v = (j : Int) := ⟨v.toNat, by omega⟩
  have hj : j < xs.length := by omega
  exact ⟨xs[j], atI_nat (List.getElem?_eq_getElem hj), List.getElem_mem hj⟩
theorem at_ints (is : List Int) {v : Int} (h0 : 0 ≤ v) (h1 : v < (is.length : Int)) : ∃ i, atI (is.map V.int) v = some (.int i) ∧ i ∈ is := by
  obtain ⟨x, e, m⟩ := at_mem (xs := is.map V.int) h0 (by rw [List.length_map]; exact h1)
  obtain ⟨i, hi, rfl⟩ := List.mem_map.mp m
  exact ⟨i, e, hi⟩
theorem mk_same {H : Hp} {x dx : Addr} {o o1 o2 : HO} (hx : H x = none) (hd : H dx = none) : Same H (upd (upd (upd H dx o) x o1) x o2) := fun b u e => by
  rw [upd_ne (ne_of_none e hx), upd_ne (ne_of_none e hx), upd_ne (ne_of_none e hd)]
  exact e
/-- a tuple of a line's three numbers -/
def T3 (H : Hp) (p : Addr) (n : N3) : Prop := H p = some (.tup [.int n.e, .int n.a, .int n.r])
theorem T3.same {H H' : Hp} {p : Addr} {n : N3} (h : T3 H p n) (s : Same H H') : T3 H' p n := s _ _ h
end Fw
namespace Fw
open PySem PySem.Spec PyProof.Rows L2
theorem lead_m (x y : N3) (s m : Int) (hm : 1 ≤ m) : farN x s m - farN y s m = (m - 1) * (rl x - rl y) - (arr y s 1 - arr x s 1) := by
  unfold farN
  rw [if_neg (by omega), if_neg (by omega)]
  unfold arr
  rw [Int.mul_sub]
  simp only [Int.sub_self, Int.zero_mul]
  omega
theorem ovt_right {x y : N3} {s : Int} (hA : arr y s 1 - arr x s 1 ≤ 10 ^ 60) :
    (ovt x y s = none ∧ arr x s 1 - arr y s 1 ≤ 0 ∧ rl x - rl y ≤ 0) ∨
    (∃ t, ovt x y s = some t ∧ ¬ (arr x s 1 - arr y s 1 ≤ 0 ∧ rl x - rl y ≤ 0) ∧ 1 ≤ t ∧ t ≤ 10 ^ 61 ∧ (1 < t → ¬ 0 < farN x s (t - 1) - farN y s (t - 1)) ∧ 0 < farN x s t - farN y s t) := by
  unfold ovt
  generalize hA' : arr y s 1 - arr x s 1 = A at *
  have eA : arr x s 1 - arr y s 1 = -A := by omega
  rw [eA]
  by_cases c : A < 0
  · rw [if_pos c]
    refine .inr ⟨1, rfl, by omega, by omega, by decide, fun h => absurd h (by decide), ?_⟩
    rw [lead_m x y s 1 (by decide), hA']
    simp only [Int.sub_self, Int.zero_mul]
    omega
  · rw [if_neg c]
    by_cases d : 0 < rl x - rl y
    · rw [if_pos d]
      have q0 : 0 ≤ A / (rl x - rl y) := Int.ediv_nonneg (by omega) (by omega)
      have q1 : A / (rl x - rl y) ≤ A := Int.ediv_le_self _ (by omega)
      have q2 := Int.emod_add_mul_ediv A (rl x - rl y)
      have q3 := Int.emod_nonneg A (show rl x - rl y ≠ 0 by omega)
      have q4 := Int.emod_lt_of_pos A d
      rw [Int.mul_comm] at q2
      refine .inr ⟨_, rfl, by omega, by omega, by omega, fun _ => ?_, ?_⟩
      · rw [lead_m x y s _ (by omega), hA', show 2 + A / (rl x - rl y) - 1 - 1 = A / (rl x - rl y) by omega]
        omega
      · rw [lead_m x y s _ (by omega), hA', show 2 + A / (rl x - rl y) - 1 = A / (rl x - rl y) + 1 by omega, Int.add_mul, Int.one_mul]
        omega
    · rw [if_neg d]
      exact .inl ⟨rfl, by omega, by omega⟩
end Fw

/-! Fw, part E: rounds. -/
namespace Fw
open PySem PySem.Spec PyProof.Rows L2
theorem farN_RR {n : N3} {s m : Int} (h : 1 ≤ m) : farN n s m = dep n s + RR n m := by
  unfold farN
  rw [if_neg (by omega), arr_RR]
theorem dep_mod {n : N3} (h : n.ok) (s : Int) : ∃ k, dep n s = n.a + n.e * k := by
  unfold dep
  have e := Int.emod_add_mul_ediv (n.a - s) n.e
  refine ⟨-((n.a - s) / n.e), ?_⟩
  rw [Int.mul_neg]
  omega
theorem farN_add {n : N3} (h : n.ok) {s m k : Int} (hm : 0 ≤ m) (hk : 0 ≤ k) : farN n (farN n s m) k = farN n s (m + k) := by
  by_cases m0 : m = 0
  · subst m0
    rw [Int.zero_add]
    unfold farN
    rw [if_pos rfl]
  by_cases k0 : k = 0
  · subst k0
    rw [Int.add_zero]
    generalize farN n s m = z
    unfold farN
    rw [if_pos rfl]
  have he : 0 < n.e := by have := h.1; omega
  rw [farN_RR (s := farN n s m) (by omega), farN_RR (s := s) (m := m) (by omega), farN_RR (by omega), ← RR_add he m k]
  obtain ⟨j, e⟩ := dep_mod h s
  have q : dep n (dep n s + RR n m) = dep n s + RR n m + (0 - RR n m) % n.e := by
    show dep n s + RR n m + (n.a - (dep n s + RR n m)) % n.e = _
    rw [show n.a - (dep n s + RR n m) = (0 - RR n m) + n.e * (-j) by rw [Int.mul_neg]; omega, Int.add_mul_emod_self_left]
  rw [q]
  omega
theorem Sz.log {b : Nat} {i : Int} (h : Sz b i) (hb : b ≤ 1920 := by decide) (h0 : 0 < b := by decide) : i.natAbs.log2 < 1920 := by
  by_cases z : i.natAbs = 0
  · rw [z]
    decide
  · have := (Nat.log2_lt z).mpr h
    omega
theorem dep_sz {n : N3} (h : n.ok) {s : Int} {b : Nat} (hs : Sz b s) (he : Sz b n.e) : Sz (b + 1) (dep n s) := by
  have d := dep_le h s
  have h1 := h.1
  unfold Sz at *
  rw [Nat.pow_succ]
  omega
def untl (n : N3) (t g : Int) : Option Int := if g ≤ t then some 0 else if g ≤ arr n t 1 then some 1 else if rl n = 0 then none else some (1 - (arr n t 1 - g) / rl n)
theorem arr1 (n : N3) (t : Int) : arr n t 1 = dep n t + n.r := by
  unfold arr
  simp only [Int.sub_self, Int.zero_mul]
  omega
theorem untl_some {n : N3} {t g : Int} (h : n.ok) (h0 : t < g) (h1 : ¬ (n.r = 0 ∧ dep n t + n.r < g)) :
    ∃ k, untl n t g = some k ∧ 1 ≤ k ∧ k ≤ g - t + rl n + 1 ∧ g ≤ farN n t k ∧ farN n t (k - 1) < g := by
  have d := dep_le h t
  have hr := rl_nn h
  have h4 := h.2.2.2
  unfold untl
  rw [if_neg (by omega), arr1]
  by_cases c : g ≤ dep n t + n.r
  · rw [if_pos c]
    refine ⟨1, rfl, by decide, by omega, ?_, ?_⟩
    · unfold farN
      rw [if_neg (by decide), arr1]
      exact c
    · unfold farN
      rw [if_pos (by decide)]
      exact h0
  · rw [if_neg c]
    have r0 : ¬ n.r = 0 := fun z => h1 ⟨z, by omega⟩
    have l0 : 0 < rl n := by omega
    rw [if_neg (by omega)]
    have e := Int.emod_add_mul_ediv (dep n t + n.r - g) (rl n)
    have m0 := Int.emod_nonneg (dep n t + n.r - g) (show rl n ≠ 0 by omega)
    have m1 := Int.emod_lt_of_pos (dep n t + n.r - g) l0
    have q0 : (dep n t + n.r - g) / rl n < 0 := Int.ediv_lt_of_lt_mul l0 (by omega)
    generalize (dep n t + n.r - g) / rl n = q at *
    generalize (dep n t + n.r - g) % rl n = r at *
    have q1 : rl n * q ≤ 1 * q := Int.mul_le_mul_of_nonpos_right (by omega) (by omega)
    refine ⟨1 - q, rfl, by omega, by omega, ?_, ?_⟩
    · unfold farN
      rw [if_neg (by omega)]
      unfold arr
      rw [show 1 - q - 1 = -q by omega, Int.neg_mul, Int.mul_comm q]
      omega
    · unfold farN
      rw [if_neg (by omega)]
      unfold arr
      rw [show 1 - q - 1 - 1 = -q - 1 by omega, Int.sub_mul, Int.neg_mul, Int.mul_comm q, Int.one_mul]
      omega
theorem untl_none {n : N3} {t g : Int} (h : n.ok) (h0 : t < g) (h1 : n.r = 0) (h2 : dep n t + n.r < g) : untl n t g = none := by
  have hr : rl n = 0 := by
    unfold rl
    rw [h1]
    simp
  unfold untl
  rw [if_neg (by omega), arr1, if_neg (by omega), if_pos hr]
/-! ### rounds one by one -/
def ends41 (n : N3) (s : Int) : List Int := (List.range 41).map fun (i : Nat) => farN n s i
/-! ### comprehensions -/
/-- i items of ys stand in the new list at D, all else is as in H1 -/
def LcP (H1 : Hp) (D : Addr) (ys : List V) (i : Nat) (H : Hp) : Prop := Same H1 H ∧ H D = some (.lst (ys.take i))
theorem LcP.start {H1 : Hp} {D : Addr} {ys : List V} (hD : H1 D = none) : LcP H1 D ys 0 (upd H1 D (.lst [])) := ⟨Same.new hD, upd_same⟩
theorem LcP.step {H1 H H4 : Hp} {D : Addr} {ys : List V} {i : Nat} {y : V} (p : LcP H1 D ys i H) (hD : H1 D = none) (hz : ys.length < sizeLine) (s : Same H H4) (hy : ys[i]? = some y) :
    ∃ acc, H4 D = some (.lst acc) ∧ acc.length < sizeLine ∧ LcP H1 D ys (i + 1) (upd H4 D (.lst (acc ++ [y]))) := by
  obtain ⟨p1, p2⟩ := p
  refine ⟨_, s _ _ p2, Nat.lt_of_le_of_lt (by rw [List.length_take]; omega) hz, fun b o e => ?_, ?_⟩
  · rw [upd_ne (ne_of_none e hD)]
    exact s _ _ (p1 _ _ e)
  · rw [upd_same, List.take_add_one, hy]
    rfl
theorem LcP.done {H1 H : Hp} {D : Addr} {ys : List V} {i : Nat} (p : LcP H1 D ys i H) (h : ys.length ≤ i) : H D = some (.lst ys) := by
  rw [p.2, List.take_of_length_le h]
end Fw

/-! Fw, part G: promises of defs that hold where no repr is under way; repr of data at any depth. -/
namespace Fw
open PySem PySem.Spec PyProof.Rows L2
open He (ga ma)
/-! ### how long a repr is -/
mutual
/-- a bound on the length of the text -/
def wt : PyData → Nat
  | .none => 4
  | .bool _ => 5
  | .int _ => 600
  | .str x => (PyData.shown (.str x)).length
  | .list xs | .tuple xs => wtAll xs + 5
  | .dict kvs => (PyData.shown (.dict kvs)).length
def wtAll : List PyData → Nat
  | [] => 0
  | x :: xs => wt x + 2 + wtAll xs
end
theorem len_app (a b : Str) : (a ++ b).length = a.length + b.length := by
  show (a.cps ++ b.cps).size = _
  rw [Array.size_append]
  rfl
theorem int_len {i : Int} (h : i.natAbs.log2 < 1920) : (Str.ofString (toString i)).length ≤ 600 := by
  have b : i.natAbs < 2 ^ 1920 := by
    by_cases z : i.natAbs = 0
    · rw [z]
      exact Nat.two_pow_pos _
    · exact (Nat.log2_lt z).mp h
  have c : (2 : Nat) ^ 1920 < 10 ^ 598 := by decide +kernel
  by_cases n : 0 ≤ i
  · refine Nat.le_trans (toString_length_le n (k := 598) (by decide) ?_) (by decide)
    have e : ((10 ^ 598 : Nat) : Int) = (10 : Int) ^ 598 := by simp
    rw [← e]
    omega
  · rw [toString_neg (by omega)]
    have q := toString_length_le (v := 0 - i) (by omega) (k := 598) (by decide) (by
      have e : ((10 ^ 598 : Nat) : Int) = (10 : Int) ^ 598 := by simp
      rw [← e]
      omega)
    rw [PyProof.Rows.ofString_length] at q ⊢
    rw [String.toList_append, List.length_append]
    have e1 : ("-" : String).toList.length = 1 := by decide
    omega
theorem textFrom_le : ∀ (ts : List Str) (k : Nat) (acc : Str), (textFrom k acc ts).length ≤ acc.length + piled ts
  | [], _, acc => by
    show acc.length ≤ _
    omega
  | t :: r, k, acc => by
    have ih := textFrom_le r (k + 1) (acc ++ (if k > 0 then ", " else "" : String) ++ t)
    show (textFrom (k + 1) _ r).length ≤ _
    rw [len_app, len_app] at ih
    rw [piled_cons]
    have s2 : (Str.ofString (if k > 0 then ", " else "" : String)).length ≤ 2 := by
      by_cases z : k > 0
      · rw [if_pos z]; decide
      · rw [if_neg z]; decide
    omega
mutual
theorem shown_wt : ∀ d : PyData, d.showable = true → (PyData.shown d).length ≤ wt d
  | .none, _ => by simp only [PyData.shown, wt]; decide
  | .bool b, _ => by cases b <;> simp only [PyData.shown, wt] <;> decide
  | .int i, h => by
    simp only [PyData.showable, decide_eq_true_eq] at h
    simp only [PyData.shown, wt]
    exact int_len h
  | .str x, _ => by simp only [wt]; exact Nat.le_refl _
  | .list xs, h => by
    simp only [PyData.showable] at h
    have q := shownAll_wt xs h
    simp only [PyData.shown, wt]
    unfold listText
    rw [len_app]
    have t := textFrom_le (PyData.shownAll xs) 0 "["
    have e1 : (Str.ofString "[").length = 1 := by decide
    have e2 : (Str.ofString "]").length = 1 := by decide
    omega
  | .tuple xs, h => by
    simp only [PyData.showable] at h
    have q := shownAll_wt xs h
    simp only [PyData.shown, wt]
    unfold tupleText
    rw [len_app, len_app]
    have e1 : (Str.ofString "(").length = 1 := by decide
    have e2 : (Str.ofString (if (PyData.shownAll xs).length == 1 then ",)" else ")" : String)).length ≤ 2 := by
      by_cases z : ((PyData.shownAll xs).length == 1) = true
      · rw [if_pos z]; decide
      · rw [if_neg z]; decide
    by_cases z : PyData.shownAll xs = []
    · rw [z] at e2 ⊢
      have e3 : (Str.join ", " ([] : List Str)).length = 0 := by decide
      omega
    · have t := join_length_add _ z
      omega
  | .dict kvs, _ => by simp only [wt]; exact Nat.le_refl _
theorem shownAll_wt : ∀ ds : List PyData, PyData.showableAll ds = true → piled (PyData.shownAll ds) ≤ wtAll ds
  | [], _ => by simp only [PyData.shownAll, wtAll]; exact Nat.le_refl _
  | d :: r, h => by
    simp only [PyData.showableAll, Bool.and_eq_true] at h
    have q1 := shown_wt d h.1
    have q2 := shownAll_wt r h.2
    simp only [PyData.shownAll, wtAll]
    rw [piled_cons]
    omega
end
/-! ### repr -/
/-- data whose repr is a text of a fit length -/
structure Fit (d : PyData) : Prop where
  sh : d.showable = true
  nd : d.hasDict = false
  dp : d.depth ≤ 40
  wt : wt d ≤ 16777216
theorem call_reprD {X : Cx} (hg : X.A.guards = some []) (hu : X.A.units + 64 < cLine) : CallR X (.builtin "repr") (fun xs H Q => ∃ a d, xs = [.ref a] ∧ Dp X.K H (.ref a) d ∧ Fit d ∧ Q (.str d.shown) H) := by
  intro pins s σ H xs us Q I r h
  obtain ⟨a, d, rfl, hd, f, q⟩ := h
  obtain ⟨u, rfl, ru⟩ := vals1 r
  obtain ⟨as, rd⟩ := Dp.reads I d (.ref a) u hd ru
  obtain rfl : u = Value.ref a := ru
  have hl : d.shown.length ≤ sizeLine := Nat.le_trans (shown_wt d f.sh) f.wt
  have hdp := f.dp
  exact repr_of_reads' rd f.sh (PyData.noDict_hsm f.nd) hg (by omega) (fun _ _ e => e) (fun h' t tk hk => ⟨.str d.shown, H, I.kept hk, ⟨_, rfl⟩, q⟩) hl
/-! ### promises where no repr is under way -/
structure FnG (P : Program) (w : World) (K : PySem.W.Frag) (mg : Str → Option Value) (base : Heap) (CX : CXT) (k : Nat) (f : Addr) (fd : FuncData) (ps : List Str) (sp : Sp) : Prop where
  count : ∀ vs H Q E, sp vs H Q E → vs.length = ps.length
  go : ∀ (A : Around) (outer : List Env) (s : Shared) (H : Hp) (args : Args) (us : List Value) (vs : List V) (Q : VK) (E : XK), A.guards = some [] → Room k A → Env0 P w K mg base A outer s H →
    BindsTo s fd args (ps.zip us) → Vals vs us → sp vs H Q E → codeAny (model P w) A (.call (.ref f) args) (CR CX outer P w H s Q E) s
section
variable {P : Program} {w : World} {K : PySem.W.Frag} {mg : Str → Option Value} {base : Heap}
theorem Fun.okG {x qual : Str} {st : Stmt} {f : Addr} {fd : FuncData} {N ps : List Str} {k : Nat} {sp : Sp} (F : Fun K x qual st f fd) (S : FnScope N ps (defScope st)) (len : ∀ vs H Q E, sp vs H Q E → vs.length = ps.length)
    (body : ∀ (cdv : Value) (A : Around) (outer : List Env) (s : Shared) (H : Hp) (vs : List V) (Q : VK) (E : XK), (A.deeper (envOfC qual (defScope st) s.heap.objs.size f cdv)).guards = some [] → Room k (A.deeper (envOfC qual (defScope st) s.heap.objs.size f cdv)) → sp vs H Q E →
      ∃ t, PSs (cxOf (L2.CX P w) P w K mg base N qual (defScope st) f cdv A outer s H E) (defBody st) t ∧ t { nx := fun _ H' => Q .non H', rt := Q } (L2.start N vs) H) : FnG P w K mg base (L2.CX P w) (k + 1) f fd ps sp := by
  obtain ⟨oc, od, kV, doc, pm, an, cdv, ct, osl, rfl, lk, hcd⟩ := F.ex
  constructor
  · exact len
  intro A outer s H args us vs Q E hg room e0 bound rv want
  have up : ∀ {b : Addr} {o : Obj}, base.get? b = some o → s.heap.get? b = some o := fun {b o} e => (e0.bs b o e).1
  have inK : K.In s.heap := e0.mod.kin.keeps fun b o e => up e
  have free : s.heap.NoLimit := e0.mod.nolimit.keeps fun b o e => up e
  obtain ⟨t, ht, hq⟩ := body cdv A outer s H vs Q E hg (room.deeper _) want
  apply codeAny_call_function room.depth (inK _ _ lk) rfl S.co S.gen rfl (PySem.W.codeRec_of inK hcd) (bound _ _ _ _ ?rest)
  apply wpAny_newFunctionEnv_cells S.kind
  · intro y hy
    obtain ⟨n, v⟩ := y
    cases S.par n (List.of_mem_zip hy).1 with
    | inl q => exact .inl q
    | inr q => exact .inr ⟨q, PySem.W.cellsFrom_some _ _ _ (.inl q)⟩
  intro env ee s1 inC
  subst ee
  refine ⟨free.keeps inC.toInCall.keep, codeAny_func ?_⟩
  have J : Inv (cxOf (L2.CX P w) P w K mg base N qual (defScope st) f cdv A outer s H E) [] (L2.start N vs) H s1 := inv_start S room.hd e0 (len _ _ _ _ want) rv inC
  have close : ∀ {s' : Shared} {τ : L2.St} {H' : Hp} {v : V} {u : Value}, Inv (cxOf (L2.CX P w) P w K mg base N qual (defScope st) f cdv A outer s H E) [] τ H' s' → RelV v u → Q v H' → CE outer P w H s Q u s' := fun i rr qq => ⟨_, _, i.os, i.bare, i.base, i.hok, rr, qq⟩
  refine wpAny_mono (ht.run [] s1 _ H _ J hq) ?_ fun _ _ z => z
  intro fl s' z
  match fl, z with
  | .ret _, ⟨_, _, _, i, rr, qq⟩ => exact close i rr qq
  | .next, ⟨_, _, i, qq⟩ => exact close (v := V.non) (u := Value.none) i rfl qq
  | .brk, ⟨_, _, _, no⟩ => exact False.elim no
  | .cont, ⟨_, _, _, no⟩ => exact False.elim no
end
section
variable {X : Cx} {CX : CXT} {k : Nat} {f : Addr} {fd : FuncData} {ps ks : List Str} {sp : Sp} {E : XK} {x : Str} {p pos : Pos} {e : Expr} {es : List Expr} {t tk : TA} {kws : List Keyword}
theorem runG {pins : List (Addr × Obj)} {σ : L2.St} {H : Hp} {s : Shared} {Q : VK} {args : Args} {us : List Value} {vs : List V} (F : FnG X.prog X.w X.K X.mg X.base CX k f fd ps sp) (hg : X.A.guards = some []) (hr : Room k X.A) (hb : BindsTo s fd args (ps.zip us)) (hx : Passes CX X E)
    (I : Inv X pins σ H s) (r : Vals vs us) (h : sp vs H Q E) : codeAny (model X.prog X.w) X.A (.call (.ref f) args) (fun r s' => match r with | .error e => X.xe e s' | .ok (.ret u) => EP X pins σ Q u s' | .ok _ => False) s := by
  refine codeAny_mono (F.go X.A X.stack s H args us vs Q E hg hr I.env0 hb r h) fun z s' q => ?_
  match z, q with
  | .error e, q => exact hx pins σ H s e s' I q
  | .ok (.ret u), q => exact I.after q
/-- f(e, ..), f a def whose promise wants that no repr is under way -/
theorem pe_callG (F : FnG X.prog X.w X.K X.mg X.base CX k f fd ps sp) (hg : X.A.guards = some []) (hr : Room k X.A) (hgl : Gl X x) (hm : X.mg x = some (.ref f)) (hk : PySem.W.keepIn X.K (.ref f) = true) (hb : Binds X.K fd ps []) (hx : Passes CX X E)
    (ha : PA X (e :: es) t) (hdb : (x == ("__debug__" : Str)) = false := by decide) (he : starEach (e :: es) X.env = (false, eval e X.env) :: starEach es X.env := by rfl) (hpl : (backTo pos (starEach es X.env)).any (fun q => q.1) = false := by rfl) :
    PE X (.Call (.Name x p) (e :: es) [] pos) (tCall sp [] E t) := by
  constructor
  intro pins s σ H Q I h
  apply wpAny_Call_Name_kw
  apply ld_glob I hgl hm _ hdb
  apply PySem.W.callWith_K (h₀ := X.base) I.ok.mod.kin hk _ he hpl
  refine thn (ha.run pos pins s σ H _ I h) fun us s1 ⟨vs, H1, I1, r, q⟩ => ⟨I1.kIn, ?_⟩
  have q : sp (vs ++ []) H1 Q E := q
  rw [List.append_nil] at q
  have len : us.length = ps.length := by rw [← r.length]; exact F.count _ _ _ _ q
  refine wpAny_call (codeAny_mono (runG F hg hr (us := us) (by have b := hb s1 us I1.kIn (by rw [List.append_nil]; exact len); rw [List.append_nil] at b; exact b) hx I1 r q) fun z s' q => ?_)
  match z, q with
  | .error e, q => exact q
  | .ok (.ret u), q => exact q
end
/-! ### the end -/
section
variable {P : Program} {w : World} {K : PySem.W.Frag} {mg mb : Str → Option Value} {CX : CXT} {k : Nat} {fa a : Addr} {fd : FuncData} {x : Str} {sp : Sp} {s₁ : Shared} {vs : List Value} {ns : List Int}
/-- from a heap H in which nothing but the script is tracked -/
theorem endG_from {H : Hp} (KX : K.In s₁.heap) (hns : s₁.heap.Ns mainGlobals mg) (hb : s₁.heap.Ns builtinsNs mb) (hbb : ∀ x : Str, x ≠ "__name__" → mb x = bootBuiltins x) (hlim : s₁.heap.NoLimit) (hg : s₁.gens = #[])
    (data : ∀ b o es ep, s₁.heap.get? b = some o → o.data = .dict es ep → H b = none) (out : ∀ b o, K.lookup b = some o → H b = none) (hr : Room k callerA)
    (F : ∀ base : Heap, K.In base → base.Ns mainGlobals mg → FnG P w K mg base CX k fa fd [x] sp) (hbind : ∀ (s : Shared) (u : Value), BindsTo s fd ⟨[u], []⟩ [(x, u)])
    (hO : Only H) (hok : HOk P w H s₁.heap) (want : sp [.ref a] H (fun v _ => v = .bl true) fun _ _ _ => False) (hCX : ∀ e s', CX [] H s₁ (fun _ _ _ => False) e s' → False) :
    codeAny (model P w) callerA (.call (.ref fa) ⟨[.ref a], []⟩) (fun r s' => r = .ok (.ret (.bool true)) ∧ OldK s₁.heap s'.heap ∧ s'.os = s₁.os ∧ AllBare s'.gens) s₁ := by
  have ns : ∀ {b : Addr} {m : Str → Option Value}, s₁.heap.Ns b m → (hidT s₁.heap H).Ns b m := by
    intro b m h
    obtain ⟨o, es, ep, e, d, r⟩ := h
    exact ⟨o, es, ep, hidT_get e (data b o es ep e d), d, r⟩
  have kin : K.In (hidT s₁.heap H) := fun b o e => hidT_get (KX b o e) (out b o e)
  obtain ⟨mc, c1, c2⟩ := hlim
  have env : Env0 P w K mg (hidT s₁.heap H) callerA [] s₁ H :=
    { frames := rfl, mod := { kin := kin, glob := ns hns, blt := ⟨mb, ns hb, hbb⟩, nolimit := ⟨mc, ns c1, c2⟩ }, bs := fun b o e => of_hidT e, bsz := Nat.le_of_eq (hidT_size _ _), funs := trivial, frf := (fun b z => nomatch z), hok := hok, bare := .of_eq hg }
  have run := (F _ kin (ns hns)).go callerA [] s₁ H ⟨[.ref a], []⟩ [.ref a] [.ref a] _ _ rfl hr env (hbind s₁ (.ref a)) (.cons rfl .nil) want
  refine codeAny_mono run ?_
  intro r s' z
  match r, z with
  | .error e, z => exact (hCX e s' z).elim
  | .ok (.ret u), ⟨v, H', os, bare, un, hok', rr, vt⟩ =>
    cases (show v = .bl true from vt)
    cases (show u = Value.bool true from rr)
    refine ⟨rfl, OldK.of_keep ?_, os, bare⟩
    intro b o e
    rcases hO b with z | ⟨ob, xs, z⟩
    · exact un.keep b o e z (fun q => nomatch q) (by simp)
    · have g2 := (hok' b _ (un.frzs b ob _ z)).1
      have g1 := (hok b _ z).1
      rw [e] at g1
      cases g1
      exact g2
theorem law_callG (KX : K.In s₁.heap) (hns : s₁.heap.Ns mainGlobals mg) (hb : s₁.heap.Ns builtinsNs mb) (hbb : ∀ x : Str, x ≠ "__name__" → mb x = bootBuiltins x) (hlim : s₁.heap.NoLimit) (hg : s₁.gens = #[])
    (ha : s₁.heap.get? a = some { cls := .type "list", data := .seq vs.toArray }) (hi : IntsAre vs ns) (hl : ns.length ≤ sizeLine) (hr : Room k callerA)
    (F : ∀ base : Heap, K.In base → base.Ns mainGlobals mg → FnG P w K mg base CX k fa fd [x] sp) (hbind : ∀ (s : Shared) (u : Value), BindsTo s fd ⟨[u], []⟩ [(x, u)])
    (hsp : ∀ H : Hp, Only H → SqL K H a (ns.map V.int) → sp [.ref a] H (fun v _ => v = .bl true) fun _ _ _ => False)
    (hCX : ∀ H e s', CX [] H s₁ (fun _ _ _ => False) e s' → False) :
    codeAny (model P w) callerA (.call (.ref fa) ⟨[.ref a], []⟩) (fun r s' => r = .ok (.ret (.bool true)) ∧ OldK s₁.heap s'.heap ∧ s'.os = s₁.os ∧ AllBare s'.gens) s₁ := by
  have rv := vals_ints hi
  have lenV := hi.length
  by_cases hk : ∃ o, K.lookup a = some o
  · obtain ⟨o, hk⟩ := hk
    have e := KX a o hk
    rw [ha] at e
    cases e
    have only : Only (fun _ => none) := fun _ => .inl rfl
    have seq : SqL K (fun _ => none) a (ns.map V.int) := .inr ⟨_, vs.toArray, _, hk, rfl, rfl, rfl, by rw [List.size_toArray, lenV]; exact hl, by simpa using rv⟩
    exact endG_from KX hns hb hbb hlim hg (fun _ _ _ _ _ _ => rfl) (fun _ _ _ => rfl) hr F hbind only (fun b u z => nomatch z) (hsp _ only seq) (hCX _)
  · have no : K.lookup a = none := by
      cases q : K.lookup a with
      | none => rfl
      | some o => exact absurd ⟨o, q⟩ hk
    let H : Hp := upd (fun _ => none) a (.frz { cls := .type "list", data := .seq vs.toArray } (.lst (ns.map V.int)))
    have at_ : H a = some (.frz { cls := .type "list", data := .seq vs.toArray } (.lst (ns.map V.int))) := upd_same
    have off : ∀ b, b ≠ a → H b = none := fun b n => upd_ne n
    have only : Only H := by
      intro b
      by_cases z : b = a
      · exact .inr ⟨_, _, by rw [z]; exact at_⟩
      · exact .inl (off b z)
    refine endG_from KX hns hb hbb hlim hg ?_ ?_ hr F hbind only ?_ (hsp H only (.inl (.inr ⟨_, at_⟩))) (hCX _)
    · intro b o es ep e d
      refine off b fun z => ?_
      rw [z, ha] at e
      cases e
      cases d
    · intro b o e
      refine off b fun z => ?_
      rw [z, no] at e
      cases e
    · intro b u e
      by_cases z : b = a
      · subst z
        rw [at_] at e
        cases e
        exact ⟨ha, by rw [List.length_map]; exact hl, vs, _, rv, ha⟩
      · rw [off b z] at e
        cases e
end
theorem endMG {l : PySem.W.OpenLaw} {k N : Nat} {q : Program} {loose : List Str} {d : DefRec} {ck : List Ck} {fn : List DefM} {XP : (Str → Option Value) → Heap → Prop} {spL : Frag → Sp}
    (hn : l.most = some 63) (hdf : d.params.defaults = []) (hr : Room k callerA) (hd : d.name = ("law" : Str))
    (F : ∀ (w : World) (K : Frag) (mg : Str → Option Value) (base : Heap), Zs ck fn K mg → K.In base → base.Ns mainGlobals mg → FnG l.prog w K mg base (L2.CX l.prog w) k (ga K "law") (fdAt K (ga K "law")) ["script"] (spL K))
    (hg : ∀ (K : Frag) (mg : Str → Option Value), Zs ck fn K mg → mg "law" = some (.ref (ga K "law")))
    (hb : ∀ (K : Frag) (mg : Str → Option Value), Zs ck fn K mg → ∀ (s : Shared) (u : Value), BindsTo s (fdAt K (ga K "law")) ⟨[u], []⟩ [("script", u)])
    (hs : ∀ (K : Frag) (H : Hp) (a : Addr) (ns : List Int), ns.length ≤ 63 → Only H → SqL K H a (ns.map V.int) → spL K [.ref a] H (fun v _ => v = .bl true) fun _ _ _ => False) :
    PySem.W.WalkO q loose XP (hookM N ck fn).says l.row.toRowW d [] (fun f vs => PySem.call f vs) := by
  refine Att.attach_call hn hdf fun w s₀ s₁ mg mb fa o pm cd doc a vs ns G Y ho hd' hcd hmg hobj hints hlen hgn => ?_
  obtain ⟨K, KX, c⟩ := Y
  have Z : Zs ck fn K mg := ⟨c, _, KX, G.T.g⟩
  have e : fa = ga K "law" := by
    have h1 := hg K mg Z
    rw [hd] at hmg
    rw [hmg] at h1
    cases h1
    rfl
  subst e
  exact law_callG KX G.T.g G.T.b G.T.builtins G.T.nolimit hgn hobj hints (Nat.le_trans hlen (by decide)) hr (fun base h1 h2 => F w K mg base Z h1 h2) (hb K mg Z) (fun H hO hS => hs K H a ns hlen hO hS) fun H e s' h => by
    obtain ⟨_, _, _, _, _, _, _, _, _, _, _, _, z⟩ := h
    exact z.elim
end Fw

/-! Fw, part H: names from a list's items; int of a bool; class constants of lines. -/
namespace Fw
open PySem PySem.Spec PyProof.Rows L2
open He (ga ma)
section
variable {X : Cx} {pos : Pos}
/-- int(b), b a bool -/
theorem call_int_bl : CallR X (.type "int") (fun xs H Q => ∃ b, xs = [.bl b] ∧ Q (.int (if b then 1 else 0)) H) := by
  intro pins s σ H xs us Q I r h
  obtain ⟨b, rfl, q⟩ := h
  obtain ⟨u, rfl, ru⟩ := vals1 r
  obtain rfl : u = Value.bool b := ru
  exact call_int_bool ⟨.int _, H, I.tok _, ⟨_, rfl⟩, q⟩
end
/-! ### the word of a kind -/
def kn : LK → Str
  | .line => "line"
  | .walk => "walk"
  | .stop => "stop"
/-! ### the feed: a list [digits, seed, count] -/
abbrev P61 : Int := 2305843009213693951
def fdM (a : Addr) (b : Addr) : Prop := b = a
/-- N counts may still be made -/
def Fd (a : Addr) (N : Nat) (H : Hp) : Prop := ∃ (d m n : Int), H a = some (.lst [.int d, .int m, .int n]) ∧ 0 ≤ d ∧ 0 ≤ m ∧ m < P61 ∧ 0 ≤ n ∧ n + (N : Int) ≤ 2 ^ 40
theorem Fd.less {a : Addr} {N N' : Nat} {H : Hp} (h : Fd a N H) (l : N' ≤ N) : Fd a N' H := by
  obtain ⟨d, m, n, h1, h2, h3, h4, h5, h6⟩ := h
  exact ⟨d, m, n, h1, h2, h3, h4, h5, by omega⟩
theorem Fd.same {a : Addr} {N : Nat} {H H' : Hp} (h : Fd a N H) (s : Same H H') : Fd a N H' := by
  obtain ⟨d, m, n, h1, h2⟩ := h
  exact ⟨d, m, n, s _ _ h1, h2⟩
theorem Fd.out {a p : Addr} {N : Nat} {H : Hp} {o : HO} (h : Fd a N H) (e : H p = some o) (d : ∀ xs, o ≠ .lst xs) : ¬ fdM a p := by
  obtain ⟨x, m, n, h1, _⟩ := h
  intro z
  rw [show p = a from z, h1] at e
  cases e
  exact d _ rfl
theorem Fd.fresh {a p : Addr} {N : Nat} {H : Hp} (h : Fd a N H) (e : H p = none) : ¬ fdM a p := by
  obtain ⟨x, m, n, h1, _⟩ := h
  intro z
  rw [show p = a from z, h1] at e
  cases e
theorem Fd.line {K : Frag} {a p : Addr} {N : Nat} {H H' : Hp} {k : LK} {n : N3} (h : Fd a N H) (x : Ext (fdM a) H H') (e : LnAt K H p k n) : LnAt K H' p k n := let ⟨dx, e⟩ := e; ⟨dx, x _ _ (h.out e fun _ z => nomatch z) e⟩
/-- what keeps all but the feed, seen from a heap in which the feed stood as well -/
theorem Ext.back {M : Addr → Prop} {H H' : Hp} {p : Addr} (x : Ext M H H') (n : ¬ M p) (e : H' p = none) : H p = none := by
  cases q : H p with
  | none => rfl
  | some o =>
    rw [x p o n q] at e
    cases e
/-- pick(feed, many): some number below many -/
def spPick (K : Frag) : Sp := fun vs H Q _ => ∃ (a : Addr) (N : Nat) (m : Int), vs = [.ref a, .int m] ∧ Fd a (N + 128) H ∧ 1 ≤ m ∧ Sz 4000 m ∧
  ∀ (v : Int) (H' : Hp), 0 ≤ v → v < m → Ext (fdM a) H H' → Fd a N H' → Q (.int v) H'
theorem bits_le {m : Int} {b : Nat} (h : Sz b m) : Builtin.Int.intBits m ≤ b := by
  unfold Builtin.Int.intBits
  by_cases z : m = 0
  · subst z
    exact Nat.zero_le _
  · have q : m.natAbs ≠ 0 := by omega
    have l := (Nat.log2_lt q).mpr h
    split
    · exact Nat.zero_le _
    · omega
theorem Sz.p61 {m : Int} (h0 : 0 ≤ m) (h1 : m < P61) : Sz 61 m := Sz.of (by omega) (Int.lt_of_lt_of_le h1 (by decide))
/-- the numbers of a line as a list, its kind ahead -/
def L4 (H : Hp) (p : Addr) (k : LK) (n : N3) : Prop := H p = some (.lst [.str (kn k), .int n.e, .int n.a, .int n.r])
/-- numbers that a line of the kind may have -/
structure NmOk (k : LK) (n : N3) : Prop where
  ok : n.ok
  walk : k = .walk → n.e = 1 ∧ n.a = 0
  stop : k = .stop → n.r = 0
/-! ### headways of which each one divides the next one -/
def limG : Bool → Int
  | true => 10 ^ 59
  | false => 60
structure ChOk (g : Bool) (cs : List Int) : Prop where
  ne : cs ≠ []
  len : cs.length ≤ 10
  pos : ∀ c ∈ cs, 1 ≤ c ∧ c ≤ limG g
  div : cs.Pairwise (fun x y => x ∣ y)
theorem ChOk.fit {g : Bool} {cs : List Int} (h : ChOk g cs) {x y : Int} (hx : x ∈ cs) (hy : y ∈ cs) : x ∣ y ∨ y ∣ x := by
  obtain ⟨i, hi, rfl⟩ := List.mem_iff_getElem.mp hx
  obtain ⟨j, hj, rfl⟩ := List.mem_iff_getElem.mp hy
  have q := List.pairwise_iff_getElem.mp h.div
  by_cases c : i < j
  · exact .inl (q i j hi hj c)
  by_cases d : j < i
  · exact .inr (q j i hj hi d)
  · have e : i = j := by omega
    subst e
    exact .inl (Int.dvd_refl _)
theorem ChOk.app {g : Bool} {ds : List Int} {l m : Int} (h : ChOk g (ds ++ [l])) (hd : ∀ x ∈ ds, x ∣ l) (hl : (ds ++ [l]).length ≤ 9) (h1 : 1 ≤ l * m) (h2 : l * m ≤ limG g) : ChOk g ((ds ++ [l]) ++ [l * m]) ∧ ∀ x ∈ ds ++ [l], x ∣ l * m := by
  have hx : ∀ x ∈ ds ++ [l], x ∣ l * m := by
    intro x hx
    rcases List.mem_append.mp hx with q | q
    · exact Int.dvd_trans (hd x q) (Int.dvd_mul_right l m)
    · rw [List.mem_singleton.mp q]
      exact Int.dvd_mul_right l m
  refine ⟨⟨by simp, by rw [List.length_append]; simp; simp at hl; omega, ?_, ?_⟩, hx⟩
  · intro c hc
    rcases List.mem_append.mp hc with q | q
    · exact h.pos c q
    · rw [List.mem_singleton.mp q]
      exact ⟨h1, h2⟩
  · rw [List.pairwise_append]
    refine ⟨h.div, List.pairwise_singleton _ _, ?_⟩
    intro x hx' y hy
    rw [List.mem_singleton.mp hy]
    exact hx x hx'
end Fw

/-! Fw, part I: methods of lines, and lines themselves, called with keywords alone. -/
namespace Fw
open PySem PySem.Spec PyProof.Rows L2
open He (ga ma)
section
variable {X : Cx} {k0 : Nat} {f : Addr} {fd : FuncData} {ps ks : List Str} {sp : Sp} {E : XK} {m : Str} {pos apos : Pos} {o fe : Expr} {kws : List Keyword} {ta tf : TE} {tk : TA} {g : List Value → List Value → List Value} {gV : List V → List V → List V}
/-- o.m(k = v, ..), o a line -/
def tLMN (K : Frag) (n : Nat) (gV : List V → List V → List V) (sp : Sp) (E : XK) (ta : TE) (tk : TA) : TE := fun σ H Q => ta σ H fun x H1 => ∃ a k nn, x = .ref a ∧ LnAt K H1 a k nn ∧ tk σ H1 fun zs H2 => zs.length = n ∧ sp (gV [.ref a] zs) H2 Q E
theorem pe_lmethN {pl : Sem Bool} (he : PE X o ta) (L : LnF X.K) (hm : ∀ k, Meth X.K (cA X.K k) m f) (F : FnOk X.prog X.w X.K X.mg X.base (L2.CX X.prog X.w) k0 f fd ps sp) (hr : Room k0 X.A) (hb : KBn X.K fd ps 1 ks g gV) (hx : Passes (L2.CX X.prog X.w) X E) (hkw : PK X kws tk)
    (n1 : ¬ m = "held_ride" := by decide +kernel) (n2 : ¬ m = "held_at" := by decide +kernel) (n3 : ¬ m = "held_every" := by decide +kernel)
    (hall : (backToKw pos (keywordEach kws X.env)).all (fun q => q.1.isSome) = true := by rfl) (hks : (backToKw pos (keywordEach kws X.env)).filterMap (fun q => q.1) = ks := by rfl)
    (hpl : ((backTo pos (starEach [] X.env)).any (fun q => q.1) || (backToKw pos (keywordEach kws X.env)).any (fun q => q.1.isNone)) = false := by rfl)
    (ht : eval (.Call (.Attribute o m apos) [] kws pos) X.env = (do
      let ov ← eval o X.env
      standAt apos.atName
      let (g, first) ← holding [ov] (getMethod ov m pl)
      callWith pos g first (backTo pos (starEach [] X.env)) (backToKw pos (keywordEach kws X.env))) := by rfl) :
    PE X (.Call (.Attribute o m apos) [] kws pos) (tLMN X.K ks.length gV sp E ta tk) := by
  constructor
  intro pins s σ H Q I h
  apply PySem.W.methodCall_KW (pl := pl) _ ht
  refine thn (he.run pins s σ H _ I h) fun u s1 ⟨x, H1, I1, rx, a, k, n, ex, ⟨dx, ea⟩, q⟩ => ?_
  subst ex
  obtain rfl : u = Value.ref a := rx
  refine getmeth_ok I1 ea (L.cls k) (hm k) (lf_no n n1 n2 n3) ?_
  apply PySem.W.callWith_KW0 (h₀ := X.base) (first := [.ref a]) I.ok.mod.kin (hm k).kp hall _ hpl
  refine thn (hkw.run pos pins s1 σ H1 _ I1 q) fun ws s2 ⟨zs, H2, I2, rz, l2, q2⟩ => ⟨I2.kIn, ?_⟩
  rw [hks]
  exact run_fnN (us := [.ref a]) (vs := [.ref a]) F hr hb hx I2 (.cons rfl .nil) rz rfl l2 q2
/-- the node of a call of an instance, keywords and all -/
theorem callKw_of {M : Model} {A : Around} {E : Value → Shared → Prop} {s : Shared} {a : Addr} {pos : Pos} {Q : Value → Shared → Prop} {args : List (Bool × Sem Value)} {keywords : List (Option Str × Sem Value)} (plain : (args.any (fun q => q.1) || keywords.any (fun q => q.1.isNone)) = false)
    (h : wpAny M A (evalArgs (.ref a) true args keywords) (fun z s₁ => (∃ C ox od, PySem.W.InstAt s₁.heap a ox C od ∧ ox.data = .plain) ∧ wpAny M A (call (.ref a) ([] ++ z.pos) z.kw) Q E s₁) E s) : wpAny M A (callWith pos (.ref a) [] args keywords) Q E s := by
  unfold callWith
  apply wpAny_bind
  apply wpAny_holding
  refine wpAny_mono h ?_ fun _ _ y => y
  intro z s₁ hz
  obtain ⟨⟨C, ox, od, J, hd⟩, hz⟩ := hz
  apply wpAny_bind
  apply wpAny_standAt
  simp only [plain]
  apply wpAny_bind
  apply (PySem.W.kco_keeper (M := M) J hd).here
  have close : ∀ {t : Sem Value}, wpAny M A t Q E s₁ → wpAny M A (t >>= fun r => holding [r] point >>= fun _ => pure r) Q E s₁ := by
    intro t ht
    apply wpAny_bind
    refine wpAny_mono ht ?_ fun _ _ y => y
    intro r s₂ hr
    apply wpAny_bind
    apply wpAny_holding
    exact wpAny_point (wpAny_pure hr)
  exact close (wpAny_operateT hz)
/-- line(k = v, ..) -/
def tLCN (K : Frag) (n : Nat) (gV : List V → List V → List V) (sp : Sp) (E : XK) (tf : TE) (tk : TA) : TE := fun σ H Q => tf σ H fun y H1 => ∃ a, y = V.ref a ∧ tk σ H1 fun zs H2 => (∃ k nn, LnAt K H2 a k nn) ∧ zs.length = n ∧ sp (gV [.ref a] zs) H2 Q E
theorem pe_lcallN (hf : PE X fe tf) (c : ∀ k, StX.CallO X.K (cA X.K k) f) (F : FnOk X.prog X.w X.K X.mg X.base (L2.CX X.prog X.w) k0 f fd ps sp) (hr : Room k0 X.A) (hb : KBn X.K fd ps 1 ks g gV) (hx : Passes (L2.CX X.prog X.w) X E) (hkw : PK X kws tk)
    (hall : (backToKw pos (keywordEach kws X.env)).all (fun q => q.1.isSome) = true := by rfl) (hks : (backToKw pos (keywordEach kws X.env)).filterMap (fun q => q.1) = ks := by rfl)
    (hpl : ((backTo pos (starEach [] X.env)).any (fun q => q.1) || (backToKw pos (keywordEach kws X.env)).any (fun q => q.1.isNone)) = false := by rfl)
    (ht : eval (.Call fe [] kws pos) X.env = (do callWith pos (← eval fe X.env) [] (backTo pos (starEach [] X.env)) (backToKw pos (keywordEach kws X.env))) := by rfl) :
    PE X (.Call fe [] kws pos) (tLCN X.K ks.length gV sp E tf tk) := by
  constructor
  intro pins s σ H Q I h
  rw [ht]
  apply wpAny_bind
  refine thn (hf.run pins s σ H _ I h) fun u s1 ⟨y, H1, I1, ry, a, ey, q⟩ => ?_
  subst ey
  obtain rfl : u = Value.ref a := ry
  apply callKw_of hpl
  apply PyProof.Rows.evalArgs_kw2_nil hall
  refine thn (hkw.run pos pins s1 σ H1 _ I1 q) fun ws s2 ⟨zs, H2, I2, rz, ⟨k, n, dx, hi⟩, l2, q2⟩ => ?_
  obtain ⟨ox, od, J, hd⟩ := StX.insC_at I2 (.inr ⟨dx, _, hi⟩ : StX.InsC X H2 a (cA X.K k))
  refine ⟨⟨_, ox, od, J, hd⟩, wpAny_call (PySem.W.kco_code (a := ⟨[], _⟩) I2.kIn J hd (c k).at_ (c k).fn (c k).fi ?_)⟩
  rw [hks]
  have rr : Vals [V.ref a] [Value.ref a] := .cons rfl .nil
  refine codeAny_mono (F.run X.A X.stack s2 H2 ⟨[.ref a], ks.zip ws⟩ (g [.ref a] ws) (gV [.ref a] zs) Q E hr I2.env0 (hb.to s2 [.ref a] ws I2.kIn rfl (rz.length.symm.trans l2)) (hb.rel rr rz) q2) ?_
  intro z s' q
  match z, q with
  | .error e, q => exact hx pins σ H2 s2 e s' I2 q
  | .ok (.ret u), q => exact I2.after q
end
end Fw

/-! Fw, part J: + and * of instances of own classes; a name that a class does not have. -/
namespace Fw
open PySem PySem.Spec PyProof.Rows L2
open PySem.W (Looks looks_findIn looks_clsIn looks_subIn looks_typeIn)
section
variable {α : Type} {prog : Program} {w : World} {A : Around} {E : Value → Shared → Prop} {s : Shared} {K : Frag}
/-- an AttributeError with a text alone is raised -/
theorem raise_attr {msg : Str} {Q : α → Shared → Prop} (hh : A.handled = none) (h : ∀ h' tk e, Heap.NewExcOf s.heap h' e "AttributeError" → E (.ref e) { s with heap := h', toks := tk }) (hm : msg.length ≤ sizeLine) :
    wpAny (model prog w) A (raiseErrorStr "AttributeError" msg : Sem α) Q E s := by
  unfold raiseErrorStr
  refine wpAny_bind (wpAny_mkStr (wpAny_bind ?_) hm)
  unfold newExc newTuple
  refine wpAny_bind (wpAny_newObj_type ?_ (by size_fits))
  refine wpAny_bind (m := firstArgMember _ _) (wpAny_of_eq (a := Value.none) (by simp only [firstArgMember, attrError_no_first]; rfl) ?_)
  rw [ownMembersOf_AttributeError]
  refine wpAny_newObj_type ?_ (by size_fits)
  unfold raiseNew
  refine wpAny_bind (wpAny_handled ?_)
  rw [hh]
  refine wpAny_bind (wpAny_pure (wpAny_throw ?_))
  refine h _ _ _ ⟨fun b ob hb => Heap.get?_push_of_some _ (Heap.get?_push_of_some _ hb), Heap.get?_none_of_le (by simp), ?_⟩
  exact ⟨_, _, Heap.get?_push_size _ rfl, rfl, rfl, rfl⟩
/-- the class at C has no such name, and its own name is short -/
structure Lacks (K : Frag) (C : Addr) (name : Str) : Prop where
  reads : PySem.W.readsIn K C (.type "type") = true
  none_ : PySem.W.findIn K (.ref C) name = some none
  meta_ : PySem.W.findIn K (.type "type") name = some none
  hook : PySem.W.findIn K (.type "type") "__getattr__" = some none
  cls : ∃ cd, PySem.W.clsIn K C = some cd ∧ cd.name.cps.foldl (fun k c => k + (Str.utf8Of c).length) 0 ≤ 100 ∧ cd.name.toString.length ≤ 1000
theorem tga_missing {C : Addr} {name : Str} {tk : Tok} {Q : Fin → Shared → Prop} (hh : A.handled = none) (X : K.In s.heap) (L : Lacks K C name) (hz : name.length ≤ 1000)
    (h : ∀ h' tk e, Heap.NewExcOf s.heap h' e "AttributeError" → E (.ref e) { s with heap := h', toks := tk }) : wpAny (model prog w) A (Builtin.«type.__getattribute__» ⟨[.ref C, .str name tk], []⟩) Q E s := by
  have hr := L.reads
  simp only [PySem.W.readsIn, Bool.and_eq_true, beq_iff_eq] at hr
  obtain ⟨⟨⟨⟨r1, r2⟩, r3⟩, r4⟩, r5⟩ := hr
  obtain ⟨cd, c1, c2, c3⟩ := L.cls
  have ho : Looks (model prog w) s.heap (opaqueClassAbove (.ref C)) none := PySem.W.looks_opaque X r1
  have ht : Looks (model prog w) s.heap (typeOf (.ref C)) (.type "type") := looks_typeIn X r2
  have l1 : Looks (model prog w) s.heap (typeLookup (.type "type") name) none := looks_findIn X L.meta_
  have l2 : Looks (model prog w) s.heap (typeLookup (.ref C) name) none := looks_findIn X L.none_
  have l3 : Looks (model prog w) s.heap (classData C) cd := looks_clsIn X c1
  obtain ⟨hp, g, d, t, os⟩ := s
  unfold Builtin.«type.__getattribute__»
  refine wpAny_bind (wpAny_pure (wpAny_bind (ho.at (wpAny_bind (ht.at (wpAny_bind (l1.at ?_)))))))
  refine wpAny_bind (wpAny_pure ?_)
  refine wpAny_bind (l2.at ?_)
  refine wpAny_bind (wpAny_rule (wpAny_bind ?_))
  show wpAny _ _ (classData C >>= _) _ _ _
  refine wpAny_bind (l3.at ?_)
  simp only [if_pos c2]
  refine wpAny_pure ?_
  refine raise_attr hh h ?_
  rw [len_app, len_app, PyProof.Rows.ofString_length, PyProof.Rows.ofString_length]
  simp only [String.toList_append, List.length_append]
  have e1 : (toString "type object '").toList.length = 13 := by decide
  have e2 : (toString "' has no attribute '").toList.length = 20 := by decide
  have e3 : ("'" : String).toList.length = 1 := by decide
  have e4 : (toString cd.name.toString).toList.length = cd.name.toString.length := rfl
  show _ ≤ 16777216
  omega
/-- the question for a name that the class lacks is answered with none -/
theorem asked_missing {C : Addr} {name : Str} {tk : Tok} {Q : Option Value → Shared → Prop} (hh : A.handled = none) (X : K.In s.heap) (L : Lacks K C name) (hz : name.length ≤ 1000)
    (h : ∀ h' t', (∀ b o, s.heap.get? b = some o → h'.get? b = some o) → Q none { s with heap := h', toks := t' }) : wpAny (model prog w) A (getAttrBy? (.ref C) (.str name tk)) Q E s := by
  have hr := L.reads
  simp only [PySem.W.readsIn, Bool.and_eq_true, beq_iff_eq] at hr
  obtain ⟨⟨⟨⟨r1, r2⟩, r3⟩, r4⟩, r5⟩ := hr
  have ht : Looks (model prog w) s.heap (typeOf (.ref C)) (.type "type") := looks_typeIn X r2
  have l1 : Looks (model prog w) s.heap (typeLookup (.type "type") "__getattribute__") (some (.builtin "type.__getattribute__")) := looks_findIn X r3
  have ls : Looks (model prog w) s.heap (isSubtype (.type "type") (.type "type")) true := looks_subIn X r5
  unfold getAttrBy?
  refine wpAny_bind (wpAny_attempt ?_)
  unfold getAttrBy
  refine wpAny_holding (wpAny_bind (ht.here (wpAny_bind (l1.here ?_))))
  dsimp only
  rw [show (onTheHeap (.type "type") && Value.builtin "type.__getattribute__" == Value.builtin "object.__getattribute__") = false from rfl, if_neg (by decide)]
  unfold getAttrByItsOwn
  refine wpAny_bind (wpAny_pure (wpAny_bind (wpAny_attempt (wpAny_holding ?_))))
  unfold callGetattribute
  rw [show (false && onTheHeap (Value.builtin "type.__getattribute__")) = false from rfl, if_neg (by decide)]
  unfold boundAndCalled
  rw [PySem.W.KF.slot_tga.bind]
  refine wpAny_bind (wpAny_pure ?_)
  show wpAny _ _ (call (.builtin "type.__getattribute__") [.ref C, .str name tk]) _ _ _
  refine wpAny_call ?_
  refine codeAny_call_builtin PySem.W.KF.slot_tga.plain PySem.W.KF.entry_tga ?_
  refine @PySem.W.check_slot (model prog w) _ _ s "type.__getattribute__" "type" "__getattribute__" (.ref C) [.str name tk] [] _ (by decide +kernel) (by decide +kernel) (ht.andThen ls) (PySem.W.KF.args_tga (.ref C) (.str name tk)) ?_
  refine tga_missing (s := s) hh X L hz ?_
  intro h' t' e ne
  have X' : K.In h' := X.keeps ne.keeps
  have ty : (⟨h', s.gens, s.drawn, t', s.os⟩ : Shared).TypeIs (.ref e) "AttributeError" := by
    obtain ⟨ob, vs, a, b, _⟩ := ne.there
    exact ⟨ob, a, b⟩
  show wpAny _ _ (getattributeRaised _ _ _ _ _ _ _) _ _ _
  unfold getattributeRaised
  refine wpAny_bind (wpAny_isInstance ty sub_AttributeError ?_)
  rw [if_pos rfl]
  have l2 : Looks (model prog w) h' (typeLookup (.type "type") "__getattr__") none := looks_findIn X' L.hook
  refine wpAny_bind ?_
  show wpAny _ _ (typeLookup (.type "type") "__getattr__") _ _ _
  refine l2.at ?_
  unfold hookOrError
  dsimp only
  unfold attributeErrorLeaves
  rw [if_pos (show (!false) = true from rfl)]
  refine wpAny_bind (wpAny_throw ?_)
  refine wpAny_bind (wpAny_isInstance ty sub_AttributeError ?_)
  rw [if_pos rfl]
  exact wpAny_pure (h h' t' ne.keeps)
theorem instAt_keeps {h h' : Heap} {x C : Addr} {ox : Obj} {od : Option Obj} (I : PySem.W.InstAt h x ox C od) (k : ∀ b o, h.get? b = some o → h'.get? b = some o) : PySem.W.InstAt h' x ox C od := by
  obtain ⟨a, b, c, d⟩ := I
  refine ⟨k _ _ a, b, c, ?_⟩
  cases e : ox.dict with
  | none =>
    rw [e] at d
    cases od with
    | none => exact trivial
    | some o => exact False.elim d
  | some dx =>
    rw [e] at d
    cases od with
    | none => exact False.elim d
    | some o => exact k _ _ d
/-- what an own class must say that its instances may stand at an operator: nm, its def f, no reflected one -/
structure OpOf (K : Frag) (C : Addr) (nm : String) (f : Addr) : Prop where
  first : PySem.W.selfFirst K C = true
  at_ : PySem.W.findIn K (.ref C) (PySem.dunder nm) = some (some (.ref f))
  fn : PySem.W.isFn K (.ref f) = true
  refl : PySem.W.findIn K (.ref C) (dunderR nm) = some none
theorem differs_not {C D f g : Addr} {nm : String} {Q : Bool → Shared → Prop} (hh : A.handled = none) (X : K.In s.heap) (c : OpOf K C nm f) (d : OpOf K D nm g) (L : Lacks K D (dunderR nm)) (hz : (dunderR nm).length ≤ 1000)
    (h : ∀ h' t', (∀ b o, s.heap.get? b = some o → h'.get? b = some o) → Q false { s with heap := h', toks := t' }) : wpAny (model prog w) A (reflectedDiffers (.ref C) (.ref D) nm) Q E s := by
  have l1 : Looks (model prog w) s.heap (numberSlotInPython (.ref C) nm) true := PySem.W.ksp_inPy X c.at_ c.refl (.inl rfl)
  have l2 : Looks (model prog w) s.heap (numberSlotInPython (.ref D) nm) true := PySem.W.ksp_inPy X d.at_ d.refl (.inl rfl)
  unfold reflectedDiffers
  refine wpAny_bind (l1.here ?_)
  rw [if_neg (by decide)]
  refine wpAny_bind (l2.here ?_)
  rw [if_neg (by decide)]
  refine wpAny_bind (wpAny_mkStr ?_ (by show _ ≤ 16777216; omega))
  refine wpAny_bind (asked_missing hh (s := { s with toks := s.toks + 1 }) X L hz ?_)
  intro h' t' k
  exact wpAny_pure (h h' t' k)
/-- x op y, x and y of two own classes that have the operator by a def and no reflected one -/
theorem binop_two {op : Operator} {x y C D f g : Addr} {ox oy : Obj} {od oe : Option Obj} {b : Bool} {Q : Value → Shared → Prop} (hh : A.handled = none) (X : K.In s.heap) (I : PySem.W.InstAt s.heap x ox C od) (J : PySem.W.InstAt s.heap y oy D oe) (ne : C ≠ D)
    (c : OpOf K C op.info.2 f) (d : OpOf K D op.info.2 g) (sub : PySem.W.subIn K (.ref D) (.ref C) = some b) (L : b = true → Lacks K D (dunderR op.info.2)) (hz : (dunderR op.info.2).length ≤ 1000)
    (h : ∀ h' t', (∀ b o, s.heap.get? b = some o → h'.get? b = some o) → wpAny (model prog w) A (call (.ref f) [.ref x, .ref y]) (PySem.W.CmpBack Q) E { s with heap := h', toks := t' }) : wpAny (model prog w) A (binaryOp op (.ref x) (.ref y)) Q E s := by
  obtain ⟨cd, rest, hcd, hm⟩ := PySem.W.ksp_first c.first
  obtain ⟨ce, rest2, hce, hm2⟩ := PySem.W.ksp_first d.first
  rcases hi : op.info with ⟨sym, nm⟩
  rw [hi] at c d L hz
  dsimp only at c d L hz
  have hne : (Value.ref C == Value.ref D) = false := Bool.eq_false_iff.mpr fun q => ne (by cases beq_iff_eq.mp q; rfl)
  have l3 : Looks (model prog w) s.heap (fillsNumberSlot (.ref C) nm) true := PySem.W.fills_K X hcd hm c.at_
  have l4 : Looks (model prog w) s.heap (fillsNumberSlot (.ref D) nm) true := PySem.W.fills_K X hce hm2 d.at_
  have l5 : Looks (model prog w) s.heap (isSubtype (.ref D) (.ref C)) b := looks_subIn X sub
  have l6 : Looks (model prog w) s.heap (numberSlotInPython (.ref C) nm) true := PySem.W.ksp_inPy X c.at_ c.refl (.inl rfl)
  have l7 : Looks (model prog w) s.heap (numberSlotInPython (.ref D) nm) true := PySem.W.ksp_inPy X d.at_ d.refl (.inl rfl)
  simp only [binaryOp, hi]
  refine wpAny_holding (wpAny_bind ?_)
  unfold binaryOp1
  refine wpAny_bind (I.type.here (wpAny_bind (J.type.here (wpAny_bind (l3.here ?_)))))
  simp only [hne, Bool.false_eq_true, if_false]
  refine wpAny_bind (l4.here ?_)
  simp only [Bool.and_self, if_true]
  refine wpAny_bind (l5.here ?_)
  cases b with
  | false =>
    simp only [Bool.false_eq_true, if_false, Bool.not_false, Bool.and_self, if_true]
    refine wpAny_bind (l6.here ?_)
    simp only [if_true]
    refine wpAny_bind (l7.here ?_)
    simp only [Bool.not_true, Bool.false_eq_true, if_false]
    refine wpAny_bind (wpAny_mono (PySem.W.ksp_try X I c.at_ c.fn (h s.heap s.toks fun _ _ e => e)) ?_ fun _ _ e => e)
    rintro r s' ⟨v, rfl, q⟩
    exact wpAny_pure (wpAny_pure q)
  | true =>
    simp only [if_true]
    refine wpAny_bind (differs_not hh X c d (L rfl) hz ?_)
    intro h' t' k
    simp only [Bool.false_eq_true, if_false, Bool.not_false, Bool.and_self, if_true]
    refine wpAny_bind ((l6.keeps k).at ?_)
    simp only [if_true]
    refine wpAny_bind ((l7.keeps k).at ?_)
    simp only [Bool.not_true, Bool.false_eq_true, if_false]
    refine wpAny_bind (wpAny_mono (PySem.W.ksp_try (X.keeps k) (instAt_keeps I k) c.at_ c.fn (h h' t' k)) ?_ fun _ _ e => e)
    rintro r s' ⟨v, rfl, q⟩
    exact wpAny_pure (wpAny_pure q)
end
open He (ga ma eqO eqO_ok)
/-! ### lines at operators -/
/-- the operator nm of lines: one def f for all three classes -/
structure OpL (K : Frag) (nm : String) (f : Addr) : Prop where
  of : ∀ k, OpOf K (cA K k) nm f
  two : ∀ k j, k ≠ j → cA K k ≠ cA K j ∧ ∃ b, PySem.W.subIn K (.ref (cA K j)) (.ref (cA K k)) = some b ∧ (b = true → Lacks K (cA K j) (dunderR nm))
/-- line op line, the result an object -/
def rLop (K : Frag) (sp : Sp) (E : XK) : R2 := fun x y H Q => ∃ a k n b j m, x = .ref a ∧ y = .ref b ∧ LnAt K H a k n ∧ LnAt K H b j m ∧ sp [.ref a, .ref b] H (fun v H' => (∃ p, v = .ref p) ∧ Q v H') E
/-- line op number, the result an object -/
def rLnum (K : Frag) (sp : Sp) (E : XK) : R2 := fun x y H Q => ∃ a k n i, x = .ref a ∧ y = .int i ∧ LnAt K H a k n ∧ sp [.ref a, .int i] H (fun v H' => (∃ p, v = .ref p) ∧ Q v H') E
section
variable {X : Cx} {op : Operator} {k0 : Nat} {f : Addr} {fd : FuncData} {ps : List Str} {sp : Sp} {E : XK}
theorem ep_back {pins : List (Addr × Obj)} {σ : L2.St} {Q : VK} {v : Value} {s' : Shared} (h : EP X pins σ (fun v H' => (∃ p, v = .ref p) ∧ Q v H') v s') : PySem.W.CmpBack (EP X pins σ Q) v s' := by
  obtain ⟨y, H', I, r, ⟨p, e⟩, q⟩ := h
  subst e
  obtain rfl : v = Value.ref p := r
  exact ⟨.ref p, H', I, rfl, q⟩
theorem op_lop (hc : X.calm = true) (O : OpL X.K op.info.2 f) (hz : (dunderR op.info.2).length ≤ 1000) (F : FnOk X.prog X.w X.K X.mg X.base (L2.CX X.prog X.w) k0 f fd ps sp) (hr : Room k0 X.A) (hb : L2.Binds X.K fd ps []) (hx : Passes (L2.CX X.prog X.w) X E) : OpR X (binaryOp op) (rLop X.K sp E) := by
  intro pins s σ H x y v u Q I rx ry h
  obtain ⟨a, k, n, b, j, m, rfl, rfl, ⟨dx, ha⟩, ⟨dy, hb'⟩, q⟩ := h
  obtain rfl : v = Value.ref a := rx
  obtain rfl : u = Value.ref b := ry
  have hh : X.A.handled = none := I.ok.hd hc
  obtain ⟨mA, OA, _⟩ := ins_get I.hok ha
  obtain ⟨od, JA, _⟩ := OA.look
  obtain ⟨mB, OB, _⟩ := ins_get I.hok hb'
  obtain ⟨oe, JB, _⟩ := OB.look
  have run : ∀ s', Inv X pins σ H s' → wpAny (model X.prog X.w) X.A (call (.ref f) [.ref a, .ref b]) (PySem.W.CmpBack (EP X pins σ Q)) X.xe s' := by
    intro s' I'
    have w := run_fn (us := [.ref a, .ref b]) (vs := [.ref a, .ref b]) F hr hb .nil hx I' (.cons rfl (.cons rfl .nil)) (by rw [List.append_nil]; exact q)
    exact wpAny_mono w (fun _ _ z => ep_back z) fun _ _ z => z
  by_cases e : k = j
  · subst e
    obtain ⟨mm, fr⟩ := I.fr
    exact PySem.W.binop_K fr I.ok.mod.kin JA JB.type (O.of k).first (O.of k).at_ (O.of k).fn (run s I)
  · obtain ⟨ne, bb, sb, L⟩ := O.two k j e
    exact binop_two hh I.kIn JA JB ne (O.of k) (O.of j) sb L hz fun h' t' kp => run _ (I.kept kp)
theorem op_lnum {fo ro : Option Value} (O : OpL X.K op.info.2 f) (h1 : PySem.W.findIn X.K (.type "int") (PySem.dunder op.info.2) = some fo) (h2 : PySem.W.findIn X.K (.type "int") (dunderR op.info.2) = some ro) (hs : ∀ k, PySem.W.subIn X.K (.type "int") (.ref (cA X.K k)) = some false)
    (F : FnOk X.prog X.w X.K X.mg X.base (L2.CX X.prog X.w) k0 f fd ps sp) (hr : Room k0 X.A) (hb : L2.Binds X.K fd ps []) (hx : Passes (L2.CX X.prog X.w) X E) : OpR X (binaryOp op) (rLnum X.K sp E) := by
  intro pins s σ H x y v u Q I rx ry h
  obtain ⟨a, k, n, i, rfl, rfl, ⟨dx, ha⟩, q⟩ := h
  obtain rfl : v = Value.ref a := rx
  obtain ⟨t, rfl⟩ := ry
  obtain ⟨mA, OA, _⟩ := ins_get I.hok ha
  obtain ⟨od, JA, _⟩ := OA.look
  obtain ⟨mm, fr⟩ := I.fr
  refine PySem.W.ksp_binT fr I.ok.mod.kin JA rfl (O.of k).first (O.of k).at_ (O.of k).fn (O.of k).refl (.inl rfl) h1 h2 (hs k) ?_
  have w := run_fn (us := [.ref a, .int i t]) (vs := [.ref a, .int i]) F hr hb .nil hx I (.cons rfl (.cons ⟨t, rfl⟩ .nil)) (by rw [List.append_nil]; exact q)
  exact wpAny_mono w (fun _ _ z => ep_back z) fun _ _ z => z
end
/-! ### the checks of the top -/
def cOpOf (x : Str) (nm : String) (f : Frag → Addr) : Ck := fun K => PySem.W.selfFirst K (ga K x) && (eqO (PySem.W.findIn K (.ref (ga K x)) (PySem.dunder nm)) (some (some (.ref (f K)))) && (PySem.W.isFn K (.ref (f K)) && eqO (PySem.W.findIn K (.ref (ga K x)) (dunderR nm)) (some none)))
def cLacks (x : Str) (name : Str) : Ck := fun K => PySem.W.readsIn K (ga K x) (.type "type") && (eqO (PySem.W.findIn K (.ref (ga K x)) name) (some none) && (eqO (PySem.W.findIn K (.type "type") name) (some none) && (eqO (PySem.W.findIn K (.type "type") "__getattr__") (some none) &&
  (match PySem.W.clsIn K (ga K x) with | some cd => decide (cd.name.cps.foldl (fun k c => k + (Str.utf8Of c).length) 0 ≤ 100) && decide (cd.name.toString.length ≤ 1000) | none => false))))
def cTwo (x y : Str) (b : Bool) : Ck := fun K => decide (ga K x ≠ ga K y) && decide (PySem.W.subIn K (.ref (ga K y)) (.ref (ga K x)) = some b)
def cIntOp (x : Str) (nm : String) : Ck := fun K => (PySem.W.findIn K (.type "int") (PySem.dunder nm)).isSome && ((PySem.W.findIn K (.type "int") (dunderR nm)).isSome && decide (PySem.W.subIn K (.type "int") (.ref (ga K x)) = some false))
section
variable {K : Frag}
theorem opOf_of {x : Str} {nm : String} {f : Frag → Addr} (c : cOpOf x nm f K = true) : OpOf K (ga K x) nm (f K) := by
  obtain ⟨c1, c⟩ := Bool.and_eq_true_iff.mp c
  obtain ⟨c2, c⟩ := Bool.and_eq_true_iff.mp c
  obtain ⟨c3, c4⟩ := Bool.and_eq_true_iff.mp c
  exact ⟨c1, eqO_ok c2, c3, eqO_ok c4⟩
theorem lacks_of {x name : Str} (c : cLacks x name K = true) : Lacks K (ga K x) name := by
  obtain ⟨c1, c⟩ := Bool.and_eq_true_iff.mp c
  obtain ⟨c2, c⟩ := Bool.and_eq_true_iff.mp c
  obtain ⟨c3, c⟩ := Bool.and_eq_true_iff.mp c
  obtain ⟨c4, c⟩ := Bool.and_eq_true_iff.mp c
  refine ⟨c1, eqO_ok c2, eqO_ok c3, eqO_ok c4, ?_⟩
  cases e : PySem.W.clsIn K (ga K x) with
  | none => rw [e] at c; cases c
  | some cd =>
    rw [e] at c
    obtain ⟨d1, d2⟩ := Bool.and_eq_true_iff.mp c
    exact ⟨cd, rfl, of_decide_eq_true d1, of_decide_eq_true d2⟩
theorem two_of {x y : Str} {b : Bool} (c : cTwo x y b K = true) : ga K x ≠ ga K y ∧ PySem.W.subIn K (.ref (ga K y)) (.ref (ga K x)) = some b := by
  obtain ⟨c1, c2⟩ := Bool.and_eq_true_iff.mp c
  exact ⟨of_decide_eq_true c1, of_decide_eq_true c2⟩
theorem intOp_of {x : Str} {nm : String} (c : cIntOp x nm K = true) : ∃ fo ro, PySem.W.findIn K (.type "int") (PySem.dunder nm) = some fo ∧ PySem.W.findIn K (.type "int") (dunderR nm) = some ro ∧ PySem.W.subIn K (.type "int") (.ref (ga K x)) = some false := by
  obtain ⟨c1, c⟩ := Bool.and_eq_true_iff.mp c
  obtain ⟨c2, c3⟩ := Bool.and_eq_true_iff.mp c
  obtain ⟨fo, e1⟩ := Option.isSome_iff_exists.mp c1
  obtain ⟨ro, e2⟩ := Option.isSome_iff_exists.mp c2
  exact ⟨fo, ro, e1, e2, of_decide_eq_true c3⟩
end
end Fw

/-! Fw, part K: t[::2] of a tuple of three; == and != of lines. -/
namespace Fw
open PySem PySem.Spec PyProof.Rows L2
open PySem.W (Looks looks_findIn looks_clsIn looks_subIn looks_typeIn)
open He (ga ma eqO eqO_ok)
section
variable {prog : Program} {w : World} {A : Around} {E : Value → Shared → Prop} {s : Shared}
theorem sliceApplied_two {sl : Addr} {vl vu vs : Value} {Q : Int × Int × Nat → Shared → Prop} (hs : s.heap.IsSliceOf sl vl vu vs) (pl : IsPart vl none) (pu : IsPart vu none) (ps : IsPart vs (some 2))
    (h : Q (0, 2, 2) s) : wpAny (model prog w) A (Builtin.Slice.sliceApplied (.ref sl) (pure (3 : Int))) Q E s := by
  obtain ⟨os, hos, hcs, hds⟩ := id hs
  unfold Builtin.Slice.sliceApplied Builtin.Slice.sliceFields
  refine wpAny_bind (wpAny_bind (wpAny_field hos hds (x := vl) rfl (wpAny_bind (wpAny_field hos hds (x := vu) rfl (wpAny_bind (wpAny_field hos hds (x := vs) rfl (wpAny_pure ?_)))))))
  refine wpAny_bind (HT.slicePart_ ps ?_)
  show wpAny _ _ (if ((2 : Int) == 0) = true then _ else _) _ _ s
  rw [if_neg (by decide)]
  refine wpAny_bind (HT.slicePart_ pl (wpAny_bind (HT.slicePart_ pu (wpAny_bind (wpAny_pure ?_)))))
  exact wpAny_pure h
theorem getItem_tuple_two {t sl : Addr} {x0 x1 x2 : Value} {vl vu vs : Value} {Q : Value → Shared → Prop} (ht : IsTup s.heap t #[x0, x1, x2]) (hs : s.heap.IsSliceOf sl vl vu vs) (pl : IsPart vl none) (pu : IsPart vu none) (ps : IsPart vs (some 2))
    (h : Q (.ref s.heap.objs.size) { s with heap := s.heap.push { cls := .type "tuple", data := .seq #[x0, x2] } }) : wpAny (model prog w) A (getItem (.ref t) (.ref sl)) Q E s := by
  have htake : sizeOk (.seq #[x0, x2]) := by
    show (2 : Nat) ≤ sizeLine
    decide
  obtain ⟨os, hos, hcs, hds⟩ := id hs
  have hTs : s.TypeIs (.ref sl) "slice" := ⟨os, hos, hcs⟩
  unfold getItem
  try with_reducible refine wpAny_holding ?_
  first | refine wpAny_bind (wpAny_pure ?_) | skip
  refine wpAny_bind (wpAny_sequenceKey ht.typeIs (by decide) ?_)
  refine wpAny_bind (wpAny_callSpecial?_slot (name := Str.ofString "__getitem__") ht.typeIs PyProof.Rows.slot_tuple_getitem
    (wpAny_call_entry PyProof.Rows.slot_tuple_getitem ht.typeIs entry_tuple_getitem ?_ (args_tuple_getitem _ _)))
  show wpAny _ _ (Builtin.Tuple.tupleItemsOf (.ref t) >>= _) _ _ s
  refine wpAny_bind (tupleItemsOf_ ht ?_)
  refine wpAny_bind (wpAny_typeOf hTs ?_)
  rw [if_pos (by decide)]
  refine wpAny_bind (sliceApplied_two hs pl pu ps ?_)
  have e : ((List.range 2).filterMap fun (m : Nat) => (#[x0, x1, x2] : Array Value)[((0 : Int) + (m : Int) * 2).toNat]?).toArray = #[x0, x2] := rfl
  show wpAny _ _ (if ((0 : Int) == 0 && (2 : Int) == 1 && (2 == 3)) = true then _ else _) _ _ s
  rw [if_neg (by decide)]
  first
    | exact wpAny_bind (m := Builtin.Tuple.tupleExact _) (wpAny_newObj_type (wpAny_pure ⟨_, rfl, wpAny_pure h⟩) htake)
    | exact wpAny_bind (m := Builtin.Tuple.tupleExact _) (wpAny_newObj_type (wpAny_bind (wpAny_pure (wpAny_pure ⟨_, rfl, wpAny_pure h⟩))) htake)
    | exact wpAny_bind (wpAny_bind (m := Builtin.Tuple.tupleExact _) (wpAny_newObj_type (wpAny_pure (wpAny_pure ⟨_, rfl, wpAny_pure h⟩)) htake))
    | exact wpAny_bind (wpAny_bind (m := Builtin.Tuple.tupleExact _) (wpAny_newObj_type (wpAny_pure ⟨_, rfl, wpAny_pure h⟩) htake))
end
/-! ### t[::2] -/
def tTup2 (K : Frag) (te : TE) : TE := fun σ H Q => te σ H fun x H1 => ∃ a x0 x1 x2, x = .ref a ∧ SqT K H1 a [x0, x1, x2] ∧ ∀ p, H1 p = none → Q (.ref p) (upd H1 p (.tup [x0, x2]))
section
variable {X : Cx}
theorem pe_tup2 {e : Expr} {te : TE} {k : Nat} {p1 p3 pos : Pos} (he : PE X e te) : PE X (.Subscript e (.Slice none none (some (.Constant (.int 2) k p1)) p3) pos) (tTup2 X.K te) := by
  refine ⟨fun pins s σ H Q I h => ?_⟩
  refine Subscript_ (thn (he.run pins s σ H _ I h) fun v s1 ⟨x, H1, I1, r1, q1⟩ => ?_)
  obtain ⟨a, x0, x1, x2, ex, hx, q⟩ := q1
  subst ex
  cases r1
  have hst : PO X (some (.Constant (.int 2) k p1)) (tPart (tC (.int 2))) := po_some pe_int
  refine wpAny_Slice (thn (po_none.run pins s1 σ H1 (fun o H2 => o = none ∧ H2 = H1) I1 ⟨rfl, rfl⟩) fun vl s2 ⟨l, H2, I2, pl, el, e2⟩ => ?_)
  subst el e2
  refine thn (po_none.run pins s2 σ H2 (fun o H3 => o = none ∧ H3 = H2) I2 ⟨rfl, rfl⟩) fun vu s3 ⟨u, H3, I3, pu, eu, e3⟩ => ?_
  subst eu e3
  refine thn (hst.run pins s3 σ H3 (fun o H4 => o = some 2 ∧ H4 = H3) I3 ⟨2, rfl, rfl, rfl⟩) fun vs s4 ⟨o, H4, I4, ps, eo, e4⟩ => ?_
  subst eo e4
  have I5 : Inv X pins σ H4 { s4 with heap := s4.heap.push { cls := .type "slice", data := .fields #[vl, vu, vs] } } := I4.kept (t' := s4.toks) fun b ob q => Heap.get?_push_of_some _ q
  obtain ⟨its, r, ht, hz⟩ := I5.tuple hx
  obtain ⟨y0, y1, y2, ei, r0, r1, r2⟩ : ∃ y0 y1 y2, its = [y0, y1, y2] ∧ RelV x0 y0 ∧ RelV x1 y1 ∧ RelV x2 y2 := by
    cases r with
    | cons a0 r => cases r with
      | cons a1 r => cases r with
        | cons a2 r => cases r with
          | nil => exact ⟨_, _, _, rfl, a0, a1, a2⟩
  subst ei
  show wpAny (model X.prog X.w) X.A (subscriptTail e (.Slice none none (some (.Constant (.int 2) k p1)) p3) (.ref a) (.ref s4.heap.objs.size)) (EP X pins σ Q) X.xe { s4 with heap := s4.heap.push { cls := .type "slice", data := .fields #[vl, vu, vs] } }
  refine tail_any (ops := [.ref a, .ref s4.heap.objs.size]) ht.typeIs (PyProof.Rows.slot_tuple_getitem.lookup) ?_ (by with_unfolding_all rfl)
  refine getItem_tuple_two ht (Heap.IsSliceOf.new _ vl vu vs) pl pu ps ?_
  refine ⟨.ref _, _, I5.laid (t' := s4.toks) (o := .tup [x0, x2]) (fun b ob q => Heap.get?_push_of_some _ q) (Nat.le_refl _) ?_, rfl, q _ (I5.hok.fresh (Nat.le_refl _))⟩
  exact ⟨by show 2 ≤ sizeLine; decide, _, .cons r0 (.cons r2 .nil), IsTup.new _ _⟩
end
/-! ### == and != of an own class -/
structure EqOf (K : Frag) (C : Addr) (f : Addr) : Prop where
  eq : PySem.W.findIn K (.ref C) "__eq__" = some (some (.ref f))
  fn : PySem.W.isFn K (.ref f) = true
  ne : PySem.W.findIn K (.ref C) "__ne__" = some (some (.builtin "object.__ne__"))
  obj : PySem.W.subIn K (.ref C) (.type "object") = some true
section
variable {prog : Program} {w : World} {A : Around} {E : Value → Shared → Prop} {s : Shared} {K : Frag} {x C f : Addr} {ox : Obj} {od : Option Obj} {y : Value}
theorem eq_try {Q : Option Value → Shared → Prop} (X : K.In s.heap) (I : PySem.W.InstAt s.heap x ox C od) (c : EqOf K C f)
    (h : wpAny (model prog w) A (call (.ref f) [.ref x, y]) (fun v s' => ∃ b, v = .bool b ∧ Q (some (.bool b)) s') E s) : wpAny (model prog w) A (tryCompare (.ref x) "__eq__" y) Q E s := by
  unfold tryCompare
  refine wpAny_bind (PySem.W.ifBound_K X I c.eq c.fn (wpAny_mono h (fun v s' hv => ?_) fun _ _ e => e))
  obtain ⟨b, rfl, q⟩ := hv
  exact wpAny_pure q
theorem objNe_own {Q : Fin → Shared → Prop} (hu : A.units < cLine) (X : K.In s.heap) (I : PySem.W.InstAt s.heap x ox C od) (c : EqOf K C f)
    (h : wpAny (model prog w) A (call (.ref f) [.ref x, y]) (fun v s' => ∃ b, v = .bool b ∧ Q (.done (.ret (.bool (!b)))) s') E s) :
    wpAny (model prog w) A (Builtin.«object.__ne__» ⟨[.ref x, y], []⟩) Q E s := by
  unfold Builtin.«object.__ne__»
  repeat (first
    | with_reducible refine wpAny_cRoomFor hu ?_
    | (refine wpAny_bind (m := callSpecialIfBound? (.ref x) (Str.ofString "__eq__") [y])
        (PySem.W.ifBound_K X I c.eq c.fn (wpAny_mono h (fun r s' hr => by
          obtain ⟨b, rfl, hq⟩ := hr
          repeat (first | exact hq | exact wpAny_pure hq | exact wpAny_truthy_bool hq | (refine wpAny_bind (m := truthy (.bool _)) (wpAny_truthy_bool ?_)) | wp_step)) fun _ _ e => e)))
    | wp_step)
theorem ne_try {Q : Option Value → Shared → Prop} (hu : A.units + 1 < cLine) (X : K.In s.heap) (I : PySem.W.InstAt s.heap x ox C od) (c : EqOf K C f)
    (h : wpAny (model prog w) A.in1 (call (.ref f) [.ref x, y]) (fun v s' => ∃ b, v = .bool b ∧ Q (some (.bool (!b))) s') E s) : wpAny (model prog w) A (tryCompare (.ref x) "__ne__" y) Q E s := by
  unfold tryCompare callSpecialIfBound? bindSpecialIfBound?
  have hb : ∀ self, bindSpecial (.builtin "object.__ne__") self = pure (.builtin "object.__ne__", [self]) := PySem.F.slot_object_ne.bind
  refine wpAny_bind (wpAny_holding (wpAny_bind (wpAny_bind (wpAny_bind (I.type.here ((PySem.W.looks_findIn X c.ne).here ?_))))))
  refine wpAny_bind (wpAny_askSetting (wpAny_ite ?_))
  have lo : Looks (model prog w) s.heap (isInstance (.ref x) (.type "object")) true := I.type.andThen (looks_subIn X c.obj)
  have go : wpAny (model prog w) A (call (.builtin "object.__ne__") [.ref x, y]) (fun v s' => ∃ b, v = .bool (!b) ∧ Q (some (.bool (!b))) s') E s := by
    refine wpAny_call (codeAny_call_builtin PySem.F.slot_object_ne.plain PySem.F.cmpEntry_ne (PySem.W.check_slot PySem.F.cmpKind_ne PySem.F.cmpSplit_ne lo (PySem.F.cmpArgs_ne _ _) (objNe_own (A := A.in1) hu X I c (wpAny_mono h (fun v s' hv => ?_) fun _ _ e => e))))
    obtain ⟨b, rfl, q⟩ := hv
    exact ⟨b, rfl, b, rfl, q⟩
  have fin : wpAny (model prog w) A (call (.builtin "object.__ne__") ([.ref x] ++ [y]) >>= fun v => pure (some v)) (fun r s' => wpAny (model prog w) A (match r with | some .notImplemented | none => pure none | some v => pure (some v)) Q E s') E s := by
    refine wpAny_bind (wpAny_mono go (fun v s' hv => ?_) fun _ _ e => e)
    obtain ⟨b, rfl, q⟩ := hv
    exact wpAny_pure (wpAny_pure q)
  simp only [hb]
  split
  · exact wpAny_bind (wpAny_pure (wpAny_pure fin))
  · exact wpAny_tryCatch (wpAny_bind (wpAny_pure (wpAny_pure fin)))
end

section
variable {X : Cx} {n : Nat} {f : Addr} {fd : FuncData} {ps : List Str} {sp : Sp} {E : XK} {pins : List (Addr × Obj)} {σ : L2.St} {H : Hp} {s : Shared} {Q : VK} {us : List Value} {vs : List V}
/-- a def called from within a built-in one -/
theorem run_in1 (F : FnOk X.prog X.w X.K X.mg X.base (L2.CX X.prog X.w) n f fd ps sp) (hr : Room (n + 1) X.A) (hb : L2.Binds X.K fd ps []) (hx : Passes (L2.CX X.prog X.w) X E) (I : Inv X pins σ H s) (r : Vals vs us) (q : sp vs H Q E) :
    wpAny (model X.prog X.w) X.A.in1 (call (.ref f) us) (EP X pins σ Q) X.xe s := by
  have sb : Sub X n X.A.in1 := Sub.in1 ⟨hr, rfl⟩
  have e0 : Env0 X.prog X.w X.K X.mg X.base X.A.in1 X.stack s H := by
    have e := I.env0
    exact ⟨by rw [sb.fr]; exact e.frames, e.mod, e.bs, e.bsz, e.funs, e.frf, e.hok, e.bare⟩
  have hl := F.len _ _ _ _ q
  have hl2 : us.length = ps.length := by rw [← r.length]; exact hl
  refine wpAny_call (codeAny_mono (F.run X.A.in1 X.stack s H ⟨us, []⟩ us vs Q E sb.room e0 (by
    have := hb s us I.kIn (by simpa using hl2)
    simpa using this) r q) fun r s' hq => ?_)
  cases r with
  | error e => exact hx pins σ H s e s' I hq
  | ok fl =>
    cases fl with
    | ret w => exact I.after hq
    | next => exact False.elim hq
    | brk => exact False.elim hq
    | cont => exact False.elim hq
end
/-- the answer is True or False -/
def isB (Q : VK) : VK := fun v H' => (∃ b, v = .bl b) ∧ Q v H'
def notB (Q : VK) : VK := fun v H' => ∃ b, v = .bl b ∧ Q (.bl (!b)) H'
structure EqL (K : Frag) (f : Addr) : Prop where
  of : ∀ k, EqOf K (cA K k) f
  two : ∀ k j, k ≠ j → cA K k ≠ cA K j ∧ ∃ b, PySem.W.subIn K (.ref (cA K j)) (.ref (cA K k)) = some b
/-- a line and what stands right of it -/
def rEqL (K : Frag) (sp : Sp) (E : XK) (N : VK → VK) : R2 := fun x y H Q => ∃ a k n, x = .ref a ∧ LnAt K H a k n ∧
  ((∃ b j m, y = .ref b ∧ LnAt K H b j m ∧ sp [.ref a, .ref b] H (N Q) E ∧ sp [.ref b, .ref a] H (N Q) E) ∨
   (∃ T, TyX K H y (.type T) ∧ PySem.W.notFirst K (cA K k) (.type T) = true ∧ sp [.ref a, y] H (N Q) E))
section
variable {prog : Program} {w : World} {A : Around} {E : Value → Shared → Prop} {s : Shared} {K : Frag} {x y C D f : Addr} {ox oy : Obj} {od oe : Option Obj} {v tb : Value}
/-- x op v by x's own __eq__ or __ne__, none of v's ahead -/
theorem cmp_own {op : CmpOp} {nm : Str} {sym : String} (hi : cmpInfo op = (sym, nm, nm)) {Q : Value → Shared → Prop} (h1 : oneThing? op (.ref x) v = none) (hu : A.units < cLine) (I : PySem.W.InstAt s.heap x ox C od) (hb : Looks (model prog w) s.heap (typeOf v) tb)
    (X : K.In s.heap) (hn : tb = .ref C ∨ PySem.W.subIn K tb (.ref C) = some false)
    (h : wpAny (model prog w) A (tryCompare (.ref x) nm v) (fun r s' => ∃ b, r = some (.bool b) ∧ Q (.bool b) s') E s) : wpAny (model prog w) A (richCompare op (.ref x) v) Q E s := by
  unfold richCompare
  rw [h1, hi]
  refine wpAny_holding (wpAny_bind (wpAny_cRoomFor hu ?_))
  dsimp only
  refine wpAny_bind (I.type.here (wpAny_bind (hb.here ?_)))
  split
  · rename_i q
    have e : PySem.W.subIn K tb (.ref C) = some false := by
      rcases hn with e | e
      · rw [e] at q; simp at q
      · exact e
    refine wpAny_bind ((looks_subIn X e).here ?_)
    simp only [Bool.false_eq_true, if_false]
    refine wpAny_bind (wpAny_mono h (fun r s' z => ?_) fun _ _ e => e)
    obtain ⟨b, rfl, hq⟩ := z
    exact wpAny_pure hq
  · refine wpAny_bind (wpAny_pure ?_)
    simp only [Bool.false_eq_true, if_false]
    refine wpAny_bind (wpAny_mono h (fun r s' z => ?_) fun _ _ e => e)
    obtain ⟨b, rfl, hq⟩ := z
    exact wpAny_pure hq
/-- x op y, y's class below x's: y's own one is asked -/
theorem cmp_below {op : CmpOp} {nm : Str} {sym : String} (hi : cmpInfo op = (sym, nm, nm)) {Q : Value → Shared → Prop} (h1 : oneThing? op (.ref x) (.ref y) = none) (hu : A.units < cLine) (I : PySem.W.InstAt s.heap x ox C od) (J : PySem.W.InstAt s.heap y oy D oe)
    (X : K.In s.heap) (ne : C ≠ D) (sb : PySem.W.subIn K (.ref D) (.ref C) = some true)
    (h : wpAny (model prog w) A (tryCompare (.ref y) nm (.ref x)) (fun r s' => ∃ b, r = some (.bool b) ∧ Q (.bool b) s') E s) : wpAny (model prog w) A (richCompare op (.ref x) (.ref y)) Q E s := by
  unfold richCompare
  rw [h1, hi]
  refine wpAny_holding (wpAny_bind (wpAny_cRoomFor hu ?_))
  dsimp only
  refine wpAny_bind (I.type.here (wpAny_bind (J.type.here ?_)))
  have hne : (Value.ref C != Value.ref D) = true := by
    rw [bne_iff_ne]
    intro z
    cases z
    exact ne rfl
  rw [if_pos hne]
  refine wpAny_bind ((looks_subIn X sb).here ?_)
  simp only [if_true]
  refine wpAny_bind (wpAny_mono h (fun r s' z => ?_) fun _ _ e => e)
  obtain ⟨b, rfl, hq⟩ := z
  exact wpAny_bind (wpAny_rule (wpAny_pure hq))
end
/-- the heap behind the making of a line at x -/
abbrev mkH (K : Frag) (H : Hp) (x dx : Addr) (k : LK) (n : N3) : Hp := upd (upd (upd H dx (.own x)) x (.ins (cA K k) dx [])) x (.ins (cA K k) dx (lf n))
theorem mkH_same {K : Frag} {H : Hp} {x dx : Addr} {k : LK} {n : N3} (hx : H x = none) (hd : H dx = none) : Same H (mkH K H x dx k n) := mk_same hx hd
theorem mkH_at {K : Frag} {H : Hp} {x dx : Addr} {k : LK} {n : N3} : LnAt K (mkH K H x dx k n) x k n := ⟨dx, upd_same⟩

section
variable {X : Cx} {k0 : Nat} {f : Addr} {fd : FuncData} {ps : List Str} {sp : Sp} {E : XK}
theorem ep_isB {pins : List (Addr × Obj)} {σ : L2.St} {Q : VK} {v : Value} {s' : Shared} (h : EP X pins σ (isB Q) v s') : ∃ b, v = .bool b ∧ (∃ c, some (Value.bool b) = some (.bool c) ∧ EP X pins σ Q (.bool c) s') := by
  obtain ⟨y, H', I', r, ⟨b, rfl⟩, q⟩ := h
  obtain rfl : v = Value.bool b := r
  exact ⟨b, rfl, b, rfl, .bl b, H', I', rfl, q⟩
theorem ep_notB {pins : List (Addr × Obj)} {σ : L2.St} {Q : VK} {v : Value} {s' : Shared} (h : EP X pins σ (notB Q) v s') : ∃ b, v = .bool b ∧ (∃ c, some (Value.bool (!b)) = some (.bool c) ∧ EP X pins σ Q (.bool c) s') := by
  obtain ⟨y, H', I', r, b, rfl, q⟩ := h
  obtain rfl : v = Value.bool b := r
  exact ⟨b, rfl, !b, rfl, .bl (!b), H', I', rfl, q⟩
theorem op_cmpL {op : CmpOp} {nm : Str} {sym : String} {N : VK → VK} (hi : cmpInfo op = (sym, nm, nm)) (hc : ∀ a b, compareOp op a b = richCompare op a b) (O : EqL X.K f) (hu : X.A.units < cLine)
    (run : ∀ (pins : List (Addr × Obj)) (s : Shared) (σ : L2.St) (H : Hp) (a : Addr) (y : V) (u : Value) (C : Addr) (ox : Obj) (od : Option Obj) (Q : VK), Inv X pins σ H s → RelV y u → PySem.W.InstAt s.heap a ox C od → EqOf X.K C f → sp [.ref a, y] H (N Q) E →
      wpAny (model X.prog X.w) X.A (tryCompare (.ref a) nm u) (fun r s' => ∃ b, r = some (.bool b) ∧ EP X pins σ Q (.bool b) s') X.xe s) : OpR X (compareOp op) (rEqL X.K sp E N) := by
  intro pins s σ H x y v u Q I rx ry h
  obtain ⟨a, k, n, rfl, ⟨dx, ha⟩, h⟩ := h
  obtain rfl : v = Value.ref a := rx
  obtain ⟨mA, OA, _⟩ := ins_get I.hok ha
  obtain ⟨od, JA, _⟩ := OA.look
  rw [hc]
  have one : ∀ b, oneThing? op (.ref a) b = none := fun b => by simp only [oneThing_ref]
  rcases h with ⟨b, j, m, rfl, ⟨dy, hb'⟩, q1, q2⟩ | ⟨T, ty, nf, q⟩
  · obtain rfl : u = Value.ref b := ry
    obtain ⟨mB, OB, _⟩ := ins_get I.hok hb'
    obtain ⟨oe, JB, _⟩ := OB.look
    by_cases e : k = j
    · subst e
      exact cmp_own hi (one _) hu JA JB.type I.kIn (.inl rfl) (run pins s σ H a (.ref b) _ _ _ _ Q I rfl JA (O.of k) q1)
    · obtain ⟨ne, bb, sb⟩ := O.two k j e
      cases bb with
      | false => exact cmp_own hi (one _) hu JA JB.type I.kIn (.inr sb) (run pins s σ H a (.ref b) _ _ _ _ Q I rfl JA (O.of k) q1)
      | true => exact cmp_below hi (one _) hu JA JB I.kIn ne sb (run pins s σ H b (.ref a) _ _ _ _ Q I rfl JB (O.of j) q2)
  · obtain ⟨P, Zk, p, hx⟩ := L2.kit_of I ry ty
    have lk := Zk.ty (model X.prog X.w) s.heap I.kIn p
    refine cmp_own hi (one _) hu JA lk I.kIn ?_ (run pins s σ H a _ _ _ _ _ Q I ry JA (O.of k) q)
    rcases Bool.or_eq_true_iff.mp nf with e | e
    · exact .inl (beq_iff_eq.mp e)
    · exact .inr (beq_iff_eq.mp e)
theorem op_eqL (O : EqL X.K f) (F : FnOk X.prog X.w X.K X.mg X.base (L2.CX X.prog X.w) k0 f fd ps sp) (hr : Room (k0 + 1) X.A) (hb : L2.Binds X.K fd ps []) (hx : Passes (L2.CX X.prog X.w) X E) : OpR X (compareOp .Eq) (rEqL X.K sp E isB) := by
  refine op_cmpL (nm := "__eq__") (sym := "==") rfl (fun _ _ => rfl) O (Nat.lt_of_succ_lt (hu_of hr)) fun pins s σ H a y u C ox od Q I ry J c q => ?_
  refine eq_try I.kIn J c ?_
  have w := run_fn (us := [.ref a, u]) (vs := [.ref a, y]) F (hr.mono (Nat.le_succ _)) hb .nil hx I (.cons rfl (.cons ry .nil)) (by rw [List.append_nil]; exact q)
  exact wpAny_mono w (fun _ _ z => ep_isB z) fun _ _ z => z
theorem op_neL (O : EqL X.K f) (F : FnOk X.prog X.w X.K X.mg X.base (L2.CX X.prog X.w) k0 f fd ps sp) (hr : Room (k0 + 1) X.A) (hb : L2.Binds X.K fd ps []) (hx : Passes (L2.CX X.prog X.w) X E) : OpR X (compareOp .NotEq) (rEqL X.K sp E notB) := by
  refine op_cmpL (nm := "__ne__") (sym := "!=") rfl (fun _ _ => rfl) O (Nat.lt_of_succ_lt (hu_of hr)) fun pins s σ H a y u C ox od Q I ry J c q => ?_
  refine ne_try (hu_of hr) I.kIn J c ?_
  have w := run_in1 (us := [.ref a, u]) (vs := [.ref a, y]) F hr hb hx I (.cons rfl (.cons ry .nil)) q
  exact wpAny_mono w (fun _ _ z => ep_notB z) fun _ _ z => z
end
/-! ### the checks of the top -/
def cEqOf (x : Str) (f : Frag → Addr) : Ck := fun K => eqO (PySem.W.findIn K (.ref (ga K x)) "__eq__") (some (some (.ref (f K)))) && (PySem.W.isFn K (.ref (f K)) && (eqO (PySem.W.findIn K (.ref (ga K x)) "__ne__") (some (some (.builtin "object.__ne__"))) && decide (PySem.W.subIn K (.ref (ga K x)) (.type "object") = some true)))
theorem eqOf_of {K : Frag} {x : Str} {f : Frag → Addr} (c : cEqOf x f K = true) : EqOf K (ga K x) (f K) := by
  obtain ⟨c1, c⟩ := Bool.and_eq_true_iff.mp c
  obtain ⟨c2, c⟩ := Bool.and_eq_true_iff.mp c
  obtain ⟨c3, c4⟩ := Bool.and_eq_true_iff.mp c
  exact ⟨eqO_ok c1, c2, eqO_ok c3, of_decide_eq_true c4⟩
def cNf (x : Str) (T : String) : Ck := fun K => PySem.W.notFirst K (ga K x) (.type T)
end Fw

namespace Fw
/-- what two ways share: the goal after them, found by the first that comes to it (apply share) -/
theorem share {P G : Prop} (f : P → G) (p : P) : G := f p
/-- the same, where the ways bring their own value and heap; the first way must bring variables -/
theorem share2 {α β : Type} {P : α → β → Prop} {G : Prop} (R : α → β → Prop) (f : (∀ a b, R a b → P a b) → G) (p : ∀ a b, R a b → P a b) : G := f p
open PySem PySem.Spec PyProof.Rows L2
open He (ga)
/-- isinstance against a class of the program -/
def cKit (x y : Str) (b : Bool) : Ck := fun K => decide (PySem.W.kitOne K (.ref (ga K x)) (.ref (ga K y)) = some b)
theorem kit_of {K : Frag} {x y : Str} {b : Bool} (c : cKit x y b K = true) : PySem.W.kitOne K (.ref (ga K x)) (.ref (ga K y)) = some b := of_decide_eq_true c
/-- type(an instance) is asked for as for any object -/
def cTyp (x : Str) : Ck := fun K => He.eqO (PySem.W.findIn K (.ref (ga K x)) "__class__") (some (some (.builtin "object.__class__"))) && (He.eqO (PySem.W.specialIn K (.builtin "object.__class__") "__get__") (some (some (.builtin "getset_descriptor.__get__"))) &&
  (decide (PySem.W.takesIn K (.builtin "object.__class__") = some true) && decide (PySem.W.mroIn K (ga K x) (.type "object") = some true)))
structure Typ (K : Frag) (C : Addr) : Prop where
  ha : PySem.W.findIn K (.ref C) "__class__" = some (some (.builtin "object.__class__"))
  hn : PySem.W.specialIn K (.builtin "object.__class__") "__get__" = some (some (.builtin "getset_descriptor.__get__"))
  tk : PySem.W.takesIn K (.builtin "object.__class__") = some true
  hm : PySem.W.mroIn K C (.type "object") = some true
theorem typ_of {K : Frag} {x : Str} (c : cTyp x K = true) : Typ K (ga K x) := by
  obtain ⟨c1, c⟩ := Bool.and_eq_true_iff.mp c
  obtain ⟨c2, c⟩ := Bool.and_eq_true_iff.mp c
  obtain ⟨c3, c4⟩ := Bool.and_eq_true_iff.mp c
  exact ⟨He.eqO_ok c1, He.eqO_ok c2, of_decide_eq_true c3, of_decide_eq_true c4⟩
theorem Typ.line {K : Frag} {H : Hp} {a : Addr} {k : LK} {n : N3} (t : Typ K (cA K k)) (L : LnF K) (h : LnAt K H a k n) : TyX K H (.ref a) (.ref (cA K k)) := by
  obtain ⟨dx, e⟩ := h
  exact .base (.ins e (L.cls k) t.ha t.hn t.tk t.hm)
theorem kn_inj {j k : LK} (h : kn j = kn k) : j = k := by
  cases j <;> cases k <;> first | rfl | exact absurd h (by decide +kernel)
theorem kn_walk {k : LK} (h : V.str (kn k) = V.str ("walk" : Str)) : k = .walk := kn_inj (V.str.inj h)
theorem kn_stop {k : LK} (h : V.str (kn k) = V.str ("stop" : Str)) : k = .stop := kn_inj (V.str.inj h)
end Fw

namespace My
open PySem PySem.Spec PyProof.Rows L2 Fw
open He (ga ma)
abbrev PP : Program := PySem.Challenge.pw_onwardlines_k07_lines_backward
def top (i : Nat) : Stmt := PySem.Challenge.pw_onwardlines_k07_lines_backward.main.body.getD i (.Pass ⟨0, 0, 0, 0⟩)
abbrev s_is_integer : Stmt := top 8
abbrev s_are_numbers : Stmt := top 9
abbrev s_Line_init : Stmt := inClass (top 13) 1
abbrev s_Walk_init : Stmt := inClass (top 14) 1
abbrev s_Stop_init : Stmt := inClass (top 15) 1
abbrev s_Line_every : Stmt := inClass (top 13) 2
abbrev s_Line_at : Stmt := inClass (top 13) 3
abbrev s_Line_ride : Stmt := inClass (top 13) 4
abbrev s_Line_departure : Stmt := inClass (top 13) 6
abbrev s_Line_call : Stmt := inClass (top 13) 5
abbrev s_Line_latest : Stmt := inClass (top 13) 7
abbrev s__law_feed : Stmt := top 17
abbrev s__law_pick : Stmt := top 18
abbrev s__law_chain : Stmt := top 19
abbrev s__law_numbers : Stmt := top 20
abbrev s__law_made : Stmt := top 21
abbrev s__law_moment : Stmt := top 22
abbrev s_fit : Stmt := top 10
abbrev s_taken_after : Stmt := top 11
abbrev s_Line_add : Stmt := inClass (top 13) 9
abbrev s_Line_mul : Stmt := inClass (top 13) 10
abbrev s_greatest_lead : Stmt := top 12
abbrev s_Line_never_later : Stmt := inClass (top 13) 11
abbrev s_Line_eq : Stmt := inClass (top 13) 12
abbrev s_Line_backward : Stmt := inClass (top 13) 13
abbrev s__law_triple : Stmt := top 23
abbrev s__law_right : Stmt := top 24
abbrev s_law : Stmt := top 25
theorem sc_is_integer : FnScope ["thing"] ["thing"] (defScope s_is_integer) := ⟨rfl, rfl, rfl, by decide +kernel, rfl, by decide +kernel, by decide +kernel⟩
theorem sc_are_numbers : FnScope ["every", "at", "ride"] ["every", "at", "ride"] (defScope s_are_numbers) := ⟨rfl, rfl, rfl, by decide +kernel, rfl, by decide +kernel, by decide +kernel⟩
theorem sc_Line_init : FnScope ["self", "every", "at", "ride"] ["self", "every", "at", "ride"] (defScope s_Line_init) := ⟨rfl, rfl, rfl, by decide +kernel, rfl, by decide +kernel, by decide +kernel⟩
theorem sc_Walk_init : SupScope ["self", "ride"] ["self", "ride"] (defScope s_Walk_init) := ⟨rfl, rfl, rfl, by decide +kernel, rfl, by decide +kernel, by decide +kernel, by decide +kernel, rfl, rfl⟩
theorem sc_Stop_init : SupScope ["self", "every", "at"] ["self", "every", "at"] (defScope s_Stop_init) := ⟨rfl, rfl, rfl, by decide +kernel, rfl, by decide +kernel, by decide +kernel, by decide +kernel, rfl, rfl⟩
theorem sc_Line_every : FnScope ["self"] ["self"] (defScope s_Line_every) := ⟨rfl, rfl, rfl, by decide +kernel, rfl, by decide +kernel, by decide +kernel⟩
theorem sc_Line_at : FnScope ["self"] ["self"] (defScope s_Line_at) := ⟨rfl, rfl, rfl, by decide +kernel, rfl, by decide +kernel, by decide +kernel⟩
theorem sc_Line_ride : FnScope ["self"] ["self"] (defScope s_Line_ride) := ⟨rfl, rfl, rfl, by decide +kernel, rfl, by decide +kernel, by decide +kernel⟩
theorem sc_Line_departure : FnScope ["self", "time"] ["self", "time"] (defScope s_Line_departure) := ⟨rfl, rfl, rfl, by decide +kernel, rfl, by decide +kernel, by decide +kernel⟩
theorem sc_Line_call : FnScope ["self", "time"] ["self", "time"] (defScope s_Line_call) := ⟨rfl, rfl, rfl, by decide +kernel, rfl, by decide +kernel, by decide +kernel⟩
theorem sc_Line_latest : FnScope ["self", "time", "last"] ["self", "time"] (defScope s_Line_latest) := ⟨rfl, rfl, rfl, by decide +kernel, rfl, by decide +kernel, by decide +kernel⟩
theorem sc__law_feed : FnScope ["script", "k", "start"] ["script", "k"] (defScope s__law_feed) := ⟨rfl, rfl, rfl, by decide +kernel, rfl, by decide +kernel, by decide +kernel⟩
theorem sc__law_pick : FnScope ["feed", "many", "digit", "found", "turn", "mixed"] ["feed", "many"] (defScope s__law_pick) := ⟨rfl, rfl, rfl, by decide +kernel, rfl, by decide +kernel, by decide +kernel⟩
theorem sc__law_chain : FnScope ["feed", "great", "found", "turn", "more"] ["feed", "great"] (defScope s__law_chain) := ⟨rfl, rfl, rfl, by decide +kernel, rfl, by decide +kernel, by decide +kernel⟩
theorem sc__law_numbers : FnScope ["feed", "chain", "great", "kind", "wide", "begin", "some"] ["feed", "chain", "great"] (defScope s__law_numbers) := ⟨rfl, rfl, rfl, by decide +kernel, rfl, by decide +kernel, by decide +kernel⟩
theorem sc__law_made : FnScope ["numbers", "kind", "wide", "begin", "long"] ["numbers"] (defScope s__law_made) := ⟨rfl, rfl, rfl, by decide +kernel, rfl, by decide +kernel, by decide +kernel⟩
theorem sc__law_moment : FnScope ["feed", "great"] ["feed", "great"] (defScope s__law_moment) := ⟨rfl, rfl, rfl, by decide +kernel, rfl, by decide +kernel, by decide +kernel⟩
theorem sc_fit : FnScope ["every", "other_every"] ["every", "other_every"] (defScope s_fit) := ⟨rfl, rfl, rfl, by decide +kernel, rfl, by decide +kernel, by decide +kernel⟩
theorem sc_taken_after : FnScope ["first", "second", "every", "at", "ride", "other_every", "other_at", "other_ride", "lesser", "ahead"] ["first", "second"] (defScope s_taken_after) := ⟨rfl, rfl, rfl, by decide +kernel, rfl, by decide +kernel, by decide +kernel⟩
theorem sc_Line_add : FnScope ["self", "other", "mine", "every", "at", "ride"] ["self", "other"] (defScope s_Line_add) := ⟨rfl, rfl, rfl, by decide +kernel, rfl, by decide +kernel, by decide +kernel⟩
theorem sc_Line_mul : FnScope ["self", "number", "whole"] ["self", "number"] (defScope s_Line_mul) := ⟨rfl, rfl, rfl, by decide +kernel, rfl, by decide +kernel, by decide +kernel⟩
theorem sc_greatest_lead : FnScope ["first", "second", "every", "at", "ride", "other_every", "other_at", "other_ride", "shift", "steps"] ["first", "second"] (defScope s_greatest_lead) := ⟨rfl, rfl, rfl, by decide +kernel, rfl, by decide +kernel, by decide +kernel⟩
theorem sc_Line_never_later : FnScope ["self", "other", "mine"] ["self", "other"] (defScope s_Line_never_later) := ⟨rfl, rfl, rfl, by decide +kernel, rfl, by decide +kernel, by decide +kernel⟩
theorem sc_Line_eq : FnScope ["self", "other", "mine"] ["self", "other"] (defScope s_Line_eq) := ⟨rfl, rfl, rfl, by decide +kernel, rfl, by decide +kernel, by decide +kernel⟩
theorem sc_Line_backward : FnScope ["self"] ["self"] (defScope s_Line_backward) := ⟨rfl, rfl, rfl, by decide +kernel, rfl, by decide +kernel, by decide +kernel⟩
theorem sc__law_triple : FnScope ["line_here"] ["line_here"] (defScope s__law_triple) := ⟨rfl, rfl, rfl, by decide +kernel, rfl, by decide +kernel, by decide +kernel⟩
theorem sc__law_right : FnScope ["feed", "first_one", "second_one", "great", "one", "two", "back", "turn", "moment"] ["feed", "first_one", "second_one", "great"] (defScope s__law_right) := ⟨rfl, rfl, rfl, by decide +kernel, rfl, by decide +kernel, by decide +kernel⟩
theorem sc_law : FnScope ["script", "k", "feed", "great", "chain", "told", "one"] ["script"] (defScope s_law) := ⟨rfl, rfl, rfl, by decide +kernel, rfl, by decide +kernel, by decide +kernel⟩
def cks : List Ck := ([cFree "abs", cFree "bool", cFree "int", cFree "isinstance", cFree "len", cFree "max", cFree "min", cFree "range", cInt "MOST_ROUNDS" (10 ^ 30), cGlo "is_integer", cGlo "are_numbers", cGlo "_law_feed", cGlo "_law_pick", cGlo "_law_chain", cGlo "_law_numbers", cGlo "_law_made", cGlo "_law_moment", cGlo "fit", cGlo "taken_after", cGlo "greatest_lead", cGlo "_law_triple", cGlo "_law_right", cGlo "law", cGlo "Line", cCls "Line", cMkr "Line", cGlo "Walk", cCls "Walk", cMkr "Walk", cGlo "Stop"] : List Ck) ++ ([cCls "Stop", cMkr "Stop", cNoat "Line" "held_every", cNoat "Walk" "held_every", cNoat "Stop" "held_every", cNoat "Line" "held_at", cNoat "Walk" "held_at", cNoat "Stop" "held_at", cNoat "Line" "held_ride", cNoat "Walk" "held_ride", cNoat "Stop" "held_ride", cCon "Line" "KIND" "line", cCon "Walk" "KIND" "walk", cCon "Stop" "KIND" "stop", cProp "Line" "at", cProp "Walk" "at", cSameP "Walk" "Line" "at", cProp "Stop" "at", cSameP "Stop" "Line" "at", cProp "Line" "every", cProp "Walk" "every", cSameP "Walk" "Line" "every", cProp "Stop" "every", cSameP "Stop" "Line" "every", cProp "Line" "ride", cProp "Walk" "ride", cSameP "Walk" "Line" "ride", cProp "Stop" "ride", cSameP "Stop" "Line" "ride", cMeth "Line" "backward"] : List Ck) ++ ([cMeth "Walk" "backward", cSameM "Walk" "Line" "backward", cMeth "Stop" "backward", cSameM "Stop" "Line" "backward", cMeth "Line" "departure", cMeth "Walk" "departure", cSameM "Walk" "Line" "departure", cMeth "Stop" "departure", cSameM "Stop" "Line" "departure", cMeth "Line" "latest", cMeth "Walk" "latest", cSameM "Walk" "Line" "latest", cMeth "Stop" "latest", cSameM "Stop" "Line" "latest", cMeth "Line" "never_later", cMeth "Walk" "never_later", cSameM "Walk" "Line" "never_later", cMeth "Stop" "never_later", cSameM "Stop" "Line" "never_later", cCall "Line", cCall "Walk", cSameM "Walk" "Line" "__call__", cCall "Stop", cSameM "Stop" "Line" "__call__", cTwo "Line" "Walk" true, cLacks "Walk" "__radd__", cTwo "Line" "Stop" true, cLacks "Stop" "__radd__", cTwo "Walk" "Line" false, cTwo "Walk" "Stop" false] : List Ck) ++ ([cTwo "Stop" "Line" false, cTwo "Stop" "Walk" false, cOpOf "Line" "add" (fun K => ma K (ga K "Line") "__add__"), cOpOf "Walk" "add" (fun K => ma K (ga K "Line") "__add__"), cOpOf "Stop" "add" (fun K => ma K (ga K "Line") "__add__"), cLacks "Walk" "__rmul__", cLacks "Stop" "__rmul__", cOpOf "Line" "mul" (fun K => ma K (ga K "Line") "__mul__"), cOpOf "Walk" "mul" (fun K => ma K (ga K "Line") "__mul__"), cOpOf "Stop" "mul" (fun K => ma K (ga K "Line") "__mul__"), cEqOf "Line" (fun K => ma K (ga K "Line") "__eq__"), cEqOf "Walk" (fun K => ma K (ga K "Line") "__eq__"), cEqOf "Stop" (fun K => ma K (ga K "Line") "__eq__"), cIntOp "Line" "mul", cIntOp "Walk" "mul", cIntOp "Stop" "mul", cTyp "Line", cTyp "Walk", cTyp "Stop", cKit "Line" "Line" true, cKit "Walk" "Line" true, cKit "Stop" "Line" true, cSup "Walk" "Line" "/claim/cut.py", cSup "Stop" "Line" "/claim/cut.py"] : List Ck)
def fns : List DefM := ([⟨fun K => ga K "is_integer", "is_integer", "is_integer", s_is_integer, []⟩, ⟨fun K => ga K "are_numbers", "are_numbers", "are_numbers", s_are_numbers, []⟩, ⟨fun K => ma K (ga K "Line") "__init__", "__init__", "Line.__init__", s_Line_init, []⟩, ⟨fun K => ma K (ga K "Walk") "__init__", "__init__", "Walk.__init__", s_Walk_init, ["__class__"]⟩, ⟨fun K => ma K (ga K "Stop") "__init__", "__init__", "Stop.__init__", s_Stop_init, ["__class__"]⟩, ⟨fun K => prA K (ga K "Line") "every", "every", "Line.every", s_Line_every, []⟩, ⟨fun K => prA K (ga K "Line") "at", "at", "Line.at", s_Line_at, []⟩, ⟨fun K => prA K (ga K "Line") "ride", "ride", "Line.ride", s_Line_ride, []⟩, ⟨fun K => ma K (ga K "Line") "departure", "departure", "Line.departure", s_Line_departure, []⟩, ⟨fun K => ma K (ga K "Line") "__call__", "__call__", "Line.__call__", s_Line_call, []⟩, ⟨fun K => ma K (ga K "Line") "latest", "latest", "Line.latest", s_Line_latest, []⟩, ⟨fun K => ga K "_law_feed", "_law_feed", "_law_feed", s__law_feed, []⟩, ⟨fun K => ga K "_law_pick", "_law_pick", "_law_pick", s__law_pick, []⟩, ⟨fun K => ga K "_law_chain", "_law_chain", "_law_chain", s__law_chain, []⟩, ⟨fun K => ga K "_law_numbers", "_law_numbers", "_law_numbers", s__law_numbers, []⟩] : List DefM) ++ ([⟨fun K => ga K "_law_made", "_law_made", "_law_made", s__law_made, []⟩, ⟨fun K => ga K "_law_moment", "_law_moment", "_law_moment", s__law_moment, []⟩, ⟨fun K => ga K "fit", "fit", "fit", s_fit, []⟩, ⟨fun K => ga K "taken_after", "taken_after", "taken_after", s_taken_after, []⟩, ⟨fun K => ma K (ga K "Line") "__add__", "__add__", "Line.__add__", s_Line_add, []⟩, ⟨fun K => ma K (ga K "Line") "__mul__", "__mul__", "Line.__mul__", s_Line_mul, []⟩, ⟨fun K => ga K "greatest_lead", "greatest_lead", "greatest_lead", s_greatest_lead, []⟩, ⟨fun K => ma K (ga K "Line") "never_later", "never_later", "Line.never_later", s_Line_never_later, []⟩, ⟨fun K => ma K (ga K "Line") "__eq__", "__eq__", "Line.__eq__", s_Line_eq, []⟩, ⟨fun K => ma K (ga K "Line") "backward", "backward", "Line.backward", s_Line_backward, []⟩, ⟨fun K => ga K "_law_triple", "_law_triple", "_law_triple", s__law_triple, []⟩, ⟨fun K => ga K "_law_right", "_law_right", "_law_right", s__law_right, []⟩, ⟨fun K => ga K "law", "law", "law", s_law, []⟩] : List DefM)
section
variable {K : Frag} {mg : Str → Option Value}
theorem n_abs (Z : Zs cks fns K mg) : mg "abs" = none := Z.free (Z.c 0)
theorem n_bool (Z : Zs cks fns K mg) : mg "bool" = none := Z.free (Z.c 1)
theorem n_int (Z : Zs cks fns K mg) : mg "int" = none := Z.free (Z.c 2)
theorem n_isinstance (Z : Zs cks fns K mg) : mg "isinstance" = none := Z.free (Z.c 3)
theorem n_len (Z : Zs cks fns K mg) : mg "len" = none := Z.free (Z.c 4)
theorem n_max (Z : Zs cks fns K mg) : mg "max" = none := Z.free (Z.c 5)
theorem n_min (Z : Zs cks fns K mg) : mg "min" = none := Z.free (Z.c 6)
theorem n_range (Z : Zs cks fns K mg) : mg "range" = none := Z.free (Z.c 7)
theorem i_MOST_ROUNDS (Z : Zs cks fns K mg) : ∃ u, mg "MOST_ROUNDS" = some u ∧ RelV (.int (10 ^ 30)) u := Z.int (Z.c 8)
theorem g_is_integer (Z : Zs cks fns K mg) : mg "is_integer" = some (.ref (ga K "is_integer")) := Z.glo (Z.c 9)
theorem u_is_integer (Z : Zs cks fns K mg) : Fun K "is_integer" "is_integer" s_is_integer (ga K "is_integer") (fdAt K (ga K "is_integer")) := Z.f 0
theorem b_is_integer (Z : Zs cks fns K mg) : L2.Binds K (fdAt K (ga K "is_integer")) ["thing"] [] := (u_is_integer Z).binds (ps := ["thing"]) fun _ _ _ _ _ _ us hl => match us, hl with | [_], _ => rfl
theorem g_are_numbers (Z : Zs cks fns K mg) : mg "are_numbers" = some (.ref (ga K "are_numbers")) := Z.glo (Z.c 10)
theorem u_are_numbers (Z : Zs cks fns K mg) : Fun K "are_numbers" "are_numbers" s_are_numbers (ga K "are_numbers") (fdAt K (ga K "are_numbers")) := Z.f 1
theorem b_are_numbers (Z : Zs cks fns K mg) : L2.Binds K (fdAt K (ga K "are_numbers")) ["every", "at", "ride"] [] := (u_are_numbers Z).binds (ps := ["every", "at", "ride"]) fun _ _ _ _ _ _ us hl => match us, hl with | [_, _, _], _ => rfl
theorem u_Line_init (Z : Zs cks fns K mg) : Fun K "__init__" "Line.__init__" s_Line_init (ma K (ga K "Line") "__init__") (fdAt K (ma K (ga K "Line") "__init__")) := Z.f 2
theorem b_Line_init (Z : Zs cks fns K mg) : L2.Binds K (fdAt K (ma K (ga K "Line") "__init__")) ["self", "every", "at", "ride"] [] := (u_Line_init Z).binds (ps := ["self", "every", "at", "ride"]) fun _ _ _ _ _ _ us hl => match us, hl with | [_, _, _, _], _ => rfl
theorem u_Walk_init (Z : Zs cks fns K mg) : FunC K "__init__" "Walk.__init__" "__class__" s_Walk_init (ma K (ga K "Walk") "__init__") := Z.fc 3
theorem b_Walk_init (Z : Zs cks fns K mg) : L2.Binds K (fdAt K (ma K (ga K "Walk") "__init__")) ["self", "ride"] [] := FunC.binds (ps := ["self", "ride"]) (u_Walk_init Z) fun _ _ _ _ _ _ _ us hl => match us, hl with | [_, _], _ => rfl
theorem u_Stop_init (Z : Zs cks fns K mg) : FunC K "__init__" "Stop.__init__" "__class__" s_Stop_init (ma K (ga K "Stop") "__init__") := Z.fc 4
theorem b_Stop_init (Z : Zs cks fns K mg) : L2.Binds K (fdAt K (ma K (ga K "Stop") "__init__")) ["self", "every", "at"] [] := FunC.binds (ps := ["self", "every", "at"]) (u_Stop_init Z) fun _ _ _ _ _ _ _ us hl => match us, hl with | [_, _, _], _ => rfl
theorem u_Line_every (Z : Zs cks fns K mg) : Fun K "every" "Line.every" s_Line_every (prA K (ga K "Line") "every") (fdAt K (prA K (ga K "Line") "every")) := Z.f 5
theorem b_Line_every (Z : Zs cks fns K mg) : L2.Binds K (fdAt K (prA K (ga K "Line") "every")) ["self"] [] := (u_Line_every Z).binds (ps := ["self"]) fun _ _ _ _ _ _ us hl => match us, hl with | [_], _ => rfl
theorem u_Line_at (Z : Zs cks fns K mg) : Fun K "at" "Line.at" s_Line_at (prA K (ga K "Line") "at") (fdAt K (prA K (ga K "Line") "at")) := Z.f 6
theorem b_Line_at (Z : Zs cks fns K mg) : L2.Binds K (fdAt K (prA K (ga K "Line") "at")) ["self"] [] := (u_Line_at Z).binds (ps := ["self"]) fun _ _ _ _ _ _ us hl => match us, hl with | [_], _ => rfl
theorem u_Line_ride (Z : Zs cks fns K mg) : Fun K "ride" "Line.ride" s_Line_ride (prA K (ga K "Line") "ride") (fdAt K (prA K (ga K "Line") "ride")) := Z.f 7
theorem b_Line_ride (Z : Zs cks fns K mg) : L2.Binds K (fdAt K (prA K (ga K "Line") "ride")) ["self"] [] := (u_Line_ride Z).binds (ps := ["self"]) fun _ _ _ _ _ _ us hl => match us, hl with | [_], _ => rfl
theorem u_Line_departure (Z : Zs cks fns K mg) : Fun K "departure" "Line.departure" s_Line_departure (ma K (ga K "Line") "departure") (fdAt K (ma K (ga K "Line") "departure")) := Z.f 8
theorem b_Line_departure (Z : Zs cks fns K mg) : L2.Binds K (fdAt K (ma K (ga K "Line") "departure")) ["self", "time"] [] := (u_Line_departure Z).binds (ps := ["self", "time"]) fun _ _ _ _ _ _ us hl => match us, hl with | [_, _], _ => rfl
theorem u_Line_call (Z : Zs cks fns K mg) : Fun K "__call__" "Line.__call__" s_Line_call (ma K (ga K "Line") "__call__") (fdAt K (ma K (ga K "Line") "__call__")) := Z.f 9
theorem b_Line_call (Z : Zs cks fns K mg) : L2.Binds K (fdAt K (ma K (ga K "Line") "__call__")) ["self", "time"] [] := (u_Line_call Z).binds (ps := ["self", "time"]) fun _ _ _ _ _ _ us hl => match us, hl with | [_, _], _ => rfl
theorem u_Line_latest (Z : Zs cks fns K mg) : Fun K "latest" "Line.latest" s_Line_latest (ma K (ga K "Line") "latest") (fdAt K (ma K (ga K "Line") "latest")) := Z.f 10
theorem b_Line_latest (Z : Zs cks fns K mg) : L2.Binds K (fdAt K (ma K (ga K "Line") "latest")) ["self", "time"] [] := (u_Line_latest Z).binds (ps := ["self", "time"]) fun _ _ _ _ _ _ us hl => match us, hl with | [_, _], _ => rfl
theorem g__law_feed (Z : Zs cks fns K mg) : mg "_law_feed" = some (.ref (ga K "_law_feed")) := Z.glo (Z.c 11)
theorem u__law_feed (Z : Zs cks fns K mg) : Fun K "_law_feed" "_law_feed" s__law_feed (ga K "_law_feed") (fdAt K (ga K "_law_feed")) := Z.f 11
theorem b__law_feed (Z : Zs cks fns K mg) : L2.Binds K (fdAt K (ga K "_law_feed")) ["script", "k"] [] := (u__law_feed Z).binds (ps := ["script", "k"]) fun _ _ _ _ _ _ us hl => match us, hl with | [_, _], _ => rfl
theorem g__law_pick (Z : Zs cks fns K mg) : mg "_law_pick" = some (.ref (ga K "_law_pick")) := Z.glo (Z.c 12)
theorem u__law_pick (Z : Zs cks fns K mg) : Fun K "_law_pick" "_law_pick" s__law_pick (ga K "_law_pick") (fdAt K (ga K "_law_pick")) := Z.f 12
theorem b__law_pick (Z : Zs cks fns K mg) : L2.Binds K (fdAt K (ga K "_law_pick")) ["feed", "many"] [] := (u__law_pick Z).binds (ps := ["feed", "many"]) fun _ _ _ _ _ _ us hl => match us, hl with | [_, _], _ => rfl
theorem g__law_chain (Z : Zs cks fns K mg) : mg "_law_chain" = some (.ref (ga K "_law_chain")) := Z.glo (Z.c 13)
theorem u__law_chain (Z : Zs cks fns K mg) : Fun K "_law_chain" "_law_chain" s__law_chain (ga K "_law_chain") (fdAt K (ga K "_law_chain")) := Z.f 13
theorem b__law_chain (Z : Zs cks fns K mg) : L2.Binds K (fdAt K (ga K "_law_chain")) ["feed", "great"] [] := (u__law_chain Z).binds (ps := ["feed", "great"]) fun _ _ _ _ _ _ us hl => match us, hl with | [_, _], _ => rfl
theorem g__law_numbers (Z : Zs cks fns K mg) : mg "_law_numbers" = some (.ref (ga K "_law_numbers")) := Z.glo (Z.c 14)
theorem u__law_numbers (Z : Zs cks fns K mg) : Fun K "_law_numbers" "_law_numbers" s__law_numbers (ga K "_law_numbers") (fdAt K (ga K "_law_numbers")) := Z.f 14
theorem b__law_numbers (Z : Zs cks fns K mg) : L2.Binds K (fdAt K (ga K "_law_numbers")) ["feed", "chain", "great"] [] := (u__law_numbers Z).binds (ps := ["feed", "chain", "great"]) fun _ _ _ _ _ _ us hl => match us, hl with | [_, _, _], _ => rfl
theorem g__law_made (Z : Zs cks fns K mg) : mg "_law_made" = some (.ref (ga K "_law_made")) := Z.glo (Z.c 15)
theorem u__law_made (Z : Zs cks fns K mg) : Fun K "_law_made" "_law_made" s__law_made (ga K "_law_made") (fdAt K (ga K "_law_made")) := Z.f 15
theorem b__law_made (Z : Zs cks fns K mg) : L2.Binds K (fdAt K (ga K "_law_made")) ["numbers"] [] := (u__law_made Z).binds (ps := ["numbers"]) fun _ _ _ _ _ _ us hl => match us, hl with | [_], _ => rfl
theorem g__law_moment (Z : Zs cks fns K mg) : mg "_law_moment" = some (.ref (ga K "_law_moment")) := Z.glo (Z.c 16)
theorem u__law_moment (Z : Zs cks fns K mg) : Fun K "_law_moment" "_law_moment" s__law_moment (ga K "_law_moment") (fdAt K (ga K "_law_moment")) := Z.f 16
theorem b__law_moment (Z : Zs cks fns K mg) : L2.Binds K (fdAt K (ga K "_law_moment")) ["feed", "great"] [] := (u__law_moment Z).binds (ps := ["feed", "great"]) fun _ _ _ _ _ _ us hl => match us, hl with | [_, _], _ => rfl
theorem g_fit (Z : Zs cks fns K mg) : mg "fit" = some (.ref (ga K "fit")) := Z.glo (Z.c 17)
theorem u_fit (Z : Zs cks fns K mg) : Fun K "fit" "fit" s_fit (ga K "fit") (fdAt K (ga K "fit")) := Z.f 17
theorem b_fit (Z : Zs cks fns K mg) : L2.Binds K (fdAt K (ga K "fit")) ["every", "other_every"] [] := (u_fit Z).binds (ps := ["every", "other_every"]) fun _ _ _ _ _ _ us hl => match us, hl with | [_, _], _ => rfl
theorem g_taken_after (Z : Zs cks fns K mg) : mg "taken_after" = some (.ref (ga K "taken_after")) := Z.glo (Z.c 18)
theorem u_taken_after (Z : Zs cks fns K mg) : Fun K "taken_after" "taken_after" s_taken_after (ga K "taken_after") (fdAt K (ga K "taken_after")) := Z.f 18
theorem b_taken_after (Z : Zs cks fns K mg) : L2.Binds K (fdAt K (ga K "taken_after")) ["first", "second"] [] := (u_taken_after Z).binds (ps := ["first", "second"]) fun _ _ _ _ _ _ us hl => match us, hl with | [_, _], _ => rfl
theorem u_Line_add (Z : Zs cks fns K mg) : Fun K "__add__" "Line.__add__" s_Line_add (ma K (ga K "Line") "__add__") (fdAt K (ma K (ga K "Line") "__add__")) := Z.f 19
theorem b_Line_add (Z : Zs cks fns K mg) : L2.Binds K (fdAt K (ma K (ga K "Line") "__add__")) ["self", "other"] [] := (u_Line_add Z).binds (ps := ["self", "other"]) fun _ _ _ _ _ _ us hl => match us, hl with | [_, _], _ => rfl
theorem u_Line_mul (Z : Zs cks fns K mg) : Fun K "__mul__" "Line.__mul__" s_Line_mul (ma K (ga K "Line") "__mul__") (fdAt K (ma K (ga K "Line") "__mul__")) := Z.f 20
theorem b_Line_mul (Z : Zs cks fns K mg) : L2.Binds K (fdAt K (ma K (ga K "Line") "__mul__")) ["self", "number"] [] := (u_Line_mul Z).binds (ps := ["self", "number"]) fun _ _ _ _ _ _ us hl => match us, hl with | [_, _], _ => rfl
theorem g_greatest_lead (Z : Zs cks fns K mg) : mg "greatest_lead" = some (.ref (ga K "greatest_lead")) := Z.glo (Z.c 19)
theorem u_greatest_lead (Z : Zs cks fns K mg) : Fun K "greatest_lead" "greatest_lead" s_greatest_lead (ga K "greatest_lead") (fdAt K (ga K "greatest_lead")) := Z.f 21
theorem b_greatest_lead (Z : Zs cks fns K mg) : L2.Binds K (fdAt K (ga K "greatest_lead")) ["first", "second"] [] := (u_greatest_lead Z).binds (ps := ["first", "second"]) fun _ _ _ _ _ _ us hl => match us, hl with | [_, _], _ => rfl
theorem u_Line_never_later (Z : Zs cks fns K mg) : Fun K "never_later" "Line.never_later" s_Line_never_later (ma K (ga K "Line") "never_later") (fdAt K (ma K (ga K "Line") "never_later")) := Z.f 22
theorem b_Line_never_later (Z : Zs cks fns K mg) : L2.Binds K (fdAt K (ma K (ga K "Line") "never_later")) ["self", "other"] [] := (u_Line_never_later Z).binds (ps := ["self", "other"]) fun _ _ _ _ _ _ us hl => match us, hl with | [_, _], _ => rfl
theorem u_Line_eq (Z : Zs cks fns K mg) : Fun K "__eq__" "Line.__eq__" s_Line_eq (ma K (ga K "Line") "__eq__") (fdAt K (ma K (ga K "Line") "__eq__")) := Z.f 23
theorem b_Line_eq (Z : Zs cks fns K mg) : L2.Binds K (fdAt K (ma K (ga K "Line") "__eq__")) ["self", "other"] [] := (u_Line_eq Z).binds (ps := ["self", "other"]) fun _ _ _ _ _ _ us hl => match us, hl with | [_, _], _ => rfl
theorem u_Line_backward (Z : Zs cks fns K mg) : Fun K "backward" "Line.backward" s_Line_backward (ma K (ga K "Line") "backward") (fdAt K (ma K (ga K "Line") "backward")) := Z.f 24
theorem b_Line_backward (Z : Zs cks fns K mg) : L2.Binds K (fdAt K (ma K (ga K "Line") "backward")) ["self"] [] := (u_Line_backward Z).binds (ps := ["self"]) fun _ _ _ _ _ _ us hl => match us, hl with | [_], _ => rfl
theorem g__law_triple (Z : Zs cks fns K mg) : mg "_law_triple" = some (.ref (ga K "_law_triple")) := Z.glo (Z.c 20)
theorem u__law_triple (Z : Zs cks fns K mg) : Fun K "_law_triple" "_law_triple" s__law_triple (ga K "_law_triple") (fdAt K (ga K "_law_triple")) := Z.f 25
theorem b__law_triple (Z : Zs cks fns K mg) : L2.Binds K (fdAt K (ga K "_law_triple")) ["line_here"] [] := (u__law_triple Z).binds (ps := ["line_here"]) fun _ _ _ _ _ _ us hl => match us, hl with | [_], _ => rfl
theorem g__law_right (Z : Zs cks fns K mg) : mg "_law_right" = some (.ref (ga K "_law_right")) := Z.glo (Z.c 21)
theorem u__law_right (Z : Zs cks fns K mg) : Fun K "_law_right" "_law_right" s__law_right (ga K "_law_right") (fdAt K (ga K "_law_right")) := Z.f 26
theorem b__law_right (Z : Zs cks fns K mg) : L2.Binds K (fdAt K (ga K "_law_right")) ["feed", "first_one", "second_one", "great"] [] := (u__law_right Z).binds (ps := ["feed", "first_one", "second_one", "great"]) fun _ _ _ _ _ _ us hl => match us, hl with | [_, _, _, _], _ => rfl
theorem g_law (Z : Zs cks fns K mg) : mg "law" = some (.ref (ga K "law")) := Z.glo (Z.c 22)
theorem u_law (Z : Zs cks fns K mg) : Fun K "law" "law" s_law (ga K "law") (fdAt K (ga K "law")) := Z.f 27
theorem b_law (Z : Zs cks fns K mg) : L2.Binds K (fdAt K (ga K "law")) ["script"] [] := (u_law Z).binds (ps := ["script"]) fun _ _ _ _ _ _ us hl => match us, hl with | [_], _ => rfl
theorem lnF (Z : Zs cks fns K mg) : LnF K := ⟨fun k => match k with | .line => cls_of (Z.c 24) | .walk => cls_of (Z.c 27) | .stop => cls_of (Z.c 30), fun k => match k with | .line => noat_of (Z.c 32) | .walk => noat_of (Z.c 33) | .stop => noat_of (Z.c 34), fun k => match k with | .line => noat_of (Z.c 35) | .walk => noat_of (Z.c 36) | .stop => noat_of (Z.c 37), fun k => match k with | .line => noat_of (Z.c 38) | .walk => noat_of (Z.c 39) | .stop => noat_of (Z.c 40)⟩
theorem g_Line (Z : Zs cks fns K mg) : mg "Line" = some (.ref (ga K "Line")) := Z.glo (Z.c 23)
theorem M_Line (Z : Zs cks fns K mg) : Mk K (ga K "Line") (ma K (ga K "Line") "__init__") := mkr_of (Z.c 25)
theorem g_Walk (Z : Zs cks fns K mg) : mg "Walk" = some (.ref (ga K "Walk")) := Z.glo (Z.c 26)
theorem M_Walk (Z : Zs cks fns K mg) : Mk K (ga K "Walk") (ma K (ga K "Walk") "__init__") := mkr_of (Z.c 28)
theorem g_Stop (Z : Zs cks fns K mg) : mg "Stop" = some (.ref (ga K "Stop")) := Z.glo (Z.c 29)
theorem M_Stop (Z : Zs cks fns K mg) : Mk K (ga K "Stop") (ma K (ga K "Stop") "__init__") := mkr_of (Z.c 31)
theorem kd (Z : Zs cks fns K mg) : ∀ k, ∃ u, Con K (cA K k) "KIND" (.str (kn k)) u := fun k => match k with | .line => con_of (Z.c 41) (by decide) | .walk => con_of (Z.c 42) (by decide) | .stop => con_of (Z.c 43) (by decide)
theorem hp_at (Z : Zs cks fns K mg) : ∀ k, ∃ p, PropOf K (cA K k) "at" p (prA K (ga K "Line") "at") := fun k => match k with | .line => ⟨_, prop_of (Z.c 44)⟩ | .walk => ⟨_, by have h := prop_of (Z.c 45); rw [show prA K (ga K "Walk") "at" = prA K (ga K "Line") "at" from of_decide_eq_true (Z.c 46)] at h; exact h⟩ | .stop => ⟨_, by have h := prop_of (Z.c 47); rw [show prA K (ga K "Stop") "at" = prA K (ga K "Line") "at" from of_decide_eq_true (Z.c 48)] at h; exact h⟩
theorem hp_every (Z : Zs cks fns K mg) : ∀ k, ∃ p, PropOf K (cA K k) "every" p (prA K (ga K "Line") "every") := fun k => match k with | .line => ⟨_, prop_of (Z.c 49)⟩ | .walk => ⟨_, by have h := prop_of (Z.c 50); rw [show prA K (ga K "Walk") "every" = prA K (ga K "Line") "every" from of_decide_eq_true (Z.c 51)] at h; exact h⟩ | .stop => ⟨_, by have h := prop_of (Z.c 52); rw [show prA K (ga K "Stop") "every" = prA K (ga K "Line") "every" from of_decide_eq_true (Z.c 53)] at h; exact h⟩
theorem hp_ride (Z : Zs cks fns K mg) : ∀ k, ∃ p, PropOf K (cA K k) "ride" p (prA K (ga K "Line") "ride") := fun k => match k with | .line => ⟨_, prop_of (Z.c 54)⟩ | .walk => ⟨_, by have h := prop_of (Z.c 55); rw [show prA K (ga K "Walk") "ride" = prA K (ga K "Line") "ride" from of_decide_eq_true (Z.c 56)] at h; exact h⟩ | .stop => ⟨_, by have h := prop_of (Z.c 57); rw [show prA K (ga K "Stop") "ride" = prA K (ga K "Line") "ride" from of_decide_eq_true (Z.c 58)] at h; exact h⟩
theorem hm_backward (Z : Zs cks fns K mg) : ∀ k, Meth K (cA K k) "backward" (ma K (ga K "Line") "backward") := fun k => match k with | .line => meth_of (Z.c 59) | .walk => (by have h := meth_of (Z.c 60); rw [show ma K (ga K "Walk") "backward" = ma K (ga K "Line") "backward" from of_decide_eq_true (Z.c 61)] at h; exact h) | .stop => (by have h := meth_of (Z.c 62); rw [show ma K (ga K "Stop") "backward" = ma K (ga K "Line") "backward" from of_decide_eq_true (Z.c 63)] at h; exact h)
theorem hm_departure (Z : Zs cks fns K mg) : ∀ k, Meth K (cA K k) "departure" (ma K (ga K "Line") "departure") := fun k => match k with | .line => meth_of (Z.c 64) | .walk => (by have h := meth_of (Z.c 65); rw [show ma K (ga K "Walk") "departure" = ma K (ga K "Line") "departure" from of_decide_eq_true (Z.c 66)] at h; exact h) | .stop => (by have h := meth_of (Z.c 67); rw [show ma K (ga K "Stop") "departure" = ma K (ga K "Line") "departure" from of_decide_eq_true (Z.c 68)] at h; exact h)
theorem hm_latest (Z : Zs cks fns K mg) : ∀ k, Meth K (cA K k) "latest" (ma K (ga K "Line") "latest") := fun k => match k with | .line => meth_of (Z.c 69) | .walk => (by have h := meth_of (Z.c 70); rw [show ma K (ga K "Walk") "latest" = ma K (ga K "Line") "latest" from of_decide_eq_true (Z.c 71)] at h; exact h) | .stop => (by have h := meth_of (Z.c 72); rw [show ma K (ga K "Stop") "latest" = ma K (ga K "Line") "latest" from of_decide_eq_true (Z.c 73)] at h; exact h)
theorem hm_never_later (Z : Zs cks fns K mg) : ∀ k, Meth K (cA K k) "never_later" (ma K (ga K "Line") "never_later") := fun k => match k with | .line => meth_of (Z.c 74) | .walk => (by have h := meth_of (Z.c 75); rw [show ma K (ga K "Walk") "never_later" = ma K (ga K "Line") "never_later" from of_decide_eq_true (Z.c 76)] at h; exact h) | .stop => (by have h := meth_of (Z.c 77); rw [show ma K (ga K "Stop") "never_later" = ma K (ga K "Line") "never_later" from of_decide_eq_true (Z.c 78)] at h; exact h)
theorem hc_call (Z : Zs cks fns K mg) : ∀ k, StX.CallO K (cA K k) (ma K (ga K "Line") "__call__") := fun k => match k with | .line => call_of (Z.c 79) | .walk => (by have h := call_of (Z.c 80); rw [show ma K (ga K "Walk") "__call__" = ma K (ga K "Line") "__call__" from of_decide_eq_true (Z.c 81)] at h; exact h) | .stop => (by have h := call_of (Z.c 82); rw [show ma K (ga K "Stop") "__call__" = ma K (ga K "Line") "__call__" from of_decide_eq_true (Z.c 83)] at h; exact h)
theorem ol_add (Z : Zs cks fns K mg) : OpL K "add" (ma K (ga K "Line") "__add__") := ⟨fun k => match k with | .line => opOf_of (x := "Line") (nm := "add") (f := fun K => ma K (ga K "Line") "__add__") (Z.c 92) | .walk => opOf_of (x := "Walk") (nm := "add") (f := fun K => ma K (ga K "Line") "__add__") (Z.c 93) | .stop => opOf_of (x := "Stop") (nm := "add") (f := fun K => ma K (ga K "Line") "__add__") (Z.c 94), fun k j e => match k, j, e with | .line, .line, e => absurd rfl e | .line, .walk, _ => ⟨(two_of (x := "Line") (y := "Walk") (b := true) (Z.c 84)).1, true, (two_of (x := "Line") (y := "Walk") (b := true) (Z.c 84)).2, fun _ => lacks_of (Z.c 85)⟩ | .line, .stop, _ => ⟨(two_of (x := "Line") (y := "Stop") (b := true) (Z.c 86)).1, true, (two_of (x := "Line") (y := "Stop") (b := true) (Z.c 86)).2, fun _ => lacks_of (Z.c 87)⟩ | .walk, .line, _ => ⟨(two_of (x := "Walk") (y := "Line") (b := false) (Z.c 88)).1, false, (two_of (x := "Walk") (y := "Line") (b := false) (Z.c 88)).2, fun e => absurd e (by decide)⟩ | .walk, .walk, e => absurd rfl e | .walk, .stop, _ => ⟨(two_of (x := "Walk") (y := "Stop") (b := false) (Z.c 89)).1, false, (two_of (x := "Walk") (y := "Stop") (b := false) (Z.c 89)).2, fun e => absurd e (by decide)⟩ | .stop, .line, _ => ⟨(two_of (x := "Stop") (y := "Line") (b := false) (Z.c 90)).1, false, (two_of (x := "Stop") (y := "Line") (b := false) (Z.c 90)).2, fun e => absurd e (by decide)⟩ | .stop, .walk, _ => ⟨(two_of (x := "Stop") (y := "Walk") (b := false) (Z.c 91)).1, false, (two_of (x := "Stop") (y := "Walk") (b := false) (Z.c 91)).2, fun e => absurd e (by decide)⟩ | .stop, .stop, e => absurd rfl e⟩
theorem ol_mul (Z : Zs cks fns K mg) : OpL K "mul" (ma K (ga K "Line") "__mul__") := ⟨fun k => match k with | .line => opOf_of (x := "Line") (nm := "mul") (f := fun K => ma K (ga K "Line") "__mul__") (Z.c 97) | .walk => opOf_of (x := "Walk") (nm := "mul") (f := fun K => ma K (ga K "Line") "__mul__") (Z.c 98) | .stop => opOf_of (x := "Stop") (nm := "mul") (f := fun K => ma K (ga K "Line") "__mul__") (Z.c 99), fun k j e => match k, j, e with | .line, .line, e => absurd rfl e | .line, .walk, _ => ⟨(two_of (x := "Line") (y := "Walk") (b := true) (Z.c 84)).1, true, (two_of (x := "Line") (y := "Walk") (b := true) (Z.c 84)).2, fun _ => lacks_of (Z.c 95)⟩ | .line, .stop, _ => ⟨(two_of (x := "Line") (y := "Stop") (b := true) (Z.c 86)).1, true, (two_of (x := "Line") (y := "Stop") (b := true) (Z.c 86)).2, fun _ => lacks_of (Z.c 96)⟩ | .walk, .line, _ => ⟨(two_of (x := "Walk") (y := "Line") (b := false) (Z.c 88)).1, false, (two_of (x := "Walk") (y := "Line") (b := false) (Z.c 88)).2, fun e => absurd e (by decide)⟩ | .walk, .walk, e => absurd rfl e | .walk, .stop, _ => ⟨(two_of (x := "Walk") (y := "Stop") (b := false) (Z.c 89)).1, false, (two_of (x := "Walk") (y := "Stop") (b := false) (Z.c 89)).2, fun e => absurd e (by decide)⟩ | .stop, .line, _ => ⟨(two_of (x := "Stop") (y := "Line") (b := false) (Z.c 90)).1, false, (two_of (x := "Stop") (y := "Line") (b := false) (Z.c 90)).2, fun e => absurd e (by decide)⟩ | .stop, .walk, _ => ⟨(two_of (x := "Stop") (y := "Walk") (b := false) (Z.c 91)).1, false, (two_of (x := "Stop") (y := "Walk") (b := false) (Z.c 91)).2, fun e => absurd e (by decide)⟩ | .stop, .stop, e => absurd rfl e⟩
theorem eqL (Z : Zs cks fns K mg) : EqL K (ma K (ga K "Line") "__eq__") := ⟨fun k => match k with | .line => eqOf_of (x := "Line") (f := fun K => ma K (ga K "Line") "__eq__") (Z.c 100) | .walk => eqOf_of (x := "Walk") (f := fun K => ma K (ga K "Line") "__eq__") (Z.c 101) | .stop => eqOf_of (x := "Stop") (f := fun K => ma K (ga K "Line") "__eq__") (Z.c 102), fun k j e => match k, j, e with | .line, .line, e => absurd rfl e | .line, .walk, _ => ⟨(two_of (x := "Line") (y := "Walk") (b := true) (Z.c 84)).1, true, (two_of (x := "Line") (y := "Walk") (b := true) (Z.c 84)).2⟩ | .line, .stop, _ => ⟨(two_of (x := "Line") (y := "Stop") (b := true) (Z.c 86)).1, true, (two_of (x := "Line") (y := "Stop") (b := true) (Z.c 86)).2⟩ | .walk, .line, _ => ⟨(two_of (x := "Walk") (y := "Line") (b := false) (Z.c 88)).1, false, (two_of (x := "Walk") (y := "Line") (b := false) (Z.c 88)).2⟩ | .walk, .walk, e => absurd rfl e | .walk, .stop, _ => ⟨(two_of (x := "Walk") (y := "Stop") (b := false) (Z.c 89)).1, false, (two_of (x := "Walk") (y := "Stop") (b := false) (Z.c 89)).2⟩ | .stop, .line, _ => ⟨(two_of (x := "Stop") (y := "Line") (b := false) (Z.c 90)).1, false, (two_of (x := "Stop") (y := "Line") (b := false) (Z.c 90)).2⟩ | .stop, .walk, _ => ⟨(two_of (x := "Stop") (y := "Walk") (b := false) (Z.c 91)).1, false, (two_of (x := "Stop") (y := "Walk") (b := false) (Z.c 91)).2⟩ | .stop, .stop, e => absurd rfl e⟩
theorem oi_mul (Z : Zs cks fns K mg) : ∃ fo ro, PySem.W.findIn K (.type "int") (PySem.dunder "mul") = some fo ∧ PySem.W.findIn K (.type "int") (dunderR "mul") = some ro ∧ ∀ k, PySem.W.subIn K (.type "int") (.ref (cA K k)) = some false := by
  obtain ⟨fo, ro, e1, e2, e3⟩ := intOp_of (Z.c 103)
  obtain ⟨_, _, _, _, e4⟩ := intOp_of (Z.c 104)
  obtain ⟨_, _, _, _, e5⟩ := intOp_of (Z.c 105)
  exact ⟨fo, ro, e1, e2, fun k => match k with | .line => e3 | .walk => e4 | .stop => e5⟩
theorem tyL (Z : Zs cks fns K mg) : ∀ k, Typ K (cA K k) := fun k => match k with | .line => typ_of (Z.c 106) | .walk => typ_of (Z.c 107) | .stop => typ_of (Z.c 108)
theorem kitL (Z : Zs cks fns K mg) : ∀ k, PySem.W.kitOne K (.ref (cA K k)) (.ref (ga K "Line")) = some true := fun k => match k with | .line => kit_of (Z.c 109) | .walk => kit_of (Z.c 110) | .stop => kit_of (Z.c 111)
theorem sup_Walk (Z : Zs cks fns K mg) : supB K (ma K (ga K "Walk") "__init__") (ga K "Walk") (ma K (ga K "Line") "__init__") "/claim/cut.py" = true := Z.c 112
theorem sup_Stop (Z : Zs cks fns K mg) : supB K (ma K (ga K "Stop") "__init__") (ga K "Stop") (ma K (ga K "Line") "__init__") "/claim/cut.py" = true := Z.c 113
end
abbrev R : PySem.W.OpenRow := PySem.W.OpenLaw.row PySem.Challenge.rw_onwardlines_k07_lines_backward
abbrev hk : PySem.W.Hook := hookM 6 cks fns
def ob (s : PySem.W.SharedT) : AlM := obsMG 6 cks fns (HandSHeadRun.getT s)
theorem ob_eq (s : PySem.W.SharedT) : ob s = hk.obs s.abs := obsMG_eq (HandSHeadRun.getT_eq s)
def loose : List PySem.Str := (["_wall", "HeadwayError", "InvalidLine", "InvalidNumber", "NotFitting", "MOST_ROUNDS", "is_integer", "are_numbers", "fit", "taken_after", "greatest_lead", "Line", "Walk", "Stop", "_law_feed", "_law_pick", "_law_chain", "_law_numbers", "_law_made", "_law_moment", "_law_triple", "_law_right"] : List PySem.Str)
set_option maxHeartbeats 0 in
theorem run (w : World) : HandSHeadRun.RunEq R (PySem.W.view R.prog [25]) hk ob 20000 loose w := by
  intro os
  kernel_rfl
section
variable {w : World} {K : Frag} {mg : Str → Option Value} {base : Heap}
def sp_is_integer (K : Frag) : Sp := fun vs H Q E => ∃ (x : V) (t : Value) (b1 : Bool) (b2 : Bool), vs = [x] ∧ TyX K H x t ∧ PySem.W.kitOne K t (.type "int") = some b1 ∧ PySem.W.kitOne K t (.type "bool") = some b2 ∧ Q (.bl (b1 && !b2)) H
theorem ok_is_integer (Z : Zs cks fns K mg) : FnOk PP w K mg base (L2.CX PP w) 1 (ga K "is_integer") (fdAt K (ga K "is_integer")) ["thing"] (sp_is_integer K) := by
  refine L2.Fun.okX (u_is_integer Z) sc_is_integer (fun vs H Q E h => ?_) (fun cdv A outer s H vs Q E hr h => ?_)
  · obtain ⟨_, _, _, _, rfl, _⟩ := h
    rfl
  · obtain ⟨x, t, b1, b2, rfl, ⟨ht, h1, h2, hq⟩⟩ := h
    refine ⟨_, (pss_one (ps_ret (pe_and (pe_callB call_isi rfl (n_isinstance Z) (by decide +kernel) (pa_cons (pv 0) (pa_cons (pe_bltn (v := .ty "int") (u := .type "int") rfl (n_int Z) (by decide +kernel) rfl) pa_nil))) (pe_one (pe_not (pe_callB call_isi rfl (n_isinstance Z) (by decide +kernel) (pa_cons (pv 0) (pa_cons (pe_bltn (v := .ty "bool") (u := .type "bool") rfl (n_bool Z) (by decide +kernel) rfl) pa_nil)))))))), ?_⟩
    refine ⟨x, rfl, x, .ty "int", t, .type "int", b1, rfl, .ty _, ht, h1, b1, rfl, ?_⟩
    cases b1 with
    | true => exact iteT ⟨_, rfl, _, _, _, _, b2, rfl, .ty _, ht, h2, _, rfl, hq⟩
    | false => exact iteF hq
def sp_are_numbers (K : Frag) : Sp := fun vs H Q E => ∃ (n : N3), vs = [.int n.e, .int n.a, .int n.r] ∧ n.ok ∧ Q (.bl true) H
theorem ok_are_numbers (Z : Zs cks fns K mg) : FnOk PP w K mg base (L2.CX PP w) 2 (ga K "are_numbers") (fdAt K (ga K "are_numbers")) ["every", "at", "ride"] (sp_are_numbers K) := by
  refine L2.Fun.okX (u_are_numbers Z) sc_are_numbers (fun vs H Q E h => ?_) (fun cdv A outer s H vs Q E hr h => ?_)
  · obtain ⟨_, rfl, _⟩ := h
    rfl
  · obtain ⟨n, rfl, ⟨⟨h1, h2, h3, h4⟩, hq⟩⟩ := h
    refine ⟨_, (pss_cons (ps_if (PW.pt (pw_or (pt_not (pt_val (pe_call (ok_is_integer Z) (hr.mono (by decide)) rfl (g_is_integer Z) (u_is_integer Z).kp (b_is_integer Z) .nil passL (pa_cons (pv 0) pa_nil)))) (pw_or (pt_not (pt_val (pe_call (ok_is_integer Z) (hr.mono (by decide)) rfl (g_is_integer Z) (u_is_integer Z).kp (b_is_integer Z) .nil passL (pa_cons (pv 1) pa_nil)))) (pw_or1 (pt_not (pt_val (pe_call (ok_is_integer Z) (hr.mono (by decide)) rfl (g_is_integer Z) (u_is_integer Z).kp (b_is_integer Z) .nil passL (pa_cons (pv 2) pa_nil))))))))
        (pss_one (ps_ret pe_bl))
        pss_nil)
      (pss_one (ps_ret (pe_and (pe_cmpR op_ge (pv 0) pe_int (nomark _)) (pe_and (pe_chain op_le op_lt pe_int (pv 1) (pv 0)) (pe_one (pe_cmpR op_ge (pv 2) pe_int (nomark _)))))))), ?_⟩
    refine ⟨_, rfl, ⟨_, _, true, false, rfl, .base (.int _), kit_ty (by decide +kernel), kit_ty (by decide +kernel), _, rfl, iteF ?_⟩⟩
    refine ⟨_, rfl, ⟨_, _, true, false, rfl, .base (.int _), kit_ty (by decide +kernel), kit_ty (by decide +kernel), _, rfl, iteF ?_⟩⟩
    refine ⟨_, rfl, ⟨_, _, true, false, rfl, .base (.int _), kit_ty (by decide +kernel), kit_ty (by decide +kernel), _, rfl, iteF ?_⟩⟩
    refine ⟨_, rfl, _, _, rfl, rfl, _, rfl, ifT h1 ?_⟩
    refine ⟨_, rfl, _, _, rfl, rfl, _, rfl, ifT h2 ⟨_, rfl, _, _, rfl, rfl, _, rfl, ifT h3 ?_⟩⟩
    exact ⟨_, rfl, _, _, rfl, rfl, qT h4 hq⟩
theorem lf_len1 {v : V} : (putF "held_every" v []).length < 1000 := by
  have h := length_putF "held_every" v []
  have e : ([] : List (Str × V)).length = 0 := rfl
  omega
theorem lf_len2 {v u : V} : (putF "held_at" u (putF "held_every" v [])).length < 1000 := by
  have h := length_putF "held_every" v []
  have g := length_putF "held_at" u (putF "held_every" v [])
  have e : ([] : List (Str × V)).length = 0 := rfl
  omega
def sp_Line_init (K : Frag) : Sp := fun vs H Q E => ∃ (k : LK) (p : Addr) (dx : Addr) (n : N3), vs = [.ref p, .int n.e, .int n.a, .int n.r] ∧ n.ok ∧ H p = some (.ins (cA K k) dx []) ∧ Q .non (upd H p (.ins (cA K k) dx (lf n)))
theorem ok_Line_init (Z : Zs cks fns K mg) : FnOk PP w K mg base (L2.CX PP w) 3 (ma K (ga K "Line") "__init__") (fdAt K (ma K (ga K "Line") "__init__")) ["self", "every", "at", "ride"] (sp_Line_init K) := by
  refine L2.Fun.okX (u_Line_init Z) sc_Line_init (fun vs H Q E h => ?_) (fun cdv A outer s H vs Q E hr h => ?_)
  · obtain ⟨_, _, _, _, rfl, _⟩ := h
    rfl
  · obtain ⟨k, p, dx, n, rfl, ⟨hok, hp, hq⟩⟩ := h
    refine ⟨_, (pss_cons (ps_if (pt_not (pt_val (pe_call (ok_are_numbers Z) (hr.mono (by decide)) rfl (g_are_numbers Z) (u_are_numbers Z).kp (b_are_numbers Z) .nil passL (pa_cons (pv 1) (pa_cons (pv 2) (pa_cons (pv 3) pa_nil))))))
        (pss_one ps_never)
        pss_nil)
      (pss_cons (ps_fld (pv 0) (pv 1) rfl)
      (pss_cons (ps_fld (pv 0) (pv 2) rfl)
      (pss_one (ps_fld (pv 0) (pv 3) rfl))))), ?_⟩
    refine ⟨_, rfl, _, rfl, _, rfl, ⟨n, rfl, hok, _, rfl, iteF ?_⟩⟩
    refine ⟨_, rfl, _, rfl, p, _, dx, [], rfl, hp, (lnF Z).cls k, (lnF Z).nE k, (by decide), ?_⟩
    refine ⟨_, rfl, _, rfl, p, _, dx, _, rfl, upd_same, (lnF Z).cls k, (lnF Z).nA k, lf_len1, ?_⟩
    refine ⟨_, rfl, _, rfl, p, _, dx, _, rfl, upd_same, (lnF Z).cls k, (lnF Z).nR k, lf_len2, ?_⟩
    rw [upd_upd, upd_upd]
    exact hq
def sp_Walk_init (K : Frag) : Sp := fun vs H Q E => ∃ (p : Addr) (dx : Addr) (r : Int), vs = [.ref p, .int r] ∧ 0 ≤ r ∧ H p = some (.ins (cA K .walk) dx []) ∧ Q .non (upd H p (.ins (cA K .walk) dx (lf ⟨1, 0, r⟩)))
theorem ok_Walk_init (Z : Zs cks fns K mg) : FnOk PP w K mg base (L2.CX PP w) 4 (ma K (ga K "Walk") "__init__") (fdAt K (ma K (ga K "Walk") "__init__")) ["self", "ride"] (sp_Walk_init K) :=
  fn_super (z := "/claim/cut.py") (D := ga K "Walk") (u_Walk_init Z) sc_Walk_init (sup_Walk Z) (by decide +kernel) (by decide +kernel) rfl rfl rfl (ok_Line_init Z) (b_Line_init Z)
    (fun vs H Q E h => by obtain ⟨p, dx, r, rfl, _⟩ := h; rfl) (fun cdv cc A outer s H E => pa_cons pe_int (pa_cons pe_int (pa_cons (pv 1) pa_nil))) (fun _ => rfl) (fun _ => rfl) (fun _ => rfl)
    (fun vs H Q E h => by
      obtain ⟨p, dx, r, rfl, h0, hp, hq⟩ := h
      exact ⟨p, dx, [], rfl, hp, _, rfl, ⟨.walk, p, dx, ⟨1, 0, r⟩, rfl, ⟨Int.le_refl 1, Int.le_refl 0, (by show (0 : Int) < 1; decide), h0⟩, hp, hq⟩⟩)
def sp_Stop_init (K : Frag) : Sp := fun vs H Q E => ∃ (p : Addr) (dx : Addr) (e : Int) (l : Int), vs = [.ref p, .int e, .int l] ∧ 1 ≤ e ∧ 0 ≤ l ∧ l < e ∧ H p = some (.ins (cA K .stop) dx []) ∧ Q .non (upd H p (.ins (cA K .stop) dx (lf ⟨e, l, 0⟩)))
theorem ok_Stop_init (Z : Zs cks fns K mg) : FnOk PP w K mg base (L2.CX PP w) 4 (ma K (ga K "Stop") "__init__") (fdAt K (ma K (ga K "Stop") "__init__")) ["self", "every", "at"] (sp_Stop_init K) :=
  fn_super (z := "/claim/cut.py") (D := ga K "Stop") (u_Stop_init Z) sc_Stop_init (sup_Stop Z) (by decide +kernel) (by decide +kernel) rfl rfl rfl (ok_Line_init Z) (b_Line_init Z)
    (fun vs H Q E h => by obtain ⟨p, dx, e, l, rfl, _⟩ := h; rfl) (fun cdv cc A outer s H E => pa_cons (pv 1) (pa_cons (pv 2) (pa_cons pe_int pa_nil))) (fun _ => rfl) (fun _ => rfl) (fun _ => rfl)
    (fun vs H Q E h => by
      obtain ⟨p, dx, e, l, rfl, h1, h2, h3, hp, hq⟩ := h
      exact ⟨p, dx, [], rfl, hp, _, rfl, _, rfl, ⟨.stop, p, dx, ⟨e, l, 0⟩, rfl, ⟨h1, h2, h3, Int.le_refl 0⟩, hp, hq⟩⟩)
end
section
variable {w : World} {K : Frag} {mg : Str → Option Value} {base : Heap}
def lat (n : N3) (t : Int) : Int := (t - n.r) - ((t - n.r) - n.a) % n.e
theorem dep_is {n : N3} (h : n.ok) {t d k : Int} (h1 : t ≤ d) (h2 : d < t + n.e) (h3 : d = n.a + n.e * k) : dep n t = d := by
  unfold dep
  rw [show n.a - t = (d - t) + n.e * (-k) by rw [Int.mul_neg]; omega, Int.add_mul_emod_self_left, Int.emod_eq_of_lt (by omega) (by omega)]
  omega
theorem lat_mod (n : N3) (t : Int) : ∃ k, lat n t = n.a + n.e * k := by
  unfold lat
  have e := Int.emod_add_mul_ediv ((t - n.r) - n.a) n.e
  exact ⟨((t - n.r) - n.a) / n.e, by omega⟩
theorem lat_le {n : N3} (h : n.ok) (t : Int) : lat n t ≤ t - n.r ∧ t - n.r < lat n t + n.e := by
  have h1 := h.1
  have a := Int.emod_nonneg ((t - n.r) - n.a) (show n.e ≠ 0 by omega)
  have b := Int.emod_lt_of_pos ((t - n.r) - n.a) (show 0 < n.e by omega)
  unfold lat
  omega
abbrev sp_Line_every : Frag → Sp := fun K => getSp (ga K "Line") "held_every"
theorem ok_Line_every (Z : Zs cks fns K mg) : ∀ k, FnOk PP w K mg base (L2.CX PP w) 1 (prA K (ga K "Line") "every") (fdAt K (prA K (ga K "Line") "every")) ["self"] (getSp (cA K k) "held_every") := fun k => ok_getter (u_Line_every Z) sc_Line_every rfl rfl ((lnF Z).cls k) ((lnF Z).nE k)
abbrev sp_Line_at : Frag → Sp := fun K => getSp (ga K "Line") "held_at"
theorem ok_Line_at (Z : Zs cks fns K mg) : ∀ k, FnOk PP w K mg base (L2.CX PP w) 1 (prA K (ga K "Line") "at") (fdAt K (prA K (ga K "Line") "at")) ["self"] (getSp (cA K k) "held_at") := fun k => ok_getter (u_Line_at Z) sc_Line_at rfl rfl ((lnF Z).cls k) ((lnF Z).nA k)
abbrev sp_Line_ride : Frag → Sp := fun K => getSp (ga K "Line") "held_ride"
theorem ok_Line_ride (Z : Zs cks fns K mg) : ∀ k, FnOk PP w K mg base (L2.CX PP w) 1 (prA K (ga K "Line") "ride") (fdAt K (prA K (ga K "Line") "ride")) ["self"] (getSp (cA K k) "held_ride") := fun k => ok_getter (u_Line_ride Z) sc_Line_ride rfl rfl ((lnF Z).cls k) ((lnF Z).nR k)
def sp_Line_departure (K : Frag) : Sp := fun vs H Q E => ∃ (a : Addr) (k : LK) (n : N3) (t : Int), vs = [.ref a, .int t] ∧ LnAt K H a k n ∧ n.ok ∧ Q (.int (dep n t)) H
theorem ok_Line_departure (Z : Zs cks fns K mg) : FnOk PP w K mg base (L2.CX PP w) 1 (ma K (ga K "Line") "departure") (fdAt K (ma K (ga K "Line") "departure")) ["self", "time"] (sp_Line_departure K) := by
  refine L2.Fun.okX (u_Line_departure Z) sc_Line_departure (fun vs H Q E h => ?_) (fun cdv A outer s H vs Q E hr h => ?_)
  · obtain ⟨_, _, _, _, rfl, _⟩ := h
    rfl
  · obtain ⟨a, k, n, t, rfl, ⟨⟨dx, hA⟩, ⟨h1, _, _, _⟩, hq⟩⟩ := h
    refine ⟨_, (pss_one (ps_ret (pe_op op_add (pv 1) (pe_op op_mod (pe_op op_sub (pe_fld (pv 0) rfl) (pv 1)) (pe_fld (pv 0) rfl))))), ?_⟩
    refine ⟨_, rfl, _, rfl, a, _, dx, _, _, rfl, hA, (lnF Z).cls k, (lnF Z).nA k, lf_a n, _, rfl, _, _, rfl, rfl, ?_⟩
    exact ⟨_, rfl, a, _, dx, _, _, rfl, hA, (lnF Z).cls k, (lnF Z).nE k, lf_e n, _, _, rfl, rfl, (by show 0 < n.e; omega), _, _, rfl, rfl, hq⟩
def sp_Line_call (K : Frag) : Sp := fun vs H Q E => ∃ (a : Addr) (k : LK) (n : N3) (t : Int), vs = [.ref a, .int t] ∧ LnAt K H a k n ∧ n.ok ∧ Q (.int (dep n t + n.r)) H
theorem ok_Line_call (Z : Zs cks fns K mg) : FnOk PP w K mg base (L2.CX PP w) 1 (ma K (ga K "Line") "__call__") (fdAt K (ma K (ga K "Line") "__call__")) ["self", "time"] (sp_Line_call K) := by
  refine L2.Fun.okX (u_Line_call Z) sc_Line_call (fun vs H Q E h => ?_) (fun cdv A outer s H vs Q E hr h => ?_)
  · obtain ⟨_, _, _, _, rfl, _⟩ := h
    rfl
  · obtain ⟨a, k, n, t, rfl, ⟨⟨dx, hA⟩, ⟨h1, _, _, _⟩, hq⟩⟩ := h
    refine ⟨_, (pss_one (ps_ret (pe_op op_add (pe_op op_add (pv 1) (pe_op op_mod (pe_op op_sub (pe_fld (pv 0) rfl) (pv 1)) (pe_fld (pv 0) rfl))) (pe_fld (pv 0) rfl)))), ?_⟩
    refine ⟨_, rfl, _, rfl, a, _, dx, _, _, rfl, hA, (lnF Z).cls k, (lnF Z).nA k, lf_a n, _, rfl, _, _, rfl, rfl, ?_⟩
    refine ⟨_, rfl, a, _, dx, _, _, rfl, hA, (lnF Z).cls k, (lnF Z).nE k, lf_e n, _, _, rfl, rfl, (by show 0 < n.e; omega), _, _, rfl, rfl, ?_⟩
    exact ⟨_, rfl, a, _, dx, _, _, rfl, hA, (lnF Z).cls k, (lnF Z).nR k, lf_r n, _, _, rfl, rfl, hq⟩
theorem r_Line_call (Z : Zs cks fns K mg) : FnR PP w K mg base (L2.CX PP w) 1 (ma K (ga K "Line") "__call__") (sp_Line_call K) := ((ok_Line_call Z).raw (b_Line_call Z) .nil).imp fun vs H Q E h => by rw [List.append_nil]; exact h
def sp_Line_latest (K : Frag) : Sp := fun vs H Q E => ∃ (a : Addr) (k : LK) (n : N3) (t : Int), vs = [.ref a, .int t] ∧ LnAt K H a k n ∧ n.ok ∧ Q (.int (lat n t)) H
theorem ok_Line_latest (Z : Zs cks fns K mg) : FnOk PP w K mg base (L2.CX PP w) 1 (ma K (ga K "Line") "latest") (fdAt K (ma K (ga K "Line") "latest")) ["self", "time"] (sp_Line_latest K) := by
  refine L2.Fun.okX (u_Line_latest Z) sc_Line_latest (fun vs H Q E h => ?_) (fun cdv A outer s H vs Q E hr h => ?_)
  · obtain ⟨_, _, _, _, rfl, _⟩ := h
    rfl
  · obtain ⟨a, k, n, t, rfl, ⟨⟨dx, hA⟩, ⟨h1, _, _, _⟩, hq⟩⟩ := h
    refine ⟨_, (pss_cons (ps_set (i := 2) sc_Line_latest.nd rfl (Or.inl rfl) (pe_op op_sub (pv 1) (pe_fld (pv 0) rfl)))
      (pss_one (ps_ret (pe_op op_sub (pv 2) (pe_op op_mod (pe_op op_sub (pv 2) (pe_fld (pv 0) rfl)) (pe_fld (pv 0) rfl)))))), ?_⟩
    refine ⟨_, rfl, _, rfl, a, _, dx, _, _, rfl, hA, (lnF Z).cls k, (lnF Z).nR k, lf_r n, _, _, rfl, rfl, ?_⟩
    refine ⟨_, rfl, _, rfl, _, rfl, a, _, dx, _, _, rfl, hA, (lnF Z).cls k, (lnF Z).nA k, lf_a n, _, _, rfl, rfl, ?_⟩
    exact ⟨_, rfl, a, _, dx, _, _, rfl, hA, (lnF Z).cls k, (lnF Z).nE k, lf_e n, _, _, rfl, rfl, (by show 0 < n.e; omega), _, _, rfl, rfl, hq⟩
end
section
variable {w : World} {K : Frag} {mg : Str → Option Value} {base : Heap}
abbrev sp__law_pick : Frag → Sp := spPick
theorem ok__law_pick (Z : Zs cks fns K mg) : FnOk PP w K mg base (L2.CX PP w) 1 (ga K "_law_pick") (fdAt K (ga K "_law_pick")) ["feed", "many"] (sp__law_pick K) := by
  refine L2.Fun.okX (u__law_pick Z) sc__law_pick (fun vs H Q E h => ?_) (fun cdv A outer s H vs Q E hr h => ?_)
  · obtain ⟨_, _, _, rfl, _⟩ := h
    rfl
  · obtain ⟨a, N, m, rfl, ⟨hT, hm, hs, hq⟩⟩ := h
    refine ⟨_, (pss_cons (ps_if (pt_cmpR op_gt (pe_ix ix_list (pv 0) pe_int (fun _ _ => rfl)) pe_int (nomark _))
        (pss_cons (ps_set (i := 2) sc__law_pick.nd rfl (Or.inl rfl) (pe_op op_mod (pe_ix ix_list (pv 0) pe_int (fun _ _ => rfl)) (pv 1)))
      (pss_cons (ps_asg (pe_op op_fdivW (pe_ix ix_list (pv 0) pe_int (fun _ _ => rfl)) (pv 1)) (pg_sub (pv 0) pe_int set_list))
      (pss_one (ps_ret (pv 2)))))
        pss_nil)
      (pss_cons (ps_set (i := 3) sc__law_pick.nd rfl (Or.inl rfl) pe_int)
      (C8.pss_cut (ps_for (passes_of rfl) rfl (pi_range1 rfl (n_range Z) (pa_cons (pe_op op_add pe_int (pe_op op_fdivW (pe_bits (pv 1)) pe_int)) pa_nil)) (pg_name (i := 4) sc__law_pick.nd rfl (Or.inl rfl))
        (pss_cons (ps_asg (pe_op op_add (pe_ix ix_list (pv 0) pe_int (fun _ _ => rfl)) pe_int) (pg_sub (pv 0) pe_int set_list))
      (pss_cons (ps_set (i := 5) sc__law_pick.nd rfl (Or.inl rfl) (pe_op op_mod (pe_op op_add (pe_ix ix_list (pv 0) pe_int (fun _ _ => rfl)) (pe_op op_mul pe_int (pe_ix ix_list (pv 0) pe_int (fun _ _ => rfl)))) pe_int))
      (pss_cons (ps_set (i := 5) sc__law_pick.nd rfl (Or.inl rfl) (pe_op op_mod (pe_op op_add (pe_op op_add (pe_op op_mulW (pv 5) (pv 5)) (pe_op op_mulW (pe_op op_mul pe_int (pe_ix ix_list (pv 0) pe_int (fun _ _ => rfl))) (pv 5))) pe_int) pe_int))
      (pss_cons (ps_set (i := 5) sc__law_pick.nd rfl (Or.inl rfl) (pe_op op_mod (pe_op op_add (pe_op op_add (pe_op op_pow (pv 5) pe_int) (pe_ix ix_list (pv 0) pe_int (fun _ _ => rfl))) (pe_op op_mul pe_int (pe_ix ix_list (pv 0) pe_int (fun _ _ => rfl)))) pe_int))
      (pss_one (ps_set (i := 3) sc__law_pick.nd rfl (Or.inl rfl) (pe_op op_add (pe_op op_mulW (pv 3) (pe_op op_pow pe_int pe_int)) (pe_op op_fdivW (pv 5) pe_int)))))))))
      (pss_one (ps_ret (pe_op op_mod (pv 3) (pv 1))))))), ?_⟩
    obtain ⟨d, m0, n, h1, h2, h3, h4, h5, h6⟩ := hT
    refine ⟨_, rfl, a, _, 0, _, rfl, rfl, SqL.of h1, at0, _, _, rfl, rfl, _, rfl, ifD (fun c => ?_) (fun c => ?_)⟩
    · refine ⟨_, rfl, a, _, 0, _, rfl, rfl, SqL.of h1, at0, _, rfl, _, _, rfl, rfl, (by show 0 < m; omega), ?_⟩
      refine ⟨_, rfl, a, _, 0, _, rfl, rfl, SqL.of h1, at0, _, rfl, _, _, rfl, rfl, hs.div (by omega) (by decide) (by decide), ?_⟩
      refine ⟨_, rfl, a, _, 0, 0, rfl, rfl, h1, rfl, ?_⟩
      refine ⟨_, rfl, hq _ _ (Int.emod_nonneg _ (by omega)) (Int.emod_lt_of_pos _ (by omega)) (fun b o nb e => by rw [upd_ne nb]; exact e) ⟨_, m0, n, upd_same, ?_, h3, h4, h5, by omega⟩⟩
      exact Int.ediv_nonneg h2 (by omega)
    have d0 : d = 0 := by omega
    subst d0
    have hb := bits_le hs
    have s40 : Sz 10 (40 : Int) := Sz.of (by decide) (by decide)
    generalize hB : Builtin.Int.intBits m = B at hb
    refine ⟨fun σ H1 => ∃ (z2 z4 z5 : Option V) (f n1 : Int), σ = [some (.ref a), some (.int m), z2, some (.int f), z4, z5] ∧ Ext (fdM a) H H1 ∧ H1 a = some (.lst [.int 0, .int m0, .int n1]) ∧ 0 ≤ n1 ∧ n1 + N ≤ 2 ^ 40, ?_, ?_⟩
    · refine ⟨_, rfl, _, rfl, _, _, rfl, rfl, s40.div (by decide) (by decide) (by decide), _, _, rfl, rfl, _, rfl, ?_⟩
      rw [hB]
      refine ⟨by omega, by omega, ?_⟩
      generalize hj : (1 + (B : Int) / 40).toNat = j
      have hj2 : j ≤ 101 := by omega
      refine for_range (lo := 0) (n := j) (fun i σ H1 => ∃ (z2 z4 z5 : Option V) (f : Int), σ = [some (.ref a), some (.int m), z2, some (.int f), z4, z5] ∧ Ext (fdM a) H H1 ∧ H1 a = some (.lst [.int 0, .int m0, .int (n + (i : Nat))]) ∧ 0 ≤ f ∧ f < 2 ^ (50 * i)) ⟨_, _, _, 0, rfl, Ext.refl, by simpa using h1, Int.le_refl 0, by decide⟩ ?_ ?_
      · rintro i σ H1 hi ⟨z2, z4, z5, f, rfl, x1, e1, f0, f1⟩
        have sn : Sz 41 (n + (i : Int)) := Sz.n40 (by omega) (by omega)
        have sn1 : Sz 41 (n + (i : Int) + 1) := Sz.n40 (by omega) (by omega)
        have sm := Sz.p61 h3 h4
        -- feed[2] = feed[2] + 1
        refine ⟨_, rfl, a, _, 2, _, rfl, rfl, SqL.of e1, rfl, _, _, rfl, rfl, _, rfl, a, _, 2, 2, rfl, rfl, e1, rfl, ?_⟩
        have e2 : (upd H1 a (.lst [.int 0, .int m0, .int (n + (i : Int) + 1)])) a = some (.lst [.int 0, .int m0, .int (n + (i : Int) + 1)]) := upd_same
        have x2 : Ext (fdM a) H (upd H1 a (.lst [.int 0, .int m0, .int (n + (i : Int) + 1)])) := fun b o nb e => by rw [upd_ne nb]; exact x1 b o nb e
        -- mixed
        refine ⟨_, rfl, a, _, 1, _, rfl, rfl, SqL.of e2, rfl, _, rfl, a, _, 2, _, rfl, rfl, SqL.of e2, rfl, _, _, rfl, rfl, Or.inl ⟨by decide, by decide⟩, _, _, rfl, rfl, _, _, rfl, rfl, (by show (0 : Int) < P61; decide), ?_⟩
        have a0 : 0 ≤ ((m0 + 200003 * (n + (i : Int) + 1)) % P61) :=  Int.emod_nonneg _ (by decide)
        have a1 : ((m0 + 200003 * (n + (i : Int) + 1)) % P61) < P61 :=  Int.emod_lt_of_pos _ (by decide)
        have sM1 := Sz.p61 a0 a1
        have s75 : Sz 17 (75011 : Int) := Sz.of (by decide) (by decide)
        refine ⟨_, rfl, _, rfl, _, _, rfl, rfl, sM1.cmul sM1 (by decide) (by decide) (by decide), _, rfl, a, _, 2, _, rfl, rfl, SqL.of e2, rfl, _, _, rfl, rfl, Or.inl ⟨by decide, by decide⟩, _, rfl, _, _, rfl, rfl, (s75.mul sn1).cmul sM1 (by decide) (by decide) (by decide), _, _, rfl, rfl, _, _, rfl, rfl, _, _, rfl, rfl, (by show (0 : Int) < P61; decide), ?_⟩
        have b0 : 0 ≤ ((((m0 + 200003 * (n + (i : Int) + 1)) % P61) * ((m0 + 200003 * (n + (i : Int) + 1)) % P61) + 75011 * (n + (i : Int) + 1) * ((m0 + 200003 * (n + (i : Int) + 1)) % P61) + 61) % P61) :=  Int.emod_nonneg _ (by decide)
        have b1 : ((((m0 + 200003 * (n + (i : Int) + 1)) % P61) * ((m0 + 200003 * (n + (i : Int) + 1)) % P61) + 75011 * (n + (i : Int) + 1) * ((m0 + 200003 * (n + (i : Int) + 1)) % P61) + 61) % P61) < P61 :=  Int.emod_lt_of_pos _ (by decide)
        have c64 : CPow ((((m0 + 200003 * (n + (i : Int) + 1)) % P61) * ((m0 + 200003 * (n + (i : Int) + 1)) % P61) + 75011 * (n + (i : Int) + 1) * ((m0 + 200003 * (n + (i : Int) + 1)) % P61) + 61) % P61) 3 := ⟨by decide, by decide, Sz.mono (Sz.p61 b0 b1) (by decide)⟩
        refine ⟨_, rfl, _, _, rfl, rfl, c64, _, rfl, a, _, 1, _, rfl, rfl, SqL.of e2, rfl, _, _, rfl, rfl, _, rfl, a, _, 2, _, rfl, rfl, SqL.of e2, rfl, _, _, rfl, rfl, Or.inl ⟨by decide, by decide⟩, _, _, rfl, rfl, _, _, rfl, rfl, (by show (0 : Int) < P61; decide), ?_⟩
        have c0 : 0 ≤ ((((((m0 + 200003 * (n + (i : Int) + 1)) % P61) * ((m0 + 200003 * (n + (i : Int) + 1)) % P61) + 75011 * (n + (i : Int) + 1) * ((m0 + 200003 * (n + (i : Int) + 1)) % P61) + 61) % P61) ^ (3 : Int).toNat + m0 + 11 * (n + (i : Int) + 1)) % P61) :=  Int.emod_nonneg _ (by decide)
        have c1 : ((((((m0 + 200003 * (n + (i : Int) + 1)) % P61) * ((m0 + 200003 * (n + (i : Int) + 1)) % P61) + 75011 * (n + (i : Int) + 1) * ((m0 + 200003 * (n + (i : Int) + 1)) % P61) + 61) % P61) ^ (3 : Int).toNat + m0 + 11 * (n + (i : Int) + 1)) % P61) < P61 :=  Int.emod_lt_of_pos _ (by decide)
        have sf : Sz 5100 f := Sz.mono (a := 50 * i) (Sz.of (by have := Int.pow_pos (n := 2) (m := 50 * i) (by decide); omega) f1) (by omega)
        have s13 : Sz 45 ((10 : Int) ^ (13 : Int).toNat) := Sz.of (by decide +kernel) (by decide +kernel)
        have s81 : Sz 14 (8191 : Int) := Sz.of (by decide) (by decide)
        refine ⟨_, rfl, _, _, rfl, rfl, ⟨by decide, by decide, by decide⟩, _, _, rfl, rfl, sf.cmul s13 (by decide) (by decide) (by decide), _, rfl, _, _, rfl, rfl, s81.div (by decide) (by decide) (by decide), _, _, rfl, rfl, ?_⟩
        refine ⟨_, _, _, _, rfl, x2, ?_, ?_, ?_⟩
        · rw [show n + ((i + 1 : Nat) : Int) = n + (i : Int) + 1 by omega]
          exact upd_same
        · have q1 : 0 ≤ ((((((m0 + 200003 * (n + (i : Int) + 1)) % P61) * ((m0 + 200003 * (n + (i : Int) + 1)) % P61) + 75011 * (n + (i : Int) + 1) * ((m0 + 200003 * (n + (i : Int) + 1)) % P61) + 61) % P61) ^ (3 : Int).toNat + m0 + 11 * (n + (i : Int) + 1)) % P61) / 8191 := Int.ediv_nonneg c0 (by decide)
          have q2 : 0 ≤ f * 10 ^ (13 : Int).toNat := Int.mul_nonneg f0 (by decide +kernel)
          omega
        · have q1 : ((((((m0 + 200003 * (n + (i : Int) + 1)) % P61) * ((m0 + 200003 * (n + (i : Int) + 1)) % P61) + 75011 * (n + (i : Int) + 1) * ((m0 + 200003 * (n + (i : Int) + 1)) % P61) + 61) % P61) ^ (3 : Int).toNat + m0 + 11 * (n + (i : Int) + 1)) % P61) / 8191 < 2 ^ 49 := Int.ediv_lt_of_lt_mul (by decide) (Int.lt_trans c1 (by decide))
          have e50 : (2 : Int) ^ (50 * (i + 1)) = 2 ^ (50 * i) * 2 ^ 50 := by rw [show 50 * (i + 1) = 50 * i + 50 by omega, Int.pow_add]
          have q3 : f * 10 ^ (13 : Int).toNat ≤ (2 ^ (50 * i) - 1) * 10 ^ (13 : Int).toNat := Int.mul_le_mul_of_nonneg_right (by omega) (by decide +kernel)
          have q4 : (1 : Int) ≤ 2 ^ (50 * i) := by have := Int.pow_pos (n := 2) (m := 50 * i) (by decide); omega
          rw [e50]
          generalize (2 : Int) ^ (50 * i) = W at *
          have v13 : (10 : Int) ^ (13 : Int).toNat = 10000000000000 := by decide +kernel
          rw [v13] at q3 ⊢
          omega
      · rintro σ H1 ⟨z2, z4, z5, f, rfl, x1, e1, f0, f1⟩
        exact ⟨_, _, _, f, _, rfl, x1, e1, by omega, by omega⟩
    rintro σ H1 ⟨z2, z4, z5, f, n1, rfl, x1, e1, n0, n2⟩
    refine ⟨_, rfl, _, rfl, _, _, rfl, rfl, (by show 0 < m; omega), ?_⟩
    exact hq _ _ (Int.emod_nonneg _ (by omega)) (Int.emod_lt_of_pos _ (by omega)) x1 ⟨0, m0, n1, e1, Int.le_refl 0, h3, h4, n0, n2⟩
end
section
variable {w : World} {K : Frag} {mg : Str → Option Value} {base : Heap}
def sp__law_feed (K : Frag) : Sp := fun vs H Q E => ∃ (a : Addr) (ns : List Int) (k : Int), vs = [.ref a, .int k] ∧ SqL K H a (ns.map V.int) ∧ 0 ≤ k ∧ ∀ (p : Addr) (H' : Hp), Same H H' → H p = none → Fd p (2 ^ 39) H' → Q (.ref p) H'
theorem ok__law_feed (Z : Zs cks fns K mg) : FnOk PP w K mg base (L2.CX PP w) 1 (ga K "_law_feed") (fdAt K (ga K "_law_feed")) ["script", "k"] (sp__law_feed K) := by
  refine L2.Fun.okX (u__law_feed Z) sc__law_feed (fun vs H Q E h => ?_) (fun cdv A outer s H vs Q E hr h => ?_)
  · obtain ⟨_, _, _, rfl, _⟩ := h
    rfl
  · obtain ⟨a, ns, k, rfl, ⟨hS, hk, hq⟩⟩ := h
    refine ⟨_, (pss_cons (ps_set (i := 2) sc__law_feed.nd rfl (Or.inl rfl) pe_int)
      (C8.pss_cut (ps_if (pt_cmpR op_lt (pv 1) (pe_callB call_len_seq rfl (n_len Z) (by decide +kernel) (pa_cons (pv 0) pa_nil)) (nomark _))
        (pss_one (ps_set (i := 2) sc__law_feed.nd rfl (Or.inl rfl) (pe_ix ix_list (pv 0) (pv 1) (fun _ _ => rfl))))
        pss_nil)
      (pss_one (ps_ret (pe_lst (pa_cons (pe_callB (call_max2 rfl) rfl (n_max Z) (by decide +kernel) (pa_cons pe_int (pa_cons (pe_op op_sub (pe_callB call_abs rfl (n_abs Z) (by decide +kernel) (pa_cons (pv 2) pa_nil)) (pe_op op_pow pe_int pe_int)) pa_nil))) (pa_cons (pe_op op_mod (pe_op op_add (pe_op op_add (pe_op op_mul (pv 2) pe_int) (pe_op op_mul pe_int (pv 1))) pe_int) pe_int) (pa_cons pe_int pa_nil)))))))), ?_⟩
    refine ⟨fun σ H1 => H1 = H ∧ ∃ z : Int, σ = [some (.ref a), some (.int k), some (.int z)], ?_, ?_⟩
    · refine ⟨_, rfl, _, rfl, a, _, rfl, .inl hS, _, _, rfl, rfl, _, rfl, ifD (fun c => ?_) (fun c => ?_)⟩
      · rw [List.length_map] at c
        obtain ⟨z, hz, _⟩ := at_ints ns hk c
        exact ⟨_, rfl, _, rfl, a, _, k, _, rfl, rfl, hS, hz, rfl, z, rfl⟩
      · exact ⟨rfl, 0, rfl⟩
    rintro σ H1 ⟨rfl, z, rfl⟩
    refine ⟨_, rfl, _, rfl, _, _, rfl, rfl, ⟨by decide, by decide, by decide⟩, _, _, rfl, rfl, _, _, rfl, ?_⟩
    refine ⟨_, rfl, _, _, rfl, rfl, Or.inr ⟨by decide, by decide⟩, _, rfl, _, _, rfl, rfl, Or.inl ⟨by decide, by decide⟩, _, _, rfl, rfl, _, _, rfl, rfl, _, _, rfl, rfl, (by show (0 : Int) < P61; decide), (by show 3 ≤ sizeLine; decide), fun p hp => ?_⟩
    refine hq p _ (Same.new hp) hp ⟨_, _, _, upd_same, ?_, Int.emod_nonneg _ (by decide), Int.emod_lt_of_pos _ (by decide), by decide, by decide⟩
    split <;> omega
def sp__law_chain (K : Frag) : Sp := fun vs H Q E => ∃ (a : Addr) (N : Nat) (g : Bool), vs = [.ref a, .bl g] ∧ Fd a (N + 26 * 128) H ∧ ∀ (p : Addr) (cs : List Int) (H' : Hp), ChOk g cs → Ext (fdM a) H H' → H p = none → H' p = some (.lst (cs.map V.int)) → Fd a N H' → Q (.ref p) H'
theorem ok__law_chain (Z : Zs cks fns K mg) : FnOk PP w K mg base (L2.CX PP w) 2 (ga K "_law_chain") (fdAt K (ga K "_law_chain")) ["feed", "great"] (sp__law_chain K) := by
  refine L2.Fun.okX (u__law_chain Z) sc__law_chain (fun vs H Q E h => ?_) (fun cdv A outer s H vs Q E hr h => ?_)
  · obtain ⟨_, _, _, rfl, _⟩ := h
    rfl
  · obtain ⟨a, N, g, rfl, ⟨hT, hq⟩⟩ := h
    refine ⟨_, (pss_cons (ps_set (i := 2) sc__law_chain.nd rfl (Or.inl rfl) (pe_lst (pa_cons (pe_ix ix_list (pe_lst (pa_cons pe_int (pa_cons pe_int (pa_cons (pe_op op_add pe_int (pe_call (ok__law_pick Z) (hr.mono (by decide)) rfl (g__law_pick Z) (u__law_pick Z).kp (b__law_pick Z) .nil passL (pa_cons (pv 0) (pa_cons pe_int pa_nil)))) pa_nil)))) (pe_call (ok__law_pick Z) (hr.mono (by decide)) rfl (g__law_pick Z) (u__law_pick Z).kp (b__law_pick Z) .nil passL (pa_cons (pv 0) (pa_cons pe_int pa_nil))) (fun _ _ => rfl)) pa_nil)))
      (C8.pss_cut (ps_for (passes_of rfl) rfl (pi_range1 rfl (n_range Z) (pa_cons pe_int pa_nil)) (pg_name (i := 3) sc__law_chain.nd rfl (Or.inl rfl))
        (pss_cons (ps_set (i := 4) sc__law_chain.nd rfl (Or.inl rfl) (pe_ix ix_list (pe_lst (pa_cons pe_int (pa_cons pe_int (pa_cons (pe_op op_add pe_int (pe_call (ok__law_pick Z) (hr.mono (by decide)) rfl (g__law_pick Z) (u__law_pick Z).kp (b__law_pick Z) .nil passL (pa_cons (pv 0) (pa_cons pe_int pa_nil)))) pa_nil)))) (pe_call (ok__law_pick Z) (hr.mono (by decide)) rfl (g__law_pick Z) (u__law_pick Z).kp (b__law_pick Z) .nil passL (pa_cons (pv 0) (pa_cons pe_int pa_nil))) (fun _ _ => rfl)))
      (C8.pss_cut (ps_if (pt_val (pv 1))
        (pss_one (ps_set (i := 4) sc__law_chain.nd rfl (Or.inl rfl) (pe_ix ix_list (pe_lst (pa_cons pe_int (pa_cons pe_int (pa_cons (pe_op op_add (pe_op op_pow pe_int pe_int) pe_int) (pa_cons (pe_op op_add pe_int (pe_call (ok__law_pick Z) (hr.mono (by decide)) rfl (g__law_pick Z) (u__law_pick Z).kp (b__law_pick Z) .nil passL (pa_cons (pv 0) (pa_cons (pe_op op_pow pe_int pe_int) pa_nil)))) (pa_cons (pe_op op_pow pe_int pe_int) pa_nil)))))) (pe_call (ok__law_pick Z) (hr.mono (by decide)) rfl (g__law_pick Z) (u__law_pick Z).kp (b__law_pick Z) .nil passL (pa_cons (pv 0) (pa_cons pe_int pa_nil))) (fun _ _ => rfl))))
        pss_nil)
      (pss_one (ps_if (pt_cmpR op_le (pe_op op_mulW (pe_ix ix_list (pv 2) (pe_un un_neg pe_int) (fun _ _ => rfl)) (pv 4)) (pe_ix ix_list (pe_lst (pa_cons pe_int (pa_cons (pe_op op_pow pe_int pe_int) pa_nil))) (pe_callTy call_int_bl rfl (n_int Z) (by decide +kernel) (pa_cons (pv 1) pa_nil)) (fun _ _ => rfl)) (nomark _))
        (pss_one (ps_expr (pe_bm PySem.F.plainAttrs_list PySem.F.slot_list_append PySem.F.type_list_append mt_append (pv 2) (pa_cons (pe_op op_mulW (pe_ix ix_list (pv 2) (pe_un un_neg pe_int) (fun _ _ => rfl)) (pv 4)) pa_nil))))
        pss_nil)))))
      (pss_one (ps_ret (pv 2))))), ?_⟩
    have sc : ∀ z : Int, 1 ≤ z → z ≤ 10 ^ 60 → Sz 4000 z := fun z z0 z1 => Sz.mono (a := 200) (Sz.le (by omega) z1 (Sz.of (by decide +kernel) (by decide +kernel))) (by decide)
    refine ⟨_, rfl, ⟨a, N + 25 * 128, 5, rfl, hT.less (by omega), by decide, sc _ (by decide) (by decide +kernel), fun v1 H1 g1 l1 x1 t1 => ⟨_, _, rfl, rfl, (by show 3 ≤ sizeLine; decide), fun p1 hp1 => ?_⟩⟩⟩
    refine ⟨_, rfl, ⟨a, N + 24 * 128, 3, rfl, (t1.same (Same.new hp1)).less (by omega), by decide, sc _ (by decide) (by decide +kernel), fun v2 H2 g2 l2 x2 t2 => ?_⟩⟩
    have e2 : H2 p1 = some (.lst (([1, 1, 1 + v1] : List Int).map V.int)) := x2 p1 _ (t1.fresh hp1) upd_same
    obtain ⟨f1, ha, hm⟩ := at_ints [1, 1, 1 + v1] g2 l2
    have hf : 1 ≤ f1 ∧ f1 ≤ 5 := by
      simp only [List.mem_cons, List.not_mem_nil, or_false] at hm
      rcases hm with e | e | e <;> omega
    refine ⟨p1, _, v2, _, rfl, rfl, SqL.of e2, ha, (by show 1 ≤ sizeLine; decide), fun p hp => ?_⟩
    have y2 : Ext (fdM a) H H2 := x1.trans ((Ext.new hp1).trans x2)
    have hp0 : H p = none := y2.back (t2.fresh hp) hp
    have hl5 : (5 : Int) ≤ limG g := by cases g <;> decide +kernel
    refine ⟨fun σ H3 => ∃ cs, ChOk g cs ∧ Ext (fdM a) H H3 ∧ H3 p = some (.lst (cs.map V.int)) ∧ Fd a N H3 ∧ ∃ z3 z4, σ = [some (.ref a), some (.bl g), some (.ref p), z3, z4], ?_, ?_⟩
    · refine ⟨_, rfl, by decide, by decide, ?_⟩
      refine for_range (lo := 0) (n := 6) (fun i σ H3 => ∃ (ds : List Int) (l : Int), ds.length = ds.length ∧ (ds ++ [l]).length ≤ i + 1 ∧ ChOk g (ds ++ [l]) ∧ (∀ x ∈ ds, x ∣ l) ∧ Ext (fdM a) H H3 ∧ H3 p = some (.lst ((ds ++ [l]).map V.int)) ∧ Fd a (N + (24 - 4 * i) * 128) H3 ∧ ∃ z3 z4, σ = [some (.ref a), some (.bl g), some (.ref p), z3, z4])
        ⟨[], f1, rfl, Nat.le_refl _, ⟨by simp, (by show 1 ≤ 10; decide), fun c hc => ?_, List.pairwise_singleton _ _⟩, (fun x hx => nomatch hx), y2.trans (Ext.new hp), upd_same, t2.same (Same.new hp), none, none, rfl⟩ ?_ ?_
      · rw [List.mem_singleton.mp hc]
        omega
      · rintro i σ H3 hi ⟨ds, l, _, hlen, hc, hd, x3, e3, t3, z3, z4, rfl⟩
        have np : ¬ fdM a p := t2.fresh hp
        have hN : N + (24 - 4 * i) * 128 = (N + (24 - 4 * (i + 1)) * 128) + 512 := by omega
        rw [hN] at t3
        generalize hM : N + (24 - 4 * (i + 1)) * 128 = M at *
        have hl := hc.pos l (by simp)
        -- more, small
        refine ⟨_, rfl, ⟨a, M + 384, 6, rfl, t3, by decide, sc _ (by decide) (by decide +kernel), fun v4 H4 g4 l4 x4 t4 => ⟨_, _, rfl, rfl, (by show 3 ≤ sizeLine; decide), fun p4 hp4 => ?_⟩⟩⟩
        refine ⟨_, rfl, ⟨a, M + 256, 3, rfl, t4.same (Same.new hp4), by decide, sc _ (by decide) (by decide +kernel), fun v5 H5 g5 l5 x5 t5 => ?_⟩⟩
        have e5 : H5 p4 = some (.lst (([2, 3, 1 + v4] : List Int).map V.int)) := x5 p4 _ (t4.fresh hp4) upd_same
        obtain ⟨m1, ha1, hm1⟩ := at_ints [2, 3, 1 + v4] g5 l5
        have hb1 : 1 ≤ m1 ∧ m1 ≤ 6 := by
          simp only [List.mem_cons, List.not_mem_nil, or_false] at hm1
          rcases hm1 with e | e | e <;> omega
        refine ⟨p4, _, v5, _, rfl, rfl, SqL.of e5, ha1, ?_⟩
        have y5 : Ext (fdM a) H3 H5 := x4.trans ((Ext.new hp4).trans x5)
        -- more, great
        refine ⟨fun σ H6 => ∃ m : Int, 1 ≤ m ∧ m ≤ 10 ^ 20 ∧ Ext (fdM a) H3 H6 ∧ Fd a M H6 ∧ σ = [some (.ref a), some (.bl g), some (.ref p), some (.int (0 + (i : Nat))), some (.int m)], ?_, ?_⟩
        · cases g with
          | false => exact ⟨_, rfl, _, rfl, iteF ⟨m1, hb1.1, by omega, y5, t5.less (by omega), rfl⟩⟩
          | true =>
            refine ⟨_, rfl, _, rfl, iteT ?_⟩
            refine ⟨_, _, rfl, rfl, ⟨by decide, by decide, by decide⟩, _, _, rfl, rfl, _, rfl, _, _, rfl, rfl, ⟨by decide, by decide, by decide⟩, ⟨a, M + 128, 10 ^ 12, rfl, t5, by decide, sc _ (by decide) (by decide +kernel), fun v6 H6 g6 l6 x6 t6 => ⟨_, _, rfl, rfl, _, _, rfl, rfl, ⟨by decide, by decide, by decide⟩, (by show 5 ≤ sizeLine; decide), fun p6 hp6 => ?_⟩⟩⟩
            refine ⟨_, rfl, ⟨a, M, 5, rfl, t6.same (Same.new hp6), by decide, sc _ (by decide) (by decide +kernel), fun v7 H7 g7 l7 x7 t7 => ?_⟩⟩
            have e7 : H7 p6 = some (.lst (([2, 60, 10 ^ 9 + 7, 1 + v6, 10 ^ 20] : List Int).map V.int)) := x7 p6 _ (t6.fresh hp6) upd_same
            obtain ⟨m2, ha2, hm2⟩ := at_ints [2, 60, 10 ^ 9 + 7, 1 + v6, 10 ^ 20] g7 l7
            have hb2 : 1 ≤ m2 ∧ m2 ≤ 10 ^ 20 := by
              simp only [List.mem_cons, List.not_mem_nil, or_false] at hm2
              rcases hm2 with e | e | e | e | e <;> omega
            exact ⟨p6, _, v7, _, rfl, rfl, SqL.of e7, ha2, m2, hb2.1, hb2.2, y5.trans (x6.trans ((Ext.new hp6).trans x7)), t7, rfl⟩
        rintro σ H6 ⟨m, hm0, hm1, x6, t6, rfl⟩
        have e6 : H6 p = some (.lst ((ds ++ [l]).map V.int)) := x6 _ _ np e3
        have al : atI ((ds ++ [l]).map V.int) (-1) = some (.int l) := by
          rw [List.map_append]
          exact atI_last _ _
        have hll : l ≤ 10 ^ 59 := by
          have q := hl.2
          cases g with
          | false => exact Int.le_trans q (by decide +kernel)
          | true => exact q
        have sl : Sz 220 l := Sz.le (by omega) hll (Sz.of (by decide +kernel) (by decide +kernel))
        have sm : Sz 100 m := Sz.le (by omega) hm1 (Sz.of (by decide +kernel) (by decide +kernel))
        have pos : 1 ≤ l * m := by
          have q : 1 * 1 ≤ l * m := Int.mul_le_mul hl.1 hm0 (by decide) (by omega)
          omega
        refine ⟨_, rfl, _, rfl, p, _, -1, _, rfl, rfl, SqL.of e6, al, _, rfl, _, _, rfl, rfl, sl.cmul sm (by decide) (by decide) (by decide), ?_⟩
        refine ⟨_, _, rfl, rfl, ⟨by decide, by decide, by decide⟩, (by show 2 ≤ sizeLine; decide), fun p7 hp7 => ?_⟩
        have n7 : p ≠ p7 := ne_of_none e6 hp7
        have e8 : (upd H6 p7 (.lst (([60, 10 ^ 59] : List Int).map V.int))) p = some (.lst ((ds ++ [l]).map V.int)) := by rw [upd_ne n7]; exact e6
        have ag : atI (([60, 10 ^ 59] : List Int).map V.int) (if g = true then 1 else 0) = some (.int (limG g)) := by cases g <;> rfl
        refine ⟨_, rfl, _, rfl, p7, _, _, _, rfl, rfl, SqL.of upd_same, ag, _, _, rfl, rfl, _, rfl, ifD (fun c => ?_) (fun c => ?_)⟩
        · refine ⟨_, rfl, Or.inl ⟨rfl, _, SqL.of e8⟩, _, rfl, _, rfl, p, _, -1, _, rfl, rfl, SqL.of e8, al, _, rfl, _, _, rfl, rfl, sl.cmul sm (by decide) (by decide) (by decide), ?_⟩
          refine ⟨p, _, _, rfl, rfl, e8, ?_, ?_⟩
          · rw [List.length_map]
            exact Nat.lt_of_le_of_lt (show (ds ++ [l]).length ≤ 10 by omega) (by decide)
          · have q := hc.app hd (by omega) pos c
            refine ⟨ds ++ [l], l * m, rfl, by rw [List.length_append]; simp; simp at hlen; omega, q.1, q.2, fun b o nb eb => ?_, ?_, ?_, _, _, rfl⟩
            · have nb2 : b ≠ p := fun z => by
                rw [z, hp0] at eb
                cases eb
              rw [upd_ne nb2, upd_ne (ne_of_none (x6 _ _ nb (x3 b o nb eb)) hp7)]
              exact x6 _ _ nb (x3 b o nb eb)
            · rw [upd_same, (List.map_append : List.map V.int ((ds ++ [l]) ++ [l * m]) = List.map V.int (ds ++ [l]) ++ List.map V.int [l * m])]
              rfl
            · have t8 := t6.same (Same.new (o := .lst (([60, 10 ^ 59] : List Int).map V.int)) hp7)
              obtain ⟨d', m', n', h1, h2⟩ := t8
              have nap : a ≠ p := fun z => np z.symm
              exact ⟨d', m', n', by rw [upd_ne nap]; exact h1, h2⟩
        · exact ⟨ds, l, rfl, by omega, hc, hd, x3.trans (x6.trans (Ext.new hp7)), e8, t6.same (Same.new hp7), _, _, rfl⟩
      · rintro σ H3 ⟨ds, l, _, _, hc, hd, x3, e3, t3, z3, z4, rfl⟩
        exact ⟨_, hc, x3, e3, t3.less (by omega), _, _, rfl⟩
    rintro σ H3 ⟨cs, hc, x3, e3, t3, z3, z4, rfl⟩
    exact ⟨_, rfl, hq p cs H3 hc x3 hp0 e3 t3⟩
end
section
variable {w : World} {K : Frag} {mg : Str → Option Value} {base : Heap}
def sp__law_numbers (K : Frag) : Sp := fun vs H Q E => ∃ (a : Addr) (N : Nat) (pc : Addr) (cs : List Int) (g : Bool), vs = [.ref a, .ref pc, .bl g] ∧ Fd a (N + 8 * 128) H ∧ H pc = some (.lst (cs.map V.int)) ∧ ¬ fdM a pc ∧ ChOk g cs ∧ ∀ (p : Addr) (k : LK) (n : N3) (H' : Hp), NmOk k n → (n.e ∈ cs ∨ n.e = 1) → n.e ≤ limG g → n.r ≤ 10 ^ 59 → (g = false → n.r ≤ 60) → Ext (fdM a) H H' → H p = none → L4 H' p k n → Fd a N H' → Q (.ref p) H'
theorem ok__law_numbers (Z : Zs cks fns K mg) : FnOk PP w K mg base (L2.CX PP w) 2 (ga K "_law_numbers") (fdAt K (ga K "_law_numbers")) ["feed", "chain", "great"] (sp__law_numbers K) := by
  refine L2.Fun.okX (u__law_numbers Z) sc__law_numbers (fun vs H Q E h => ?_) (fun cdv A outer s H vs Q E hr h => ?_)
  · obtain ⟨_, _, _, _, _, rfl, _⟩ := h
    rfl
  · obtain ⟨a, N, pc, cs, g, rfl, ⟨hT, hC, nC, hc, hq⟩⟩ := h
    refine ⟨_, (pss_cons (ps_set (i := 3) sc__law_numbers.nd rfl (Or.inl rfl) (pe_ix ix_list (pe_lst (pa_cons pe_str (pa_cons pe_str (pa_cons pe_str (pa_cons pe_str (pa_cons pe_str pa_nil)))))) (pe_call (ok__law_pick Z) (hr.mono (by decide)) rfl (g__law_pick Z) (u__law_pick Z).kp (b__law_pick Z) .nil passL (pa_cons (pv 0) (pa_cons pe_int pa_nil))) (fun _ _ => rfl)))
      (pss_cons (ps_set (i := 4) sc__law_numbers.nd rfl (Or.inl rfl) (pe_ifExp (pt_cmpR op_eq (pv 3) pe_str (nomark _)) pe_int (pe_ix ix_list (pv 1) (pe_call (ok__law_pick Z) (hr.mono (by decide)) rfl (g__law_pick Z) (u__law_pick Z).kp (b__law_pick Z) .nil passL (pa_cons (pv 0) (pa_cons (pe_callB call_len_seq rfl (n_len Z) (by decide +kernel) (pa_cons (pv 1) pa_nil)) pa_nil))) (fun _ _ => rfl))))
      (pss_cons (ps_set (i := 5) sc__law_numbers.nd rfl (Or.inl rfl) (pe_ix ix_list (pe_lst (pa_cons (pe_call (ok__law_pick Z) (hr.mono (by decide)) rfl (g__law_pick Z) (u__law_pick Z).kp (b__law_pick Z) .nil passL (pa_cons (pv 0) (pa_cons (pv 4) pa_nil))) (pa_cons pe_int (pa_cons (pe_op op_sub (pv 4) pe_int) pa_nil)))) (pe_call (ok__law_pick Z) (hr.mono (by decide)) rfl (g__law_pick Z) (u__law_pick Z).kp (b__law_pick Z) .nil passL (pa_cons (pv 0) (pa_cons pe_int pa_nil))) (fun _ _ => rfl)))
      (pss_cons (ps_set (i := 6) sc__law_numbers.nd rfl (Or.inl rfl) (pe_lst (pa_cons (pe_call (ok__law_pick Z) (hr.mono (by decide)) rfl (g__law_pick Z) (u__law_pick Z).kp (b__law_pick Z) .nil passL (pa_cons (pv 0) (pa_cons (pe_ix ix_list (pe_lst (pa_cons pe_int (pa_cons (pe_op op_pow pe_int pe_int) pa_nil))) (pe_callTy call_int_bl rfl (n_int Z) (by decide +kernel) (pa_cons (pv 2) pa_nil)) (fun _ _ => rfl)) pa_nil))) (pa_cons pe_int (pa_cons (pe_call (ok__law_pick Z) (hr.mono (by decide)) rfl (g__law_pick Z) (u__law_pick Z).kp (b__law_pick Z) .nil passL (pa_cons (pv 0) (pa_cons pe_int pa_nil))) (pa_cons (pv 4) pa_nil))))))
      (pss_one (ps_ret (pe_lst (pa_cons (pv 3) (pa_cons (pv 4) (pa_cons (pv 5) (pa_cons (pe_ifExp (pt_cmpR op_eq (pv 3) pe_str (nomark _)) pe_int (pe_ix ix_list (pv 6) (pe_call (ok__law_pick Z) (hr.mono (by decide)) rfl (g__law_pick Z) (u__law_pick Z).kp (b__law_pick Z) .nil passL (pa_cons (pv 0) (pa_cons pe_int pa_nil))) (fun _ _ => rfl))) pa_nil))))))))))), ?_⟩
    have sc : ∀ z : Int, 1 ≤ z → z ≤ 10 ^ 60 → Sz 4000 z := fun z z0 z1 => Sz.mono (a := 200) (Sz.le (by omega) z1 (Sz.of (by decide +kernel) (by decide +kernel))) (by decide)
    have hlim : limG g ≤ 10 ^ 59 := by cases g <;> decide +kernel
    refine ⟨(by show 5 ≤ sizeLine; decide), fun p1 hp1 => ?_⟩
    refine ⟨_, rfl, ⟨a, N + 7 * 128, 5, rfl, (hT.same (Same.new hp1)).less (by omega), by decide, sc _ (by decide) (by decide +kernel), fun v1 H1 g1 l1 x1 t1 => ?_⟩⟩
    have e1 : H1 p1 = some (.lst [.str (kn .line), .str (kn .line), .str (kn .line), .str (kn .walk), .str (kn .stop)]) := x1 p1 _ (hT.fresh hp1) upd_same
    obtain ⟨kv, ha, hm⟩ := at_mem (xs := ([.str (kn .line), .str (kn .line), .str (kn .line), .str (kn .walk), .str (kn .stop)] : List V)) g1 l1
    have hk : ∃ k : LK, kv = .str (kn k) := by
      simp only [List.mem_cons, List.not_mem_nil, or_false] at hm
      rcases hm with e | e | e | e | e <;> exact ⟨_, e⟩
    obtain ⟨k, rfl⟩ := hk
    refine ⟨p1, _, v1, _, rfl, rfl, SqL.of e1, ha, ?_⟩
    have y1 : Ext (fdM a) H H1 := (Ext.new hp1).trans x1
    have hC1 : H1 pc = some (.lst (cs.map V.int)) := y1 _ _ nC hC
    have hlen : cs ≠ [] := hc.ne
    have hclen : 1 ≤ cs.length := by
      cases cs with
      | nil => exact absurd rfl hlen
      | cons _ _ => simp
    -- the headway
    apply share2 (fun (wide : Int) (H2 : Hp) => 1 ≤ wide ∧ wide ≤ limG g ∧ (wide ∈ cs ∨ wide = 1) ∧ (k = .walk → wide = 1) ∧ Ext (fdM a) H H2 ∧ Fd a (N + 6 * 128) H2)
    · intro rest
      refine ⟨_, rfl, rfl, _, rfl, ifD (fun c => ?w) (fun c => ?o)⟩
      case o =>
        have len : ((cs.length : Nat) : Int) ≤ 10 := by have := hc.len; omega
        refine ⟨_, rfl, _, rfl, _, rfl, pc, _, rfl, .inl (SqL.of hC1), ?_⟩
        rw [List.length_map]
        refine ⟨a, N + 6 * 128, (cs.length : Nat), rfl, t1, by omega, sc _ (by omega) (by omega), fun v2 H2 g2 l2 x2 t2 => ?_⟩
        obtain ⟨wide, ha2, hm2⟩ := at_ints cs g2 l2
        refine ⟨pc, _, v2, _, rfl, rfl, SqL.of (x2 _ _ nC hC1), ha2, ?_⟩
        exact rest wide H2 ⟨(hc.pos wide hm2).1, (hc.pos wide hm2).2, .inl hm2, fun e => absurd (by rw [e]; rfl) c, y1.trans x2, t2⟩
      case w => exact rest 1 H1 ⟨by decide, (by cases g <;> decide +kernel), .inr rfl, fun _ => rfl, y1, t1.less (by omega)⟩
    rintro wide H2 ⟨w1, w2, w3, w4, y2, t2⟩
    -- the departure
    refine ⟨_, rfl, _, rfl, ⟨a, N + 5 * 128, wide, rfl, t2, w1, sc _ w1 (by omega), fun v3 H3 g3 l3 x3 t3 => ?_⟩⟩
    refine ⟨_, rfl, _, _, rfl, rfl, (by show 3 ≤ sizeLine; decide), fun p3 hp3 => ?_⟩
    refine ⟨_, rfl, ⟨a, N + 4 * 128, 3, rfl, t3.same (Same.new hp3), by decide, sc _ (by decide) (by decide +kernel), fun v4 H4 g4 l4 x4 t4 => ?_⟩⟩
    have e4 : H4 p3 = some (.lst (([v3, 0, wide - 1] : List Int).map V.int)) := x4 p3 _ (t3.fresh hp3) upd_same
    obtain ⟨b, hab, hmb⟩ := at_ints [v3, 0, wide - 1] g4 l4
    refine ⟨p3, _, v4, _, rfl, rfl, SqL.of e4, hab, ?_⟩
    have hb : 0 ≤ b ∧ b < wide := by
      simp only [List.mem_cons, List.not_mem_nil, or_false] at hmb
      rcases hmb with e | e | e <;> omega
    have y4 : Ext (fdM a) H H4 := y2.trans (x3.trans ((Ext.new hp3).trans x4))
    -- the rides
    refine ⟨_, rfl, _, _, rfl, rfl, ⟨by decide, by decide, by decide⟩, (by show 2 ≤ sizeLine; decide), fun p5 hp5 => ?_⟩
    obtain ⟨most, ag, mo⟩ : ∃ most, atI (([20, 10 ^ 40] : List Int).map V.int) (if g = true then 1 else 0) = some (.int most) ∧ 1 ≤ most ∧ most ≤ 10 ^ 40 ∧ (g = false → most = 20) := by
      cases g
      · exact ⟨20, rfl, by decide, by decide +kernel, fun _ => rfl⟩
      · exact ⟨10 ^ 40, rfl, by decide +kernel, Int.le_refl _, fun e => nomatch e⟩
    refine ⟨_, rfl, _, rfl, p5, _, _, _, rfl, rfl, SqL.of upd_same, ag, ?_⟩
    refine ⟨a, N + 3 * 128, most, rfl, t4.same (Same.new hp5), mo.1, sc _ mo.1 (by have := mo.2.1; omega), fun v5 H5 g5 l5 x5 t5 => ?_⟩
    refine ⟨_, rfl, ⟨a, N + 2 * 128, 5, rfl, t5, by decide, sc _ (by decide) (by decide +kernel), fun v6 H6 g6 l6 x6 t6 => ?_⟩⟩
    refine ⟨_, rfl, (by show 4 ≤ sizeLine; decide), fun ps hps => ?_⟩
    have y6 : Ext (fdM a) H H6 := y4.trans ((Ext.new hp5).trans (x5.trans x6))
    have y7 : Ext (fdM a) H (upd H6 ps (.lst (([v5, 0, v6, wide] : List Int).map V.int))) := y6.trans (Ext.new hps)
    have t7 := t6.same (Same.new (o := .lst (([v5, 0, v6, wide] : List Int).map V.int)) hps)
    have nps : ¬ fdM a ps := t6.fresh hps
    refine ⟨_, rfl, _, rfl, _, rfl, ?_⟩
    apply share2 (fun (long : Int) (H8 : Hp) => 0 ≤ long ∧ long ≤ 10 ^ 59 ∧ (g = false → long ≤ 60) ∧ (k = .stop → long = 0) ∧ Ext (fdM a) H H8 ∧ Fd a N H8)
    · intro rest
      refine ⟨_, rfl, rfl, _, rfl, ifD (fun c => ?w) (fun c => ?o)⟩
      case o =>
        refine ⟨_, rfl, _, rfl, ⟨a, N + 1 * 128, 4, rfl, t7, by decide, sc _ (by decide) (by decide +kernel), fun v8 H8 g8 l8 x8 t8 => ?_⟩⟩
        have e8 : H8 ps = some (.lst (([v5, 0, v6, wide] : List Int).map V.int)) := x8 ps _ nps upd_same
        obtain ⟨long, hal, hml⟩ := at_ints [v5, 0, v6, wide] g8 l8
        refine ⟨ps, _, v8, _, rfl, rfl, SqL.of e8, hal, ?_⟩
        have hlg : 0 ≤ long ∧ long ≤ 10 ^ 59 := by
          have q := mo.2.1
          simp only [List.mem_cons, List.not_mem_nil, or_false] at hml
          rcases hml with e | e | e | e <;> omega
        have hls : g = false → long ≤ 60 := by
          intro e
          have q := mo.2.2 e
          subst e
          have w2' : wide ≤ 60 := w2
          simp only [List.mem_cons, List.not_mem_nil, or_false] at hml
          rcases hml with e | e | e | e <;> omega
        exact rest long H8 ⟨hlg.1, hlg.2, hls, fun e => absurd (by rw [e]; rfl) c, y7.trans x8, t8.less (by omega)⟩
      case w => exact rest 0 _ ⟨by decide, by decide +kernel, fun _ => by decide, fun _ => rfl, y7, t7.less (by omega)⟩
    rintro long H8 ⟨z1, z2, z3, z4, y8, t8⟩
    refine ⟨(by show 4 ≤ sizeLine; decide), fun p hp => ?_⟩
    refine hq p k ⟨wide, b, long⟩ _ ⟨⟨w1, hb.1, hb.2, z1⟩, fun e => ⟨w4 e, ?_⟩, z4⟩ w3 w2 z2 z3 (y8.trans (Ext.new hp)) (y8.back (t8.fresh hp) hp) upd_same (t8.same (Same.new hp))
    have := w4 e
    show b = 0
    omega
def sp__law_made (K : Frag) : Sp := fun vs H Q E => ∃ (p : Addr) (k : LK) (n : N3), vs = [.ref p] ∧ L4 H p k n ∧ NmOk k n ∧ ∀ (q : Addr) (H' : Hp), Same H H' → H q = none → LnAt K H' q k n → Q (.ref q) H'
theorem ok__law_made (Z : Zs cks fns K mg) : FnOk PP w K mg base (L2.CX PP w) 6 (ga K "_law_made") (fdAt K (ga K "_law_made")) ["numbers"] (sp__law_made K) := by
  refine L2.Fun.okX (u__law_made Z) sc__law_made (fun vs H Q E h => ?_) (fun cdv A outer s H vs Q E hr h => ?_)
  · obtain ⟨_, _, _, rfl, _⟩ := h
    rfl
  · obtain ⟨p, k, n, rfl, ⟨hT, hok, hq⟩⟩ := h
    refine ⟨_, (pss_cons (ps_asg (pv 0) (pg_lst rfl (pgs_cons (pg_name (i := 1) sc__law_made.nd rfl (Or.inl rfl)) (pgs_cons (pg_name (i := 2) sc__law_made.nd rfl (Or.inl rfl)) (pgs_cons (pg_name (i := 3) sc__law_made.nd rfl (Or.inl rfl)) (pgs_cons (pg_name (i := 4) sc__law_made.nd rfl (Or.inl rfl)) pgs_nil))))))
      (pss_cons (ps_if (pt_cmpR op_eq (pv 1) pe_str (nomark _))
        (pss_one (ps_ret (pe_make (M_Walk Z) (ok_Walk_init Z) (hr.mono (by decide)) rfl (g_Walk Z) (b_Walk_init Z) .nil passL (pa_cons (pv 4) pa_nil))))
        pss_nil)
      (pss_one (ps_ret (pe_ifExp (pt_cmpR op_eq (pv 1) pe_str (nomark _)) (pe_make (M_Stop Z) (ok_Stop_init Z) (hr.mono (by decide)) rfl (g_Stop Z) (b_Stop_init Z) .nil passL (pa_cons (pv 2) (pa_cons (pv 3) pa_nil))) (pe_make (M_Line Z) (ok_Line_init Z) (hr.mono (by decide)) rfl (g_Line Z) (b_Line_init Z) .nil passL (pa_cons (pv 2) (pa_cons (pv 3) (pa_cons (pv 4) pa_nil))))))))), ?_⟩
    obtain ⟨e, l, r⟩ := n
    obtain ⟨⟨h1, h2, h3, h4⟩, hw, hs⟩ := id hok
    have g1 : 1 ≤ e := h1
    have g2 : 0 ≤ l := h2
    have g3 : l < e := h3
    have g4 : 0 ≤ r := h4
    refine ⟨_, rfl, p, _, rfl, SqL.of hT, rfl, _, _, rfl, _, _, rfl, _, _, rfl, _, _, rfl, rfl, ?_⟩
    refine ⟨_, rfl, rfl, _, rfl, ifD (fun c => ?_) (fun c => ?_)⟩
    · obtain rfl := kn_walk c
      obtain ⟨e1, l0⟩ := hw rfl
      have e1 : e = 1 := e1
      have l0 : l = 0 := l0
      subst e1 l0
      refine ⟨_, rfl, fun x dx hx hd hne => ?_⟩
      exact ⟨x, dx, r, rfl, g4, upd_same, rfl, hq x _ (mk_same hx hd) hx ⟨dx, upd_same⟩⟩
    refine ⟨_, rfl, rfl, _, rfl, ifD (fun d => ?_) (fun d => ?_)⟩
    · obtain rfl := kn_stop d
      have r0 : r = 0 := hs rfl
      subst r0
      refine ⟨_, rfl, _, rfl, fun x dx hx hd hne => ?_⟩
      exact ⟨x, dx, e, l, rfl, g1, g2, g3, upd_same, rfl, hq x _ (mk_same hx hd) hx ⟨dx, upd_same⟩⟩
    · have kl : k = .line := by
        cases k with
        | line => rfl
        | walk => exact absurd rfl c
        | stop => exact absurd rfl d
      subst kl
      refine ⟨_, rfl, _, rfl, _, rfl, fun x dx hx hd hne => ?_⟩
      exact ⟨.line, x, dx, ⟨e, l, r⟩, rfl, hok.ok, upd_same, rfl, hq x _ (mk_same hx hd) hx ⟨dx, upd_same⟩⟩
def sp__law_moment (K : Frag) : Sp := fun vs H Q E => ∃ (a : Addr) (N : Nat) (g : Bool), vs = [.ref a, .bl g] ∧ Fd a (N + 2 * 128) H ∧ ∀ (v : Int) (H' : Hp), -(10 ^ 59) ≤ v → v ≤ 10 ^ 59 → (g = false → -150 ≤ v ∧ v < 150) → Ext (fdM a) H H' → Fd a N H' → Q (.int v) H'
theorem ok__law_moment (Z : Zs cks fns K mg) : FnOk PP w K mg base (L2.CX PP w) 2 (ga K "_law_moment") (fdAt K (ga K "_law_moment")) ["feed", "great"] (sp__law_moment K) := by
  refine L2.Fun.okX (u__law_moment Z) sc__law_moment (fun vs H Q E h => ?_) (fun cdv A outer s H vs Q E hr h => ?_)
  · obtain ⟨_, _, _, rfl, _⟩ := h
    rfl
  · obtain ⟨a, N, g, rfl, ⟨hT, hq⟩⟩ := h
    refine ⟨_, (pss_one (ps_ret (pe_ix ix_list (pe_lst (pa_cons (pe_op op_sub (pe_call (ok__law_pick Z) (hr.mono (by decide)) rfl (g__law_pick Z) (u__law_pick Z).kp (b__law_pick Z) .nil passL (pa_cons (pv 0) (pa_cons pe_int pa_nil))) pe_int) (pa_cons (pe_op op_sub (pe_call (ok__law_pick Z) (hr.mono (by decide)) rfl (g__law_pick Z) (u__law_pick Z).kp (b__law_pick Z) .nil passL (pa_cons (pv 0) (pa_cons (pe_op op_pow pe_int pe_int) pa_nil))) (pe_op op_mul pe_int (pe_op op_pow pe_int pe_int))) pa_nil))) (pe_callTy call_int_bl rfl (n_int Z) (by decide +kernel) (pa_cons (pv 1) pa_nil)) (fun _ _ => rfl)))), ?_⟩
    have sc : ∀ z : Int, 1 ≤ z → z ≤ 10 ^ 60 → Sz 4000 z := fun z z0 z1 => Sz.mono (a := 200) (Sz.le (by omega) z1 (Sz.of (by decide +kernel) (by decide +kernel))) (by decide)
    refine ⟨_, rfl, ⟨a, N + 128, 300, rfl, hT, by decide, sc _ (by decide) (by decide +kernel), fun v1 H1 g1 l1 x1 t1 => ⟨_, _, rfl, rfl, ?_⟩⟩⟩
    refine ⟨_, rfl, _, _, rfl, rfl, ⟨by decide, by decide, by decide⟩, ⟨a, N, 10 ^ 59, rfl, t1, by decide +kernel, sc _ (by decide +kernel) (by decide +kernel), fun v2 H2 g2 l2 x2 t2 => ?_⟩⟩
    refine ⟨_, _, rfl, rfl, ⟨by decide, by decide, by decide⟩, _, _, rfl, rfl, .inl ⟨by decide, by decide⟩, _, _, rfl, rfl, (by show 2 ≤ sizeLine; decide), fun p hp => ?_⟩
    have y : Ext (fdM a) H (upd H2 p (.lst (([v1 - 150, v2 - 3 * 10 ^ 58] : List Int).map V.int))) := x1.trans (x2.trans (Ext.new hp))
    have t := t2.same (Same.new (o := .lst (([v1 - 150, v2 - 3 * 10 ^ 58] : List Int).map V.int)) hp)
    cases g with
    | false => exact ⟨_, rfl, _, rfl, p, _, 0, _, rfl, rfl, SqL.of upd_same, at0, hq (v1 - 150) _ (by omega) (by omega) (fun _ => by omega) y t⟩
    | true => exact ⟨_, rfl, _, rfl, p, _, 1, _, rfl, rfl, SqL.of upd_same, rfl, hq (v2 - 3 * 10 ^ 58) _ (by omega) (by omega) (fun e => nomatch e) y t⟩
end
section
variable {w : World} {K : Frag} {mg : Str → Option Value} {base : Heap}
def addN (x y : N3) : N3 :=
  if y.e ≤ x.e then ⟨x.e, x.a, x.r + (y.a - x.a - x.r) % (if y.e < x.e then y.e else x.e) + y.r⟩
  else ⟨y.e, (y.a - (x.r + (y.a - x.a - x.r) % (if y.e < x.e then y.e else x.e))) % y.e, x.r + (y.a - x.a - x.r) % (if y.e < x.e then y.e else x.e) + y.r⟩
theorem eqv3 (a b c : Int) : PyData.eqv (.tuple [.int a, .int b, .int c]) (.tuple [.int a, .int b, .int c]) = true := by
  simp [PyData.eqv, PyData.eqvAll]
theorem shaped3 (a b c : Int) : SeqAt.shaped (.tuple [.int a, .int b, .int c]) = true := by
  unfold SeqAt.shaped
  simp only [PyData.canLay0, PyData.canLayAll0, PyData.depth, PyData.depthAll, Bool.true_and, Bool.and_true]
  exact decide_eq_true (by omega)
theorem rl_RR {n : N3} (h : 0 < n.e) (m : Int) : rl ⟨n.e, n.a, RR n m⟩ = m * rl n := by
  show RR n m + (0 - RR n m) % n.e = m * rl n
  rw [RR_mod h]
  have e : rl n = n.r + (0 - n.r) % n.e := rfl
  have q : (m - 1) * rl n = m * rl n - rl n := by rw [Int.sub_mul, Int.one_mul]
  unfold RR
  omega
theorem RR_RR {n : N3} (h : 0 < n.e) (m j : Int) : RR ⟨n.e, n.a, RR n m⟩ j = RR n (m * j) := by
  show (j - 1) * rl ⟨n.e, n.a, RR n m⟩ + RR n m = RR n (m * j)
  rw [rl_RR h]
  unfold RR
  have q1 : (j - 1) * (m * rl n) = m * j * rl n - m * rl n := by rw [Int.sub_mul, Int.one_mul, ← Int.mul_assoc, Int.mul_comm j m]
  have q2 : (m - 1) * rl n = m * rl n - rl n := by rw [Int.sub_mul, Int.one_mul]
  have q3 : (m * j - 1) * rl n = m * j * rl n - rl n := by rw [Int.sub_mul, Int.one_mul]
  omega
theorem addN_RR (n : N3) (h : 1 ≤ n.e) (m j : Int) : addN ⟨n.e, n.a, RR n m⟩ ⟨n.e, n.a, RR n j⟩ = ⟨n.e, n.a, RR n (m + j)⟩ := by
  unfold addN
  rw [if_pos (Int.le_refl _), if_neg (Int.lt_irrefl _)]
  show (⟨n.e, n.a, RR n m + (n.a - n.a - RR n m) % n.e + RR n j⟩ : N3) = _
  rw [Int.sub_self, RR_add (by omega) m j]
theorem addN_same (n : N3) (h : 1 ≤ n.e) (m : Int) : addN ⟨n.e, n.a, RR n m⟩ n = ⟨n.e, n.a, RR n (m + 1)⟩ := by
  unfold addN
  rw [if_pos (Int.le_refl _), if_neg (Int.lt_irrefl _)]
  show (⟨n.e, n.a, RR n m + (n.a - n.a - RR n m) % n.e + n.r⟩ : N3) = _
  have r1 : RR n 1 = n.r := by
    unfold RR
    simp
  rw [Int.sub_self, ← RR_add (by omega) m 1, r1]
theorem addN_ok {x y : N3} (ox : x.ok) (oy : y.ok) : (addN x y).ok := by
  obtain ⟨x1, x2, x3, x4⟩ := ox
  obtain ⟨y1, y2, y3, y4⟩ := oy
  have lp : 0 < (if y.e < x.e then y.e else x.e) := by split <;> omega
  have m0 := Int.emod_nonneg (y.a - x.a - x.r) (show (if y.e < x.e then y.e else x.e) ≠ 0 by omega)
  unfold addN
  by_cases c : y.e ≤ x.e
  · rw [if_pos c]
    exact ⟨x1, x2, x3, by show 0 ≤ x.r + (y.a - x.a - x.r) % (if y.e < x.e then y.e else x.e) + y.r; omega⟩
  · rw [if_neg c]
    exact ⟨y1, Int.emod_nonneg _ (by omega), Int.emod_lt_of_pos _ (by omega), by show 0 ≤ x.r + (y.a - x.a - x.r) % (if y.e < x.e then y.e else x.e) + y.r; omega⟩
def sp_fit (K : Frag) : Sp := fun vs H Q E => ∃ (x : Int) (y : Int), vs = [.int x, .int y] ∧ 1 ≤ x ∧ 1 ≤ y ∧ (x ∣ y ∨ y ∣ x) ∧ Q (.bl true) H
theorem ok_fit (Z : Zs cks fns K mg) : FnOk PP w K mg base (L2.CX PP w) 1 (ga K "fit") (fdAt K (ga K "fit")) ["every", "other_every"] (sp_fit K) := by
  refine L2.Fun.okX (u_fit Z) sc_fit (fun vs H Q E h => ?_) (fun cdv A outer s H vs Q E hr h => ?_)
  · obtain ⟨_, _, rfl, _⟩ := h
    rfl
  · obtain ⟨x, y, rfl, ⟨hx, hy, hd, hq⟩⟩ := h
    refine ⟨_, (pss_one (ps_ret (pe_or (pe_cmpR op_eq (pe_op op_mod (pv 0) (pv 1)) pe_int (nomark _)) (pe_one (pe_cmpR op_eq (pe_op op_mod (pv 1) (pv 0)) pe_int (nomark _)))))), ?_⟩
    refine ⟨_, rfl, _, rfl, _, _, rfl, rfl, (by show 0 < y; omega), rfl, ?_⟩
    by_cases c : x % y = 0
    · rw [decide_eq_true (congrArg V.int c)]
      exact ⟨_, rfl, iteT hq⟩
    · rw [decide_eq_false (fun z => c (V.int.inj z))]
      refine ⟨_, rfl, iteF ⟨_, rfl, _, rfl, _, _, rfl, rfl, (by show 0 < x; omega), rfl, qT (congrArg V.int ?_) hq⟩⟩
      rcases hd with d | d
      · exact Int.emod_eq_zero_of_dvd d
      · exact absurd (Int.emod_eq_zero_of_dvd d) c
def sp_taken_after (K : Frag) : Sp := fun vs H Q E => ∃ (p : Addr) (x : N3) (q : Addr) (y : N3), vs = [.ref p, .ref q] ∧ T3 H p x ∧ T3 H q y ∧ x.ok ∧ y.ok ∧ ∀ (r : Addr) (H' : Hp), Same H H' → T3 H' r (addN x y) → Q (.ref r) H'
theorem ok_taken_after (Z : Zs cks fns K mg) : FnOk PP w K mg base (L2.CX PP w) 1 (ga K "taken_after") (fdAt K (ga K "taken_after")) ["first", "second"] (sp_taken_after K) := by
  refine L2.Fun.okX (u_taken_after Z) sc_taken_after (fun vs H Q E h => ?_) (fun cdv A outer s H vs Q E hr h => ?_)
  · obtain ⟨_, _, _, _, rfl, _⟩ := h
    rfl
  · obtain ⟨p, x, q, y, rfl, ⟨hx, hy, ox, oy, hq⟩⟩ := h
    refine ⟨_, (pss_cons (ps_asg (pv 0) (pg_tup rfl (pgs_cons (pg_name (i := 2) sc_taken_after.nd rfl (Or.inl rfl)) (pgs_cons (pg_name (i := 3) sc_taken_after.nd rfl (Or.inl rfl)) (pgs_cons (pg_name (i := 4) sc_taken_after.nd rfl (Or.inl rfl)) pgs_nil)))))
      (pss_cons (ps_asg (pv 1) (pg_tup rfl (pgs_cons (pg_name (i := 5) sc_taken_after.nd rfl (Or.inl rfl)) (pgs_cons (pg_name (i := 6) sc_taken_after.nd rfl (Or.inl rfl)) (pgs_cons (pg_name (i := 7) sc_taken_after.nd rfl (Or.inl rfl)) pgs_nil)))))
      (pss_cons (ps_set (i := 8) sc_taken_after.nd rfl (Or.inl rfl) (pe_callB (call_min2 rfl) rfl (n_min Z) (by decide +kernel) (pa_cons (pv 2) (pa_cons (pv 5) pa_nil))))
      (pss_cons (ps_set (i := 9) sc_taken_after.nd rfl (Or.inl rfl) (pe_op op_add (pv 4) (pe_op op_mod (pe_op op_sub (pe_op op_sub (pv 6) (pv 3)) (pv 4)) (pv 8))))
      (pss_cons (ps_if (pt_cmpR op_le (pv 5) (pv 2) (nomark _))
        (pss_one (ps_ret (pe_tup (pa_cons (pv 2) (pa_cons (pv 3) (pa_cons (pe_op op_add (pv 9) (pv 7)) pa_nil))))))
        pss_nil)
      (pss_one (ps_ret (pe_tup (pa_cons (pv 5) (pa_cons (pe_op op_mod (pe_op op_sub (pv 6) (pv 9)) (pv 5)) (pa_cons (pe_op op_add (pv 9) (pv 7)) pa_nil))))))))))), ?_⟩
    obtain ⟨xe, xa, xr⟩ := x
    obtain ⟨ye, ya, yr⟩ := y
    have x1 : 1 ≤ xe := ox.1
    have y1 : 1 ≤ ye := oy.1
    refine ⟨_, rfl, p, _, rfl, SqT.of hx, rfl, _, _, rfl, _, _, rfl, _, _, rfl, rfl, ?_⟩
    refine ⟨_, rfl, q, _, rfl, SqT.of hy, rfl, _, _, rfl, _, _, rfl, _, _, rfl, rfl, ?_⟩
    refine ⟨_, rfl, _, rfl, _, _, rfl, ?_⟩
    have lp : 0 < (if ye < xe then ye else xe) := by split <;> omega
    refine ⟨_, rfl, _, rfl, _, rfl, _, _, rfl, rfl, _, rfl, _, _, rfl, rfl, _, rfl, _, _, rfl, rfl, lp, _, _, rfl, rfl, ?_⟩
    refine ⟨_, rfl, _, rfl, _, _, rfl, rfl, _, rfl, ifD (fun c => ?_) (fun c => ?_)⟩
    · refine ⟨_, rfl, _, rfl, _, rfl, _, rfl, _, _, rfl, rfl, (by show 3 ≤ sizeLine; decide), fun r hr3 => ?_⟩
      refine hq r _ (Same.new hr3) ?_
      unfold addN
      rw [if_pos c]
      exact upd_same
    · refine ⟨_, rfl, _, rfl, _, rfl, _, _, rfl, rfl, _, rfl, _, _, rfl, rfl, (by show 0 < ye; omega), _, rfl, _, rfl, _, _, rfl, rfl, (by show 3 ≤ sizeLine; decide), fun r hr3 => ?_⟩
      refine hq r _ (Same.new hr3) ?_
      unfold addN
      rw [if_neg c]
      exact upd_same
def sp_Line_add (K : Frag) : Sp := fun vs H Q E => ∃ (a : Addr) (k : LK) (n : N3) (b : Addr) (j : LK) (m : N3), vs = [.ref a, .ref b] ∧ LnAt K H a k n ∧ LnAt K H b j m ∧ n.ok ∧ m.ok ∧ (n.e ∣ m.e ∨ m.e ∣ n.e) ∧ ∀ (r : Addr) (H' : Hp), Same H H' → LnAt K H' r .line (addN n m) → Q (.ref r) H'
theorem ok_Line_add (Z : Zs cks fns K mg) : FnOk PP w K mg base (L2.CX PP w) 5 (ma K (ga K "Line") "__add__") (fdAt K (ma K (ga K "Line") "__add__")) ["self", "other"] (sp_Line_add K) := by
  refine L2.Fun.okX (u_Line_add Z) sc_Line_add (fun vs H Q E h => ?_) (fun cdv A outer s H vs Q E hr h => ?_)
  · obtain ⟨_, _, _, _, _, _, rfl, _⟩ := h
    rfl
  · obtain ⟨a, k, n, b, j, m, rfl, ⟨hA, hB, ok, om, hd, hq⟩⟩ := h
    refine ⟨_, (pss_cons (ps_if (pt_not (pt_val (pe_callB call_isi rfl (n_isinstance Z) (by decide +kernel) (pa_cons (pv 1) (pa_cons (pe_glob (v := .ref (ga K "Line")) rfl (g_Line Z) rfl) pa_nil)))))
        (pss_one ps_never)
        pss_nil)
      (pss_cons (ps_if (pt_not (pt_val (pe_call (ok_fit Z) (hr.mono (by decide)) rfl (g_fit Z) (u_fit Z).kp (b_fit Z) .nil passL (pa_cons (pe_fld (pv 0) rfl) (pa_cons (pe_fld (pv 1) rfl) pa_nil)))))
        (pss_one ps_never)
        pss_nil)
      (pss_cons (ps_set (i := 2) sc_Line_add.nd rfl (Or.inl rfl) (pe_tup (pa_cons (pe_fld (pv 0) rfl) (pa_cons (pe_fld (pv 0) rfl) (pa_cons (pe_fld (pv 0) rfl) pa_nil)))))
      (pss_cons (ps_asg (pe_call (ok_taken_after Z) (hr.mono (by decide)) rfl (g_taken_after Z) (u_taken_after Z).kp (b_taken_after Z) .nil passL (pa_cons (pv 2) (pa_cons (pe_tup (pa_cons (pe_fld (pv 1) rfl) (pa_cons (pe_fld (pv 1) rfl) (pa_cons (pe_fld (pv 1) rfl) pa_nil)))) pa_nil))) (pg_tup rfl (pgs_cons (pg_name (i := 3) sc_Line_add.nd rfl (Or.inl rfl)) (pgs_cons (pg_name (i := 4) sc_Line_add.nd rfl (Or.inl rfl)) (pgs_cons (pg_name (i := 5) sc_Line_add.nd rfl (Or.inl rfl)) pgs_nil)))))
      (pss_one (ps_ret (pe_make (M_Line Z) (ok_Line_init Z) (hr.mono (by decide)) rfl (g_Line Z) (b_Line_init Z) .nil passL (pa_cons (pv 3) (pa_cons (pv 4) (pa_cons (pv 5) pa_nil)))))))))), ?_⟩
    obtain ⟨dx, hA'⟩ := id hA
    obtain ⟨dy, hB'⟩ := id hB
    refine ⟨_, rfl, _, _, _, _, true, rfl, .own _, (tyL Z j).line (lnF Z) hB, kitL Z j, _, rfl, iteF ?_⟩
    refine ⟨_, rfl, a, _, dx, _, _, rfl, hA', (lnF Z).cls k, (lnF Z).nE k, lf_e n, _, rfl, b, _, dy, _, _, rfl, hB', (lnF Z).cls j, (lnF Z).nE j, lf_e m, ?_⟩
    refine ⟨n.e, m.e, rfl, ok.1, om.1, hd, _, rfl, iteF ?_⟩
    refine ⟨_, rfl, a, _, dx, _, _, rfl, hA', (lnF Z).cls k, (lnF Z).nE k, lf_e n, _, rfl, a, _, dx, _, _, rfl, hA', (lnF Z).cls k, (lnF Z).nA k, lf_a n, _, rfl, a, _, dx, _, _, rfl, hA', (lnF Z).cls k, (lnF Z).nR k, lf_r n, (by show 3 ≤ sizeLine; decide), fun p1 hp1 => ?_⟩
    have s1 := Same.new (o := .tup [.int n.e, .int n.a, .int n.r]) hp1
    have hB1 := s1 _ _ hB'
    refine ⟨_, rfl, _, rfl, b, _, dy, _, _, rfl, hB1, (lnF Z).cls j, (lnF Z).nE j, lf_e m, _, rfl, b, _, dy, _, _, rfl, hB1, (lnF Z).cls j, (lnF Z).nA j, lf_a m, _, rfl, b, _, dy, _, _, rfl, hB1, (lnF Z).cls j, (lnF Z).nR j, lf_r m, (by show 3 ≤ sizeLine; decide), fun p2 hp2 => ?_⟩
    have s2 := Same.new (o := .tup [.int m.e, .int m.a, .int m.r]) hp2
    refine ⟨p1, n, p2, m, rfl, s2 _ _ upd_same, upd_same, ok, om, fun r H3 s3 h3 => ?_⟩
    refine ⟨r, _, rfl, SqT.of h3, rfl, _, _, rfl, _, _, rfl, _, _, rfl, rfl, ?_⟩
    refine ⟨_, rfl, _, rfl, _, rfl, fun x dxx hx hdx hne => ?_⟩
    exact ⟨.line, x, dxx, addN n m, rfl, addN_ok ok om, upd_same, rfl, hq x _ ((s1.trans (s2.trans s3)).trans (mk_same hx hdx)) ⟨dxx, upd_same⟩⟩
def sp_Line_mul (K : Frag) : Sp := fun vs H Q E => ∃ (a : Addr) (k : LK) (n : N3) (i : Int), vs = [.ref a, .int i] ∧ LnAt K H a k n ∧ n.ok ∧ 1 ≤ i ∧ i ≤ 10 ^ 30 ∧ Sz 2000 (rl n) ∧ ∀ (r : Addr) (H' : Hp), Same H H' → LnAt K H' r .line ⟨n.e, n.a, RR n i⟩ → Q (.ref r) H'
theorem ok_Line_mul (Z : Zs cks fns K mg) : FnOk PP w K mg base (L2.CX PP w) 5 (ma K (ga K "Line") "__mul__") (fdAt K (ma K (ga K "Line") "__mul__")) ["self", "number"] (sp_Line_mul K) := by
  refine L2.Fun.okX (u_Line_mul Z) sc_Line_mul (fun vs H Q E h => ?_) (fun cdv A outer s H vs Q E hr h => ?_)
  · obtain ⟨_, _, _, _, rfl, _⟩ := h
    rfl
  · obtain ⟨a, k, n, i, rfl, ⟨hA, ok, i1, i2, sz, hq⟩⟩ := h
    refine ⟨_, (pss_cons (ps_if (PW.pt (pw_or (pt_not (pt_val (pe_call (ok_is_integer Z) (hr.mono (by decide)) rfl (g_is_integer Z) (u_is_integer Z).kp (b_is_integer Z) .nil passL (pa_cons (pv 1) pa_nil)))) (pw_or1 (pt_not (pt_chain op_le op_le pe_int (pv 1) (C8.pe_gc rfl (i_MOST_ROUNDS Z)))))))
        (pss_one ps_never)
        pss_nil)
      (pss_cons (ps_set (i := 2) sc_Line_mul.nd rfl (Or.inl rfl) (pe_op op_add (pe_fld (pv 0) rfl) (pe_op op_mod (pe_op op_sub pe_int (pe_fld (pv 0) rfl)) (pe_fld (pv 0) rfl))))
      (pss_one (ps_ret (pe_make (M_Line Z) (ok_Line_init Z) (hr.mono (by decide)) rfl (g_Line Z) (b_Line_init Z) .nil passL (pa_cons (pe_fld (pv 0) rfl) (pa_cons (pe_fld (pv 0) rfl) (pa_cons (pe_op op_add (pe_op op_mulW (pe_op op_sub (pv 1) pe_int) (pv 2)) (pe_fld (pv 0) rfl)) pa_nil)))))))), ?_⟩
    obtain ⟨dx, hA'⟩ := id hA
    refine ⟨_, rfl, ⟨.int i, .type "int", true, false, rfl, .base (.int _), kit_ty (by decide +kernel), kit_ty (by decide +kernel), _, rfl, iteF ?_⟩⟩
    refine ⟨_, rfl, _, _, rfl, rfl, _, rfl, ifT i1 ⟨_, _, rfl, rfl, _, rfl, iteNS i2 ?_⟩⟩
    have ok' : N3.ok ⟨n.e, n.a, RR n i⟩ := by
      obtain ⟨h1, h2, h3, h4⟩ := ok
      have hrl := rl_nn ⟨h1, h2, h3, h4⟩
      refine ⟨h1, h2, h3, ?_⟩
      show 0 ≤ (i - 1) * rl n + n.r
      have q : 0 ≤ (i - 1) * rl n := Int.mul_nonneg (by omega) (by omega)
      omega
    have si : Sz 2000 (i - 1) := Sz.mono (a := 200) (Sz.le (by omega) (show i - 1 ≤ 10 ^ 30 by omega) (Sz.of (by decide +kernel) (by decide +kernel))) (by decide)
    refine ⟨_, rfl, a, _, dx, _, _, rfl, hA', (lnF Z).cls k, (lnF Z).nR k, lf_r n, _, rfl, a, _, dx, _, _, rfl, hA', (lnF Z).cls k, (lnF Z).nR k, lf_r n, _, _, rfl, rfl, _, rfl, a, _, dx, _, _, rfl, hA', (lnF Z).cls k, (lnF Z).nE k, lf_e n, _, _, rfl, rfl, (by show 0 < n.e; have := ok.1; omega), _, _, rfl, rfl, ?_⟩
    refine ⟨_, rfl, a, _, dx, _, _, rfl, hA', (lnF Z).cls k, (lnF Z).nE k, lf_e n, _, rfl, a, _, dx, _, _, rfl, hA', (lnF Z).cls k, (lnF Z).nA k, lf_a n, _, rfl, _, _, rfl, rfl, _, rfl, _, _, rfl, rfl, si.cmul sz (by decide) (by decide) (by decide), _, rfl, a, _, dx, _, _, rfl, hA', (lnF Z).cls k, (lnF Z).nR k, lf_r n, _, _, rfl, rfl, fun x dxx hx hdx hne => ?_⟩
    exact ⟨.line, x, dxx, ⟨n.e, n.a, RR n i⟩, rfl, ok', upd_same, rfl, hq x _ (mk_same hx hdx) ⟨dxx, upd_same⟩⟩
end
section
variable {w : World} {K : Frag} {mg : Str → Option Value} {base : Heap}
/-- the greatest difference of the arrivals -/
def ldN (x y : N3) : Int :=
  if y.e % x.e = 0 then (x.a - y.a) % x.e + x.r - y.r
  else y.e * (x.e / y.e - (if (y.a - x.a) % y.e = 0 then 1 else 0)) - (y.a - x.a) % y.e - y.r + x.r
def arN (x : N3) (t : Int) : Int := dep x t + x.r
theorem ar_diff (x y : N3) (t : Int) : arN x t - arN y t = (x.a - t) % x.e - (y.a - t) % y.e + x.r - y.r := by
  unfold arN dep
  omega
theorem emod_add_le {a b m : Int} (hm : 0 < m) (hb : 0 ≤ b) : (a + b) % m ≤ a % m + b := by
  have e1 := Int.emod_add_mul_ediv a m
  have n1 := Int.emod_nonneg a (show m ≠ 0 by omega)
  rw [show a + b = (a % m + b) + m * (a / m) by omega, Int.add_mul_emod_self_left]
  have n2 : 0 ≤ (a % m + b) / m := Int.ediv_nonneg (by omega) (by omega)
  have e2 := Int.emod_add_mul_ediv (a % m + b) m
  have n3 : 0 ≤ m * ((a % m + b) / m) := Int.mul_nonneg (by omega) n2
  omega
theorem ld_le {x y : N3} (ox : x.ok) (oy : y.ok) (hd : x.e ∣ y.e ∨ y.e ∣ x.e) (t : Int) : arN x t - arN y t ≤ ldN x y := by
  have x1 := ox.1
  have y1 := oy.1
  rw [ar_diff]
  unfold ldN
  by_cases c : y.e % x.e = 0
  · rw [if_pos c]
    obtain ⟨k, ek⟩ := Int.dvd_of_emod_eq_zero c
    have u0 := Int.emod_nonneg (y.a - t) (show y.e ≠ 0 by omega)
    have ue := Int.emod_add_mul_ediv (y.a - t) y.e
    have q := emod_add_le (a := x.a - y.a) (b := (y.a - t) % y.e) (show 0 < x.e by omega) u0
    have e : (x.a - y.a + (y.a - t) % y.e) % x.e = (x.a - t) % x.e := by
      rw [show x.a - y.a + (y.a - t) % y.e = (x.a - t) + x.e * (-(k * ((y.a - t) / y.e))) by
        rw [Int.mul_neg, ← Int.mul_assoc, ← ek]
        omega]
      exact Int.add_mul_emod_self_left ..
    omega
  · rw [if_neg c]
    have dv : y.e ∣ x.e := by
      rcases hd with d | d
      · exact absurd (Int.emod_eq_zero_of_dvd d) c
      · exact d
    obtain ⟨k, ek⟩ := dv
    have w0 := Int.emod_nonneg (x.a - t) (show x.e ≠ 0 by omega)
    have w1 := Int.emod_lt_of_pos (x.a - t) (show 0 < x.e by omega)
    have we := Int.emod_add_mul_ediv (x.a - t) x.e
    have s0 := Int.emod_nonneg (y.a - x.a) (show y.e ≠ 0 by omega)
    have s1 := Int.emod_lt_of_pos (y.a - x.a) (show 0 < y.e by omega)
    have se := Int.emod_add_mul_ediv (y.a - x.a) y.e
    have e : (y.a - t) % y.e = ((y.a - x.a) % y.e + (x.a - t) % x.e) % y.e := by
      rw [show y.a - t = ((y.a - x.a) % y.e + (x.a - t) % x.e) + y.e * ((y.a - x.a) / y.e + k * ((x.a - t) / x.e)) by
        rw [Int.mul_add, ← Int.mul_assoc, ← ek]
        omega]
      exact Int.add_mul_emod_self_left ..
    rw [e]
    generalize (x.a - t) % x.e = w at *
    generalize (y.a - x.a) % y.e = s at *
    have fe := Int.emod_add_mul_ediv (s + w) y.e
    have xk : x.e / y.e = k := by rw [ek]; exact Int.mul_ediv_cancel_left _ (by omega)
    rw [xk]
    have top : (s + w) / y.e ≤ k - (if s = 0 then 1 else 0) := by
      split
      · rename_i z
        have : (s + w) / y.e < k := Int.ediv_lt_of_lt_mul (by omega) (by rw [Int.mul_comm, ← ek]; omega)
        omega
      · have : (s + w) / y.e < k + 1 := Int.ediv_lt_of_lt_mul (by omega) (by rw [Int.mul_comm, Int.mul_add, ← ek]; omega)
        omega
    have := Int.mul_le_mul_of_nonneg_left top (show 0 ≤ y.e by omega)
    omega
theorem ld_at {x y : N3} (ox : x.ok) (oy : y.ok) (hd : x.e ∣ y.e ∨ y.e ∣ x.e) : arN x y.a - arN y y.a = ldN x y ∨ arN x (x.a + 1) - arN y (x.a + 1) = ldN x y := by
  have x1 := ox.1
  have y1 := oy.1
  rw [ar_diff, ar_diff]
  unfold ldN
  by_cases c : y.e % x.e = 0
  · rw [if_pos c]
    refine .inl ?_
    rw [show y.a - y.a = 0 by omega, Int.zero_emod]
    omega
  · rw [if_neg c]
    refine .inr ?_
    have dv : y.e ∣ x.e := by
      rcases hd with d | d
      · exact absurd (Int.emod_eq_zero_of_dvd d) c
      · exact d
    obtain ⟨k, ek⟩ := dv
    have e1 : (x.a - (x.a + 1)) % x.e = x.e - 1 := by
      rw [show x.a - (x.a + 1) = (x.e - 1) + x.e * (-1) by omega, Int.add_mul_emod_self_left]
      exact Int.emod_eq_of_lt (by omega) (by omega)
    have xk : x.e / y.e = k := by rw [ek]; exact Int.mul_ediv_cancel_left _ (by omega)
    have s0 := Int.emod_nonneg (y.a - x.a) (show y.e ≠ 0 by omega)
    have s1 := Int.emod_lt_of_pos (y.a - x.a) (show 0 < y.e by omega)
    have se := Int.emod_add_mul_ediv (y.a - x.a) y.e
    rw [e1, xk]
    have e2 : (y.a - (x.a + 1)) % y.e = ((y.a - x.a) % y.e - 1) % y.e := by
      rw [show y.a - (x.a + 1) = ((y.a - x.a) % y.e - 1) + y.e * ((y.a - x.a) / y.e) by omega]
      exact Int.add_mul_emod_self_left ..
    rw [e2]
    generalize (y.a - x.a) % y.e = s at *
    by_cases z : s = 0
    · rw [if_pos z, z, show (0 : Int) - 1 = (y.e - 1) + y.e * (-1) by omega, Int.add_mul_emod_self_left, Int.emod_eq_of_lt (by omega) (by omega), Int.mul_sub, ← ek]
      omega
    · rw [if_neg z, Int.emod_eq_of_lt (by omega) (by omega), Int.sub_zero, ← ek]
      omega
theorem ar_period {x : N3} (ox : x.ok) {m : Int} (hm : x.e ∣ m) (t k : Int) : arN x (t + m * k) = arN x t + m * k := by
  obtain ⟨j, rfl⟩ := hm
  unfold arN dep
  rw [show x.a - (t + x.e * j * k) = (x.a - t) + x.e * (-(j * k)) by rw [Int.mul_neg, Int.mul_assoc]; omega, Int.add_mul_emod_self_left]
  omega
/-- no start at all is later exactly if none of a whole round is -/
theorem ld_range {x y : N3} (ox : x.ok) (oy : y.ok) (hd : x.e ∣ y.e ∨ y.e ∣ x.e) {m : Int} (hm : 0 < m) (h1 : x.e ∣ m) (h2 : y.e ∣ m) (h : ∀ t, 0 ≤ t → t < m → ¬ arN y t < arN x t) : ldN x y ≤ 0 := by
  have q : ∀ t, arN x t - arN y t ≤ 0 := by
    intro t
    have e := Int.emod_add_mul_ediv t m
    have p1 := ar_period ox h1 (t % m) (t / m)
    have p2 := ar_period oy h2 (t % m) (t / m)
    rw [e] at p1 p2
    have := h (t % m) (Int.emod_nonneg _ (by omega)) (Int.emod_lt_of_pos _ hm)
    omega
  rcases ld_at ox oy hd with e | e
  · rw [← e]; exact q _
  · rw [← e]; exact q _
theorem ld_two {x y : N3} (ox : x.ok) (oy : y.ok) (hd : x.e ∣ y.e ∨ y.e ∣ x.e) (h1 : ¬ arN y y.a < arN x y.a) (h2 : ¬ arN y (x.a + 1) < arN x (x.a + 1)) : ldN x y ≤ 0 := by
  rcases ld_at ox oy hd with e | e <;> omega
theorem ld_self (x : N3) : ldN x x = 0 := by
  unfold ldN
  rw [if_pos (Int.emod_self), Int.sub_self, Int.zero_emod]
  omega
theorem addN_walk (x : N3) (ox : x.ok) (w : Int) : addN x ⟨1, 0, w⟩ = ⟨x.e, x.a, x.r + w⟩ := by
  have x1 := ox.1
  unfold addN
  rw [if_pos (show (⟨1, 0, w⟩ : N3).e ≤ x.e from x1)]
  have e : (if (⟨1, 0, w⟩ : N3).e < x.e then (⟨1, 0, w⟩ : N3).e else x.e) = 1 := by
    show (if (1 : Int) < x.e then 1 else x.e) = 1
    split <;> omega
  rw [e, Int.emod_one]
  show (⟨x.e, x.a, x.r + 0 + w⟩ : N3) = _
  rw [Int.add_zero]
theorem ld_ride (x : N3) (u w : Int) : ldN ⟨x.e, x.a, u⟩ ⟨x.e, x.a, w⟩ = u - w := by
  unfold ldN
  show (if x.e % x.e = 0 then (x.a - x.a) % x.e + u - w else _) = _
  rw [if_pos (Int.emod_self), Int.sub_self, Int.zero_emod]
  omega
def bk (n : N3) : N3 := ⟨n.e, (0 - n.a - n.r) % n.e, n.r⟩
theorem step_lt {e j : Int} (he : 1 ≤ e) (h : e * j < e) : e * j ≤ 0 := by
  have q : j ≤ 0 := by
    by_cases c : j ≤ 0
    · exact c
    · have := Int.mul_le_mul_of_nonneg_left (show (1 : Int) ≤ j by omega) (show 0 ≤ e by omega)
      omega
  exact Int.mul_nonpos_of_nonneg_of_nonpos (by omega) q
theorem mod_eq {e a b k : Int} (h : a = b + e * k) : a % e = b % e := by
  rw [h, Int.add_mul_emod_self_left]
theorem emod_part (x e : Int) : ∃ k, x % e = x + e * k := by
  have := Int.emod_add_mul_ediv x e
  exact ⟨-(x / e), by rw [Int.mul_neg]; omega⟩
theorem bk_ok {n : N3} (h : n.ok) : (bk n).ok := by
  have h1 := h.1
  exact ⟨h1, Int.emod_nonneg _ (by omega), Int.emod_lt_of_pos _ (by omega), h.2.2.2⟩
theorem bk_bk {n : N3} (h : n.ok) : bk (bk n) = n := by
  obtain ⟨e, a, r⟩ := n
  obtain ⟨h1, h2, h3, h4⟩ := h
  show (⟨e, (0 - (0 - a - r) % e - r) % e, r⟩ : N3) = _
  obtain ⟨k, ek⟩ := emod_part (0 - a - r) e
  rw [ek, mod_eq (b := a) (k := -k) (by rw [Int.mul_neg]; omega), Int.emod_eq_of_lt h2 h3]
theorem ar_bk (n : N3) (t : Int) : arN (bk n) t = 0 - lat n (0 - t) := by
  unfold arN dep lat
  show t + ((0 - n.a - n.r) % n.e - t) % n.e + n.r = _
  obtain ⟨k, ek⟩ := emod_part (0 - n.a - n.r) n.e
  rw [ek, mod_eq (a := 0 - n.a - n.r + n.e * k - t) (b := 0 - t - n.r - n.a) (k := k) (by omega)]
  omega
theorem dep_bk {n : N3} (h : n.ok) (t : Int) : dep (bk n) (0 - arN n t) = 0 - arN n t := by
  obtain ⟨j, ej⟩ := dep_mod h t
  unfold arN
  rw [ej]
  unfold dep
  show _ + ((0 - n.a - n.r) % n.e - (0 - (n.a + n.e * j + n.r))) % n.e = _
  obtain ⟨k, ek⟩ := emod_part (0 - n.a - n.r) n.e
  rw [ek, mod_eq (a := 0 - n.a - n.r + n.e * k - (0 - (n.a + n.e * j + n.r))) (b := 0) (k := k + j) (by rw [Int.mul_add]; omega), Int.zero_emod]
  omega
theorem lat_bk (n : N3) (t : Int) : lat (bk n) t = 0 - arN n (0 - t) := by
  unfold arN dep lat
  show t - n.r - (t - n.r - (0 - n.a - n.r) % n.e) % n.e = _
  obtain ⟨k, ek⟩ := emod_part (0 - n.a - n.r) n.e
  rw [ek, mod_eq (a := t - n.r - (0 - n.a - n.r + n.e * k)) (b := n.a - (0 - t)) (k := -k) (by rw [Int.mul_neg]; omega)]
  omega
theorem gal {n : N3} (h : n.ok) (t s : Int) : arN n t ≤ s ↔ t ≤ lat n s := by
  have h1 := h.1
  have d := dep_le h t
  have l := lat_le h s
  obtain ⟨i, ei⟩ := dep_mod h t
  obtain ⟨j, ej⟩ := lat_mod n s
  unfold arN
  have e : dep n t - lat n s = n.e * (i - j) := by rw [Int.mul_sub]; omega
  constructor
  · intro q
    have := step_lt (e := n.e) (j := i - j) h1 (by omega)
    omega
  · intro q
    have := step_lt (e := n.e) (j := i - j) h1 (by omega)
    omega
theorem ld_iff {x y : N3} (ox : x.ok) (oy : y.ok) (hd : x.e ∣ y.e ∨ y.e ∣ x.e) : ldN x y ≤ 0 ↔ ∀ t, arN x t ≤ arN y t := by
  constructor
  · intro q t
    have := ld_le ox oy hd t
    omega
  · intro q
    rcases ld_at ox oy hd with e | e
    · have := q y.a
      omega
    · have := q (x.a + 1)
      omega
theorem ld_bk {x y : N3} (ox : x.ok) (oy : y.ok) (hd : x.e ∣ y.e ∨ y.e ∣ x.e) : ldN (bk x) (bk y) ≤ 0 ↔ ldN x y ≤ 0 := by
  rw [ld_iff ox oy hd, ld_iff (bk_ok ox) (bk_ok oy) hd]
  constructor
  · intro q t
    have g := (gal ox t (arN y t)).mpr
    have q1 := q (0 - arN y t)
    rw [ar_bk, ar_bk, show (0 : Int) - (0 - arN y t) = arN y t by omega] at q1
    have := (gal oy t (arN y t)).mp (Int.le_refl _)
    exact g (by omega)
  · intro q t
    rw [ar_bk, ar_bk]
    have q1 := q (lat y (0 - t))
    have g1 := (gal oy (lat y (0 - t)) (0 - t)).mpr (Int.le_refl _)
    have := (gal ox (lat y (0 - t)) (0 - t)).mp (by omega)
    omega
theorem addN_bk {x y : N3} (ox : x.ok) (oy : y.ok) (hd : x.e ∣ y.e ∨ y.e ∣ x.e) : bk (addN x y) = addN (bk y) (bk x) := by
  obtain ⟨xe, xa, xr⟩ := x
  obtain ⟨ye, ya, yr⟩ := y
  have x1 : 1 ≤ xe := ox.1
  have y1 : 1 ≤ ye := oy.1
  have hd : xe ∣ ye ∨ ye ∣ xe := hd
  obtain ⟨kx, ekx⟩ := emod_part (0 - xa - xr) xe
  obtain ⟨ky, eky⟩ := emod_part (0 - ya - yr) ye
  have key : ∀ l : Int, l ∣ xe → l ∣ ye → ((0 - xa - xr) % xe - (0 - ya - yr) % ye - yr) % l = (ya - xa - xr) % l := by
    rintro l ⟨i, rfl⟩ ⟨j, rfl⟩
    rw [ekx, eky]
    refine mod_eq (k := i * kx - j * ky) ?_
    rw [Int.mul_sub, ← Int.mul_assoc, ← Int.mul_assoc]
    omega
  by_cases c : ye < xe
  · have dv : ye ∣ xe := by
      rcases hd with d | d
      · have := Int.le_of_dvd (by omega) d
        omega
      · exact d
    have e1 : addN ⟨xe, xa, xr⟩ ⟨ye, ya, yr⟩ = ⟨xe, xa, xr + (ya - xa - xr) % ye + yr⟩ := by
      unfold addN
      show (if ye ≤ xe then (⟨xe, xa, xr + (ya - xa - xr) % (if ye < xe then ye else xe) + yr⟩ : N3) else _) = _
      rw [if_pos (by omega), if_pos c]
    have e2 : addN (bk ⟨ye, ya, yr⟩) (bk ⟨xe, xa, xr⟩) = ⟨xe, ((0 - xa - xr) % xe - (yr + ((0 - xa - xr) % xe - (0 - ya - yr) % ye - yr) % ye)) % xe, yr + ((0 - xa - xr) % xe - (0 - ya - yr) % ye - yr) % ye + xr⟩ := by
      unfold addN bk
      show (if xe ≤ ye then _ else (⟨xe, ((0 - xa - xr) % xe - (yr + ((0 - xa - xr) % xe - (0 - ya - yr) % ye - yr) % (if xe < ye then xe else ye))) % xe, yr + ((0 - xa - xr) % xe - (0 - ya - yr) % ye - yr) % (if xe < ye then xe else ye) + xr⟩ : N3)) = _
      rw [if_neg (by omega), if_neg (by omega)]
    rw [e1, e2, key ye dv (Int.dvd_refl _)]
    unfold bk
    show (⟨xe, (0 - xa - (xr + (ya - xa - xr) % ye + yr)) % xe, _⟩ : N3) = _
    rw [ekx]
    rw [mod_eq (a := 0 - xa - xr + xe * kx - (yr + (ya - xa - xr) % ye)) (b := 0 - xa - (xr + (ya - xa - xr) % ye + yr)) (k := kx) (by omega)]
    show (⟨_, _, xr + (ya - xa - xr) % ye + yr⟩ : N3) = ⟨_, _, _⟩
    rw [show xr + (ya - xa - xr) % ye + yr = yr + (ya - xa - xr) % ye + xr by omega]
  · by_cases c2 : xe < ye
    · have dv : xe ∣ ye := by
        rcases hd with d | d
        · exact d
        · have := Int.le_of_dvd (by omega) d
          omega
      have e1 : addN ⟨xe, xa, xr⟩ ⟨ye, ya, yr⟩ = ⟨ye, (ya - (xr + (ya - xa - xr) % xe)) % ye, xr + (ya - xa - xr) % xe + yr⟩ := by
        unfold addN
        show (if ye ≤ xe then _ else (⟨ye, (ya - (xr + (ya - xa - xr) % (if ye < xe then ye else xe))) % ye, xr + (ya - xa - xr) % (if ye < xe then ye else xe) + yr⟩ : N3)) = _
        rw [if_neg (by omega), if_neg (by omega)]
      have e2 : addN (bk ⟨ye, ya, yr⟩) (bk ⟨xe, xa, xr⟩) = ⟨ye, (0 - ya - yr) % ye, yr + ((0 - xa - xr) % xe - (0 - ya - yr) % ye - yr) % xe + xr⟩ := by
        unfold addN bk
        show (if xe ≤ ye then (⟨ye, (0 - ya - yr) % ye, yr + ((0 - xa - xr) % xe - (0 - ya - yr) % ye - yr) % (if xe < ye then xe else ye) + xr⟩ : N3) else _) = _
        rw [if_pos (by omega), if_pos c2]
      rw [e1, e2, key xe (Int.dvd_refl _) dv]
      unfold bk
      obtain ⟨k3, e3⟩ := emod_part (ya - (xr + (ya - xa - xr) % xe)) ye
      show (⟨ye, (0 - (ya - (xr + (ya - xa - xr) % xe)) % ye - (xr + (ya - xa - xr) % xe + yr)) % ye, xr + (ya - xa - xr) % xe + yr⟩ : N3) = _
      rw [e3, mod_eq (a := 0 - (ya - (xr + (ya - xa - xr) % xe) + ye * k3) - (xr + (ya - xa - xr) % xe + yr)) (b := 0 - ya - yr) (k := -k3) (by rw [Int.mul_neg]; omega)]
      rw [show xr + (ya - xa - xr) % xe + yr = yr + (ya - xa - xr) % xe + xr by omega]
    · have e : ye = xe := by omega
      subst e
      have e1 : addN ⟨ye, xa, xr⟩ ⟨ye, ya, yr⟩ = ⟨ye, xa, xr + (ya - xa - xr) % ye + yr⟩ := by
        unfold addN
        show (if ye ≤ ye then (⟨ye, xa, xr + (ya - xa - xr) % (if ye < ye then ye else ye) + yr⟩ : N3) else _) = _
        rw [if_pos (by omega), if_neg (by omega)]
      have e2 : addN (bk ⟨ye, ya, yr⟩) (bk ⟨ye, xa, xr⟩) = ⟨ye, (0 - ya - yr) % ye, yr + ((0 - xa - xr) % ye - (0 - ya - yr) % ye - yr) % ye + xr⟩ := by
        unfold addN bk
        show (if ye ≤ ye then (⟨ye, (0 - ya - yr) % ye, yr + ((0 - xa - xr) % ye - (0 - ya - yr) % ye - yr) % (if ye < ye then ye else ye) + xr⟩ : N3) else _) = _
        rw [if_pos (by omega), if_neg (by omega)]
      rw [e1, e2, key ye (Int.dvd_refl _) (Int.dvd_refl _)]
      unfold bk
      obtain ⟨k3, e3⟩ := emod_part (ya - xa - xr) ye
      show (⟨ye, (0 - xa - (xr + (ya - xa - xr) % ye + yr)) % ye, xr + (ya - xa - xr) % ye + yr⟩ : N3) = _
      rw [e3, mod_eq (a := 0 - xa - (xr + (ya - xa - xr + ye * k3) + yr)) (b := 0 - ya - yr) (k := -k3) (by rw [Int.mul_neg]; omega)]
      rw [show xr + (ya - xa - xr + ye * k3) + yr = yr + (ya - xa - xr + ye * k3) + xr by omega]
theorem RR_bk (n : N3) (h : 0 < n.e) (m : Int) : bk ⟨n.e, n.a, RR n m⟩ = ⟨n.e, (bk n).a, RR (bk n) m⟩ := by
  unfold bk
  show (⟨n.e, (0 - n.a - RR n m) % n.e, RR n m⟩ : N3) = ⟨n.e, (0 - n.a - n.r) % n.e, RR ⟨n.e, (0 - n.a - n.r) % n.e, n.r⟩ m⟩
  obtain ⟨k, e⟩ := rl_dvd h
  have e2 : RR n m = n.r + n.e * ((m - 1) * k) := by
    unfold RR
    rw [e, Int.mul_left_comm]
    omega
  rw [mod_eq (a := 0 - n.a - RR n m) (b := 0 - n.a - n.r) (k := -((m - 1) * k)) (by rw [Int.mul_neg]; omega)]
  rfl
def eqN (n m : N3) : Bool := PyData.eqv (.tuple [.int n.e, .int n.a, .int n.r]) (.tuple [.int m.e, .int m.a, .int m.r])
theorem eqN_self (n : N3) : eqN n n = true := eqv3 _ _ _
theorem eqv2 (a b : Int) : PyData.eqv (.tuple [.int a, .int b]) (.tuple [.int a, .int b]) = true := by
  simp [PyData.eqv, PyData.eqvAll]
theorem shaped2 (a b : Int) : SeqAt.shaped (.tuple [.int a, .int b]) = true := by
  unfold SeqAt.shaped
  simp only [PyData.canLay0, PyData.canLayAll0, PyData.depth, PyData.depthAll, Bool.true_and, Bool.and_true]
  exact decide_eq_true (by omega)
def sp_greatest_lead (K : Frag) : Sp := fun vs H Q E => ∃ (p : Addr) (x : N3) (q : Addr) (y : N3), vs = [.ref p, .ref q] ∧ T3 H p x ∧ T3 H q y ∧ x.ok ∧ y.ok ∧ Sz 2000 x.e ∧ Sz 2000 y.e ∧ Q (.int (ldN x y)) H
theorem ok_greatest_lead (Z : Zs cks fns K mg) : FnOk PP w K mg base (L2.CX PP w) 1 (ga K "greatest_lead") (fdAt K (ga K "greatest_lead")) ["first", "second"] (sp_greatest_lead K) := by
  refine L2.Fun.okX (u_greatest_lead Z) sc_greatest_lead (fun vs H Q E h => ?_) (fun cdv A outer s H vs Q E hr h => ?_)
  · obtain ⟨_, _, _, _, rfl, _⟩ := h
    rfl
  · obtain ⟨p, x, q, y, rfl, ⟨hx, hy, ox, oy, sx, sy, hq⟩⟩ := h
    refine ⟨_, (pss_cons (ps_asg (pv 0) (pg_tup rfl (pgs_cons (pg_name (i := 2) sc_greatest_lead.nd rfl (Or.inl rfl)) (pgs_cons (pg_name (i := 3) sc_greatest_lead.nd rfl (Or.inl rfl)) (pgs_cons (pg_name (i := 4) sc_greatest_lead.nd rfl (Or.inl rfl)) pgs_nil)))))
      (pss_cons (ps_asg (pv 1) (pg_tup rfl (pgs_cons (pg_name (i := 5) sc_greatest_lead.nd rfl (Or.inl rfl)) (pgs_cons (pg_name (i := 6) sc_greatest_lead.nd rfl (Or.inl rfl)) (pgs_cons (pg_name (i := 7) sc_greatest_lead.nd rfl (Or.inl rfl)) pgs_nil)))))
      (pss_cons (ps_if (pt_cmpR op_eq (pe_op op_mod (pv 5) (pv 2)) pe_int (nomark _))
        (pss_one (ps_ret (pe_op op_sub (pe_op op_add (pe_op op_mod (pe_op op_sub (pv 3) (pv 6)) (pv 2)) (pv 4)) (pv 7))))
        pss_nil)
      (pss_cons (ps_set (i := 8) sc_greatest_lead.nd rfl (Or.inl rfl) (pe_op op_mod (pe_op op_sub (pv 6) (pv 3)) (pv 5)))
      (pss_cons (ps_set (i := 9) sc_greatest_lead.nd rfl (Or.inl rfl) (pe_op op_sub (pe_op op_fdivW (pv 2) (pv 5)) (pe_callTy call_int_bl rfl (n_int Z) (by decide +kernel) (pa_cons (pe_cmpR op_eq (pv 8) pe_int (nomark _)) pa_nil))))
      (pss_one (ps_ret (pe_op op_add (pe_op op_sub (pe_op op_sub (pe_op op_mulW (pv 5) (pv 9)) (pv 8)) (pv 7)) (pv 4))))))))), ?_⟩
    obtain ⟨xe, xa, xr⟩ := x
    obtain ⟨ye, ya, yr⟩ := y
    have x1 : 1 ≤ xe := ox.1
    have y1 : 1 ≤ ye := oy.1
    refine ⟨_, rfl, p, _, rfl, SqT.of hx, rfl, _, _, rfl, _, _, rfl, _, _, rfl, rfl, ?_⟩
    refine ⟨_, rfl, q, _, rfl, SqT.of hy, rfl, _, _, rfl, _, _, rfl, _, _, rfl, rfl, ?_⟩
    refine ⟨_, rfl, _, rfl, _, _, rfl, rfl, (by show 0 < xe; omega), rfl, _, rfl, ifD (fun c => ?_) (fun c => ?_)⟩
    · have c' : ye % xe = 0 := V.int.inj c
      have e : ldN ⟨xe, xa, xr⟩ ⟨ye, ya, yr⟩ = (xa - ya) % xe + xr - yr := if_pos c'
      rw [e] at hq
      exact ⟨_, rfl, _, rfl, _, _, rfl, rfl, _, rfl, _, _, rfl, rfl, (by show 0 < xe; omega), _, rfl, _, _, rfl, rfl, _, rfl, _, _, rfl, rfl, hq⟩
    · have c' : ¬ ye % xe = 0 := fun z => c (congrArg V.int z)
      have e : ldN ⟨xe, xa, xr⟩ ⟨ye, ya, yr⟩ = ye * (xe / ye - (if (ya - xa) % ye = 0 then 1 else 0)) - (ya - xa) % ye - yr + xr := if_neg c'
      rw [e] at hq
      refine ⟨_, rfl, _, rfl, _, _, rfl, rfl, _, rfl, _, _, rfl, rfl, (by show 0 < ye; omega), ?_⟩
      refine ⟨_, rfl, _, rfl, _, _, rfl, rfl, sy.div (by show 0 < ye; omega), _, rfl, rfl, _, rfl, _, _, rfl, rfl, ?_⟩
      have ei : (if decide (V.int ((ya - xa) % ye) = V.int 0) = true then (1 : Int) else 0) = if (ya - xa) % ye = 0 then 1 else 0 := by
        by_cases z : (ya - xa) % ye = 0
        · rw [if_pos z, if_pos (decide_eq_true (congrArg V.int z))]
        · rw [if_neg z, if_neg (by rw [decide_eq_false (fun w => z (V.int.inj w))]; exact Bool.false_ne_true)]
      rw [ei]
      have ss : Sz 2001 (xe / ye - (if (ya - xa) % ye = 0 then 1 else 0)) := by
        refine Sz.sub ?_ ?_
        · refine Sz.le (Int.ediv_nonneg (by omega) (by omega)) (Int.ediv_le_self _ (by omega)) sx
        · split
          · exact Sz.of (by decide +kernel) (by decide +kernel)
          · exact Sz.of (by decide +kernel) (by decide +kernel)
      exact ⟨_, rfl, _, rfl, _, _, rfl, rfl, sy.cmul ss (by decide) (by decide) (by decide), _, rfl, _, _, rfl, rfl, _, rfl, _, _, rfl, rfl, _, rfl, _, _, rfl, rfl, hq⟩
def sp_Line_never_later (K : Frag) : Sp := fun vs H Q E => ∃ (a : Addr) (k : LK) (n : N3) (b : Addr) (j : LK) (m : N3), vs = [.ref a, .ref b] ∧ LnAt K H a k n ∧ LnAt K H b j m ∧ n.ok ∧ m.ok ∧ (n.e ∣ m.e ∨ m.e ∣ n.e) ∧ Sz 2000 n.e ∧ Sz 2000 m.e ∧ ∀ H', Same H H' → Q (.bl (decide (ldN n m ≤ 0))) H'
theorem ok_Line_never_later (Z : Zs cks fns K mg) : FnOk PP w K mg base (L2.CX PP w) 2 (ma K (ga K "Line") "never_later") (fdAt K (ma K (ga K "Line") "never_later")) ["self", "other"] (sp_Line_never_later K) := by
  refine L2.Fun.okX (u_Line_never_later Z) sc_Line_never_later (fun vs H Q E h => ?_) (fun cdv A outer s H vs Q E hr h => ?_)
  · obtain ⟨_, _, _, _, _, _, rfl, _⟩ := h
    rfl
  · obtain ⟨a, k, n, b, j, m, rfl, ⟨hA, hB, ok, om, hd, sn, sm, hq⟩⟩ := h
    refine ⟨_, (pss_cons (ps_if (pt_not (pt_val (pe_call (ok_fit Z) (hr.mono (by decide)) rfl (g_fit Z) (u_fit Z).kp (b_fit Z) .nil passL (pa_cons (pe_fld (pv 0) rfl) (pa_cons (pe_fld (pv 1) rfl) pa_nil)))))
        (pss_one ps_never)
        pss_nil)
      (pss_cons (ps_set (i := 2) sc_Line_never_later.nd rfl (Or.inl rfl) (pe_tup (pa_cons (pe_fld (pv 0) rfl) (pa_cons (pe_fld (pv 0) rfl) (pa_cons (pe_fld (pv 0) rfl) pa_nil)))))
      (pss_one (ps_ret (pe_cmpR op_le (pe_call (ok_greatest_lead Z) (hr.mono (by decide)) rfl (g_greatest_lead Z) (u_greatest_lead Z).kp (b_greatest_lead Z) .nil passL (pa_cons (pv 2) (pa_cons (pe_tup (pa_cons (pe_fld (pv 1) rfl) (pa_cons (pe_fld (pv 1) rfl) (pa_cons (pe_fld (pv 1) rfl) pa_nil)))) pa_nil))) pe_int (nomark _)))))), ?_⟩
    obtain ⟨dx, hA'⟩ := id hA
    obtain ⟨dy, hB'⟩ := id hB
    refine ⟨_, rfl, a, _, dx, _, _, rfl, hA', (lnF Z).cls k, (lnF Z).nE k, lf_e n, _, rfl, b, _, dy, _, _, rfl, hB', (lnF Z).cls j, (lnF Z).nE j, lf_e m, ?_⟩
    refine ⟨n.e, m.e, rfl, ok.1, om.1, hd, _, rfl, iteF ?_⟩
    refine ⟨_, rfl, a, _, dx, _, _, rfl, hA', (lnF Z).cls k, (lnF Z).nE k, lf_e n, _, rfl, a, _, dx, _, _, rfl, hA', (lnF Z).cls k, (lnF Z).nA k, lf_a n, _, rfl, a, _, dx, _, _, rfl, hA', (lnF Z).cls k, (lnF Z).nR k, lf_r n, (by show 3 ≤ sizeLine; decide), fun p1 hp1 => ?_⟩
    have s1 := Same.new (o := .tup [.int n.e, .int n.a, .int n.r]) hp1
    have hB1 := s1 _ _ hB'
    refine ⟨_, rfl, _, rfl, b, _, dy, _, _, rfl, hB1, (lnF Z).cls j, (lnF Z).nE j, lf_e m, _, rfl, b, _, dy, _, _, rfl, hB1, (lnF Z).cls j, (lnF Z).nA j, lf_a m, _, rfl, b, _, dy, _, _, rfl, hB1, (lnF Z).cls j, (lnF Z).nR j, lf_r m, (by show 3 ≤ sizeLine; decide), fun p2 hp2 => ?_⟩
    have s2 := Same.new (o := .tup [.int m.e, .int m.a, .int m.r]) hp2
    exact ⟨p1, n, p2, m, rfl, s2 _ _ upd_same, upd_same, ok, om, sn, sm, _, _, rfl, rfl, hq _ (s1.trans s2)⟩
def sp_Line_eq (K : Frag) : Sp := fun vs H Q E => ∃ (a : Addr) (k : LK) (n : N3) (y : V), vs = [.ref a, y] ∧ LnAt K H a k n ∧ ((∃ b j m, y = .ref b ∧ LnAt K H b j m ∧ ∀ H', Same H H' → Q (.bl (eqN n m)) H') ∨ (∃ t, TyX K H y t ∧ PySem.W.kitOne K t (.ref (ga K "Line")) = some false ∧ Q (.bl false) H))
theorem ok_Line_eq (Z : Zs cks fns K mg) : FnOk PP w K mg base (L2.CX PP w) 2 (ma K (ga K "Line") "__eq__") (fdAt K (ma K (ga K "Line") "__eq__")) ["self", "other"] (sp_Line_eq K) := by
  refine L2.Fun.okX (u_Line_eq Z) sc_Line_eq (fun vs H Q E h => ?_) (fun cdv A outer s H vs Q E hr h => ?_)
  · obtain ⟨_, _, _, _, rfl, _⟩ := h
    rfl
  · obtain ⟨a, k, n, y, rfl, ⟨hA, hy⟩⟩ := h
    refine ⟨_, (pss_cons (ps_if (pt_not (pt_val (pe_callB call_isi rfl (n_isinstance Z) (by decide +kernel) (pa_cons (pv 1) (pa_cons (pe_glob (v := .ref (ga K "Line")) rfl (g_Line Z) rfl) pa_nil)))))
        (pss_one (ps_ret pe_bl))
        pss_nil)
      (pss_cons (ps_set (i := 2) sc_Line_eq.nd rfl (Or.inl rfl) (pe_tup (pa_cons (pe_fld (pv 0) rfl) (pa_cons (pe_fld (pv 0) rfl) (pa_cons (pe_fld (pv 0) rfl) pa_nil)))))
      (pss_one (ps_ret (pe_cmpR (op_eqD hr.units) (pv 2) (pe_tup (pa_cons (pe_fld (pv 1) rfl) (pa_cons (pe_fld (pv 1) rfl) (pa_cons (pe_fld (pv 1) rfl) pa_nil)))) (nomark _)))))), ?_⟩
    obtain ⟨dx, hA'⟩ := id hA
    rcases hy with ⟨b, j, m, rfl, hB, hq⟩ | ⟨t, ty, kit, hq⟩
    · obtain ⟨dy, hB'⟩ := id hB
      refine ⟨_, rfl, _, _, _, _, true, rfl, .own _, (tyL Z j).line (lnF Z) hB, kitL Z j, _, rfl, iteF ?_⟩
      refine ⟨_, rfl, a, _, dx, _, _, rfl, hA', (lnF Z).cls k, (lnF Z).nE k, lf_e n, _, rfl, a, _, dx, _, _, rfl, hA', (lnF Z).cls k, (lnF Z).nA k, lf_a n, _, rfl, a, _, dx, _, _, rfl, hA', (lnF Z).cls k, (lnF Z).nR k, lf_r n, (by show 3 ≤ sizeLine; decide), fun p1 hp1 => ?_⟩
      have s1 := Same.new (o := .tup [.int n.e, .int n.a, .int n.r]) hp1
      have hB1 := s1 _ _ hB'
      refine ⟨_, rfl, _, rfl, b, _, dy, _, _, rfl, hB1, (lnF Z).cls j, (lnF Z).nE j, lf_e m, _, rfl, b, _, dy, _, _, rfl, hB1, (lnF Z).cls j, (lnF Z).nA j, lf_a m, _, rfl, b, _, dy, _, _, rfl, hB1, (lnF Z).cls j, (lnF Z).nR j, lf_r m, (by show 3 ≤ sizeLine; decide), fun p2 hp2 => ?_⟩
      have s2 := Same.new (o := .tup [.int m.e, .int m.a, .int m.r]) hp2
      exact ⟨.tuple [.int n.e, .int n.a, .int n.r], .tuple [.int m.e, .int m.a, .int m.r], .tup (SqT.of (s2 _ _ upd_same)) (.cons (.int _) (.cons (.int _) (.cons (.int _) .nil))), .tup (SqT.of upd_same) (.cons (.int _) (.cons (.int _) (.cons (.int _) .nil))), shaped3 _ _ _, shaped3 _ _ _, hq _ (s1.trans s2)⟩
    · exact ⟨_, rfl, _, _, _, _, false, rfl, .own _, ty, kit, _, rfl, iteT hq⟩
theorem rEqL_lines {N : VK → VK} {Q : VK} {H : Hp} {a b : Addr} {k j : LK} {n m : N3} (La : LnAt K H a k n) (Lb : LnAt K H b j m) (hs : eqN m n = eqN n m) (hq : ∀ H', Same H H' → N Q (.bl (eqN n m)) H') : rEqL K (sp_Line_eq K) E0 N (.ref a) (.ref b) H Q :=
  ⟨a, k, n, rfl, La, .inl ⟨b, j, m, rfl, Lb, ⟨a, k, n, .ref b, rfl, La, .inl ⟨b, j, m, rfl, Lb, hq⟩⟩, ⟨b, j, m, .ref a, rfl, Lb, .inl ⟨a, k, n, rfl, La, fun H' s => by rw [hs]; exact hq H' s⟩⟩⟩⟩
def sp_Line_backward (K : Frag) : Sp := fun vs H Q E => ∃ (a : Addr) (k : LK) (n : N3), vs = [.ref a] ∧ LnAt K H a k n ∧ n.ok ∧ ∀ (r : Addr) (H' : Hp), Same H H' → LnAt K H' r .line (bk n) → Q (.ref r) H'
theorem ok_Line_backward (Z : Zs cks fns K mg) : FnOk PP w K mg base (L2.CX PP w) 5 (ma K (ga K "Line") "backward") (fdAt K (ma K (ga K "Line") "backward")) ["self"] (sp_Line_backward K) := by
  refine L2.Fun.okX (u_Line_backward Z) sc_Line_backward (fun vs H Q E h => ?_) (fun cdv A outer s H vs Q E hr h => ?_)
  · obtain ⟨_, _, _, rfl, _⟩ := h
    rfl
  · obtain ⟨a, k, n, rfl, ⟨hA, ok, hq⟩⟩ := h
    refine ⟨_, (pss_one (ps_ret (pe_make (M_Line Z) (ok_Line_init Z) (hr.mono (by decide)) rfl (g_Line Z) (b_Line_init Z) .nil passL (pa_cons (pe_fld (pv 0) rfl) (pa_cons (pe_op op_mod (pe_op op_sub (pe_op op_sub pe_int (pe_fld (pv 0) rfl)) (pe_fld (pv 0) rfl)) (pe_fld (pv 0) rfl)) (pa_cons (pe_fld (pv 0) rfl) pa_nil)))))), ?_⟩
    obtain ⟨dx, hA'⟩ := id hA
    have n1 := ok.1
    refine ⟨_, rfl, a, _, dx, _, _, rfl, hA', (lnF Z).cls k, (lnF Z).nE k, lf_e n, _, rfl, a, _, dx, _, _, rfl, hA', (lnF Z).cls k, (lnF Z).nA k, lf_a n, _, _, rfl, rfl, _, rfl, a, _, dx, _, _, rfl, hA', (lnF Z).cls k, (lnF Z).nR k, lf_r n, _, _, rfl, rfl, _, rfl, a, _, dx, _, _, rfl, hA', (lnF Z).cls k, (lnF Z).nE k, lf_e n, _, _, rfl, rfl, (by show 0 < n.e; omega), _, rfl, a, _, dx, _, _, rfl, hA', (lnF Z).cls k, (lnF Z).nR k, lf_r n, fun x dxx hx hdx hne => ?_⟩
    exact ⟨.line, x, dxx, bk n, rfl, bk_ok ok, upd_same, rfl, hq x _ (mk_same hx hdx) ⟨dxx, upd_same⟩⟩
def sp__law_triple (K : Frag) : Sp := fun vs H Q E => ∃ (q : Addr) (k : LK) (n : N3), vs = [.ref q] ∧ LnAt K H q k n ∧ ∀ (p : Addr) (H' : Hp), Same H H' → T3 H' p n → Q (.ref p) H'
theorem ok__law_triple (Z : Zs cks fns K mg) : FnOk PP w K mg base (L2.CX PP w) 3 (ga K "_law_triple") (fdAt K (ga K "_law_triple")) ["line_here"] (sp__law_triple K) := by
  refine L2.Fun.okX (u__law_triple Z) sc__law_triple (fun vs H Q E h => ?_) (fun cdv A outer s H vs Q E hr h => ?_)
  · obtain ⟨_, _, _, rfl, _⟩ := h
    rfl
  · obtain ⟨q, k, n, rfl, ⟨hL, hq⟩⟩ := h
    refine ⟨_, (pss_one (ps_ret (pe_tup (pa_cons (pe_lget (pv 0) (lnF Z) (hp_every Z) (ok_Line_every Z) (b_Line_every Z) (hr.mono (by decide)) lf_e rfl) (pa_cons (pe_lget (pv 0) (lnF Z) (hp_at Z) (ok_Line_at Z) (b_Line_at Z) (hr.mono (by decide)) lf_a rfl) (pa_cons (pe_lget (pv 0) (lnF Z) (hp_ride Z) (ok_Line_ride Z) (b_Line_ride Z) (hr.mono (by decide)) lf_r rfl) pa_nil)))))), ?_⟩
    refine ⟨_, rfl, q, k, n, rfl, hL, _, rfl, q, k, n, rfl, hL, _, rfl, q, k, n, rfl, hL, (by show 3 ≤ sizeLine; decide), fun p hp => ?_⟩
    exact hq p _ (Same.new hp) upd_same
end
section
variable {w : World} {K : Frag} {mg : Str → Option Value} {base : Heap}
def sp__law_right (K : Frag) : Sp := fun vs H Q E => ∃ (f : Addr) (N : Nat) (p : Addr) (k : LK) (n : N3) (q : Addr) (j : LK) (m : N3) (g : Bool), vs = [.ref f, .ref p, .ref q, .bl g] ∧ Fd f (N + 12 * 128) H ∧ L4 H p k n ∧ L4 H q j m ∧ ¬ fdM f p ∧ ¬ fdM f q ∧ NmOk k n ∧ NmOk j m ∧ (n.e ∣ m.e ∨ m.e ∣ n.e) ∧ n.e ≤ 10 ^ 59 ∧ m.e ≤ 10 ^ 59 ∧ n.r ≤ 10 ^ 59 ∧ ∀ H', Ext (fdM f) H H' → Fd f N H' → Q (.bl true) H'
theorem ok__law_right (Z : Zs cks fns K mg) : FnOk PP w K mg base (L2.CX PP w) 7 (ga K "_law_right") (fdAt K (ga K "_law_right")) ["feed", "first_one", "second_one", "great"] (sp__law_right K) := by
  refine L2.Fun.okX (u__law_right Z) sc__law_right (fun vs H Q E h => ?_) (fun cdv A outer s H vs Q E hr h => ?_)
  · obtain ⟨_, _, _, _, _, _, _, _, _, rfl, _⟩ := h
    rfl
  · obtain ⟨f, N, p, k, n, q, j, m, g, rfl, ⟨hT, hP, hQ, np, nq, on, om, hd, he, hf, hrr, hq⟩⟩ := h
    refine ⟨_, (pss_cons (ps_par (i := 4) (j := 5) rfl sc__law_right.nd rfl rfl (by decide) rfl rfl (pa_cons (pe_call (ok__law_made Z) (hr.mono (by decide)) rfl (g__law_made Z) (u__law_made Z).kp (b__law_made Z) .nil passL (pa_cons (pv 1) pa_nil)) (pa_cons (pe_call (ok__law_made Z) (hr.mono (by decide)) rfl (g__law_made Z) (u__law_made Z).kp (b__law_made Z) .nil passL (pa_cons (pv 2) pa_nil)) pa_nil)) rfl)
      (pss_cons (ps_set (i := 6) sc__law_right.nd rfl (Or.inl rfl) (pe_lmeth0 (pv 4) (lnF Z) (hm_backward Z) (ok_Line_backward Z) (hr.mono (by decide)) (b_Line_backward Z) passL))
      (pss_cons (ps_if (PW.pt (pw_or (pt_cmpR op_ne (pe_con (f := "KIND") (pv 6) rfl) pe_str (nomark _)) (pw_or1 (pt_cmpR (op_neD hr.units) (pe_call (ok__law_triple Z) (hr.mono (by decide)) rfl (g__law_triple Z) (u__law_triple Z).kp (b__law_triple Z) .nil passL (pa_cons (pe_lmeth0 (pv 6) (lnF Z) (hm_backward Z) (ok_Line_backward Z) (hr.mono (by decide)) (b_Line_backward Z) passL) pa_nil)) (pe_call (ok__law_triple Z) (hr.mono (by decide)) rfl (g__law_triple Z) (u__law_triple Z).kp (b__law_triple Z) .nil passL (pa_cons (pv 4) pa_nil)) (nomark _)))))
        (pss_one (ps_ret pe_bl))
        pss_nil)
      (pss_cons (ps_if (PW.pt (pw_or (pt_cmpR (op_neD hr.units) (pe_tup2 (pe_call (ok__law_triple Z) (hr.mono (by decide)) rfl (g__law_triple Z) (u__law_triple Z).kp (b__law_triple Z) .nil passL (pa_cons (pv 6) pa_nil))) (pe_tup2 (pe_call (ok__law_triple Z) (hr.mono (by decide)) rfl (g__law_triple Z) (u__law_triple Z).kp (b__law_triple Z) .nil passL (pa_cons (pv 4) pa_nil))) (nomark _)) (pw_or1 (pt_not (pt_chain op_le op_lt pe_int (pe_lget (pv 6) (lnF Z) (hp_at Z) (ok_Line_at Z) (b_Line_at Z) (hr.mono (by decide)) lf_a rfl) (pe_lget (pv 6) (lnF Z) (hp_every Z) (ok_Line_every Z) (b_Line_every Z) (hr.mono (by decide)) lf_e rfl))))))
        (pss_one (ps_ret pe_bl))
        pss_nil)
      (C8.pss_cut (ps_for (passes_of rfl) rfl (pi_range1 rfl (n_range Z) (pa_cons pe_int pa_nil)) (pg_name (i := 7) sc__law_right.nd rfl (Or.inl rfl))
        (pss_cons (ps_set (i := 8) sc__law_right.nd rfl (Or.inl rfl) (pe_call (ok__law_moment Z) (hr.mono (by decide)) rfl (g__law_moment Z) (u__law_moment Z).kp (b__law_moment Z) .nil passL (pa_cons (pv 0) (pa_cons (pv 3) pa_nil))))
      (pss_cons (ps_if (PW.pt (pw_or (pt_cmpR op_ne (pe_lcall (pv 6) (hc_call Z) (r_Line_call Z) (hr.mono (by decide)) passL (pa_cons (pv 8) pa_nil)) (pe_op op_sub pe_int (pe_lmeth (pv 4) (lnF Z) (hm_latest Z) (ok_Line_latest Z) (hr.mono (by decide)) (b_Line_latest Z) passL (pa_cons (pe_op op_sub pe_int (pv 8)) pa_nil))) (nomark _)) (pw_or1 (pt_cmpR op_ne (pe_lmeth (pv 6) (lnF Z) (hm_departure Z) (ok_Line_departure Z) (hr.mono (by decide)) (b_Line_departure Z) passL (pa_cons (pe_op op_sub pe_int (pe_lcall (pv 4) (hc_call Z) (r_Line_call Z) (hr.mono (by decide)) passL (pa_cons (pv 8) pa_nil))) pa_nil)) (pe_op op_sub pe_int (pe_lcall (pv 4) (hc_call Z) (r_Line_call Z) (hr.mono (by decide)) passL (pa_cons (pv 8) pa_nil))) (nomark _)))))
        (pss_one (ps_ret pe_bl))
        pss_nil)
      (pss_one (ps_if (pt_cmpR op_ne (pe_lmeth (pv 6) (lnF Z) (hm_latest Z) (ok_Line_latest Z) (hr.mono (by decide)) (b_Line_latest Z) passL (pa_cons (pv 8) pa_nil)) (pe_op op_sub pe_int (pe_lcall (pv 4) (hc_call Z) (r_Line_call Z) (hr.mono (by decide)) passL (pa_cons (pe_op op_sub pe_int (pv 8)) pa_nil))) (nomark _))
        (pss_one (ps_ret pe_bl))
        pss_nil)))))
      (pss_cons (ps_if (pt_cmpR (op_neD hr.units) (pe_call (ok__law_triple Z) (hr.mono (by decide)) rfl (g__law_triple Z) (u__law_triple Z).kp (b__law_triple Z) .nil passL (pa_cons (pe_lmeth0 (pe_op (op_lop (op := .Add) rfl (ol_add Z) (by decide +kernel) (ok_Line_add Z) (hr.mono (by decide)) (b_Line_add Z) passL) (pv 4) (pv 5)) (lnF Z) (hm_backward Z) (ok_Line_backward Z) (hr.mono (by decide)) (b_Line_backward Z) passL) pa_nil)) (pe_call (ok__law_triple Z) (hr.mono (by decide)) rfl (g__law_triple Z) (u__law_triple Z).kp (b__law_triple Z) .nil passL (pa_cons (pe_op (op_lop (op := .Add) rfl (ol_add Z) (by decide +kernel) (ok_Line_add Z) (hr.mono (by decide)) (b_Line_add Z) passL) (pe_lmeth0 (pv 5) (lnF Z) (hm_backward Z) (ok_Line_backward Z) (hr.mono (by decide)) (b_Line_backward Z) passL) (pv 6)) pa_nil)) (nomark _))
        (pss_one (ps_ret pe_bl))
        pss_nil)
      (pss_cons (ps_if (pt_cmpR (op_neL (eqL Z) (ok_Line_eq Z) (hr.mono (by decide)) (b_Line_eq Z) passL) (pe_lmeth0 (pe_op (show OpR _ (binaryOp .Mult) (rLnum K (sp_Line_mul K) E0) from (oi_mul Z).elim fun fo h => h.elim fun ro h => op_lnum (op := .Mult) (ol_mul Z) h.1 h.2.1 h.2.2 (ok_Line_mul Z) (hr.mono (by decide)) (b_Line_mul Z) passL) (pv 4) pe_int) (lnF Z) (hm_backward Z) (ok_Line_backward Z) (hr.mono (by decide)) (b_Line_backward Z) passL) (pe_op (show OpR _ (binaryOp .Mult) (rLnum K (sp_Line_mul K) E0) from (oi_mul Z).elim fun fo h => h.elim fun ro h => op_lnum (op := .Mult) (ol_mul Z) h.1 h.2.1 h.2.2 (ok_Line_mul Z) (hr.mono (by decide)) (b_Line_mul Z) passL) (pv 6) pe_int) (nomark _))
        (pss_one (ps_ret pe_bl))
        pss_nil)
      (pss_one (ps_ret (pe_cmpR op_eq (pe_lmeth (pv 4) (lnF Z) (hm_never_later Z) (ok_Line_never_later Z) (hr.mono (by decide)) (b_Line_never_later Z) passL (pa_cons (pv 5) pa_nil)) (pe_lmeth (pv 6) (lnF Z) (hm_never_later Z) (ok_Line_never_later Z) (hr.mono (by decide)) (b_Line_never_later Z) passL (pa_cons (pe_lmeth0 (pv 5) (lnF Z) (hm_backward Z) (ok_Line_backward Z) (hr.mono (by decide)) (b_Line_backward Z) passL) pa_nil)) (nomark _))))))))))), ?_⟩
    have small : ∀ z : Int, 0 ≤ z → z ≤ 10 ^ 60 → Sz 2000 z := fun z z0 z1 => Sz.mono (a := 200) (Sz.le z0 z1 (Sz.of (by decide +kernel) (by decide +kernel))) (by decide)
    have ok := on.ok
    have okm := om.ok
    have okb := bk_ok ok
    have n1 := ok.1
    have m1 := okm.1
    have n4 := ok.2.2.2
    have sn : Sz 2000 n.e := small _ (by omega) (by omega)
    have sm : Sz 2000 m.e := small _ (by omega) (by omega)
    have hrl := rl_nn ok
    have srl : Sz 2000 (rl n) := small _ (by omega) (by omega)
    refine ⟨_, rfl, ⟨p, k, n, rfl, hP, on, fun a H1 s1 na L1 => ⟨_, rfl, ⟨q, j, m, rfl, s1 _ _ hQ, om, fun b H2 s2 nb L2 => ⟨_, _, rfl, ?_⟩⟩⟩⟩⟩
    refine ⟨_, rfl, a, k, n, rfl, L1.same s2, ⟨a, k, n, rfl, L1.same s2, ok, fun r H3 s3 L3 => ?_⟩⟩
    have s123 := s1.trans (s2.trans s3)
    have La := (L1.same s2).same s3
    have Lb := L2.same s3
    obtain ⟨dr, hR⟩ := id L3
    obtain ⟨u, con⟩ := kd Z .line
    refine ⟨_, rfl, r, _, dr, _, _, u, rfl, hR, (lnF Z).cls .line, con, lf_no _ (by decide +kernel) (by decide +kernel) (by decide +kernel), rfl, _, rfl, iteNS rfl ?_⟩
    refine ⟨_, rfl, r, .line, bk n, rfl, L3, ⟨r, .line, bk n, rfl, L3, okb, fun r2 H4 s4 L4 => ⟨r2, .line, _, rfl, L4, fun p1 H5 s5 T5 => ?_⟩⟩⟩
    rw [bk_bk ok] at T5
    refine ⟨_, rfl, ⟨a, k, n, rfl, (La.same s4).same s5, fun p2 H6 s6 T6 => ?_⟩⟩
    refine ⟨.tuple [.int n.e, .int n.a, .int n.r], .tuple [.int n.e, .int n.a, .int n.r], .tup (SqT.of (T5.same s6)) (.cons (.int _) (.cons (.int _) (.cons (.int _) .nil))), .tup (SqT.of T6) (.cons (.int _) (.cons (.int _) (.cons (.int _) .nil))), shaped3 _ _ _, shaped3 _ _ _, ?_⟩
    rw [eqv3]
    refine ⟨_, rfl, iteF ?_⟩
    have s46 := s4.trans (s5.trans s6)
    refine ⟨_, rfl, ⟨r, .line, bk n, rfl, L3.same s46, fun p3 H7 s7 T7 => ⟨p3, _, _, _, rfl, SqT.of T7, fun t1 ht1 => ?_⟩⟩⟩
    have s8 := Same.new (o := .tup [.int (bk n).e, .int (bk n).r]) ht1
    have s48 := s46.trans (s7.trans s8)
    refine ⟨_, rfl, ⟨a, k, n, rfl, La.same s48, fun p4 H9 s9 T9 => ⟨p4, _, _, _, rfl, SqT.of T9, fun t2 ht2 => ?_⟩⟩⟩
    have s10 := Same.new (o := .tup [.int n.e, .int n.r]) ht2
    refine ⟨.tuple [.int n.e, .int n.r], .tuple [.int n.e, .int n.r], .tup (SqT.of (s10 _ _ (s9 _ _ upd_same))) (.cons (.int _) (.cons (.int _) .nil)), .tup (SqT.of upd_same) (.cons (.int _) (.cons (.int _) .nil)), shaped2 _ _, shaped2 _ _, ?_⟩
    rw [eqv2]
    refine ⟨_, rfl, iteF ?_⟩
    have sA := s48.trans (s9.trans s10)
    have LrA := L3.same sA
    refine ⟨_, rfl, r, .line, bk n, rfl, LrA, _, _, rfl, rfl, _, rfl, ifT okb.2.1 ⟨_, rfl, r, .line, bk n, rfl, LrA, _, _, rfl, rfl, _, rfl, iteNS okb.2.2.1 ?_⟩⟩
    have sB := s123.trans sA
    have LaA := La.same sA
    have LbA := Lb.same sA
    have tB := hT.same sB
    revert sB LrA LaA LbA tB
    generalize upd H9 t2 (.tup [.int n.e, .int n.r]) = HB
    intro LrA sB LaA LbA tB
    refine ⟨fun σ HC => ∃ z7 z8, σ = [some (.ref f), some (.ref p), some (.ref q), some (.bl g), some (.ref a), some (.ref b), some (.ref r), z7, z8] ∧ Ext (fdM f) HB HC ∧ Fd f N HC, ?_, ?_⟩
    · refine ⟨_, rfl, by decide, by decide, ?_⟩
      refine for_range (lo := 0) (n := 6) (fun i σ HC => ∃ z7 z8, σ = [some (.ref f), some (.ref p), some (.ref q), some (.bl g), some (.ref a), some (.ref b), some (.ref r), z7, z8] ∧ Ext (fdM f) HB HC ∧ Fd f (N + (12 - 2 * i) * 128) HC) ⟨none, none, rfl, Ext.refl, tB⟩ ?_ ?_
      · rintro i σ HC hi ⟨z7, z8, rfl, xC, tC⟩
        rw [show N + (12 - 2 * i) * 128 = (N + (12 - 2 * (i + 1)) * 128) + 2 * 128 by omega] at tC
        refine ⟨_, rfl, _, rfl, ⟨f, _, g, rfl, tC, fun v HD v0 v1 _ xD tD => ?_⟩⟩
        have xx := xC.trans xD
        have Lr := tB.line xx LrA
        have La := tB.line xx LaA
        have e1 : dep (bk n) v + (bk n).r = 0 - lat n (0 - v) := ar_bk n v
        have e2 : dep (bk n) (0 - (dep n v + n.r)) = 0 - (dep n v + n.r) := dep_bk ok v
        have e3 : lat (bk n) v = 0 - (dep n (0 - v) + n.r) := lat_bk n v
        refine ⟨_, rfl, r, rfl, _, rfl, ⟨.line, _, Lr⟩, ⟨r, .line, bk n, v, rfl, Lr, okb, ?_⟩⟩
        refine ⟨_, rfl, a, k, n, rfl, La, _, rfl, _, _, rfl, rfl, ⟨a, k, n, 0 - v, rfl, La, ok, _, _, rfl, rfl, rfl, _, rfl, iteNS (congrArg V.int e1) ?_⟩⟩
        refine ⟨_, rfl, r, .line, bk n, rfl, Lr, _, rfl, a, rfl, _, rfl, ⟨k, n, La⟩, ⟨a, k, n, v, rfl, La, ok, _, _, rfl, rfl, ⟨r, .line, bk n, _, rfl, Lr, okb, ?_⟩⟩⟩
        refine ⟨_, rfl, a, rfl, _, rfl, ⟨k, n, La⟩, ⟨a, k, n, v, rfl, La, ok, _, _, rfl, rfl, rfl, _, rfl, iteNS (congrArg V.int e2) ?_⟩⟩
        refine ⟨_, rfl, r, .line, bk n, rfl, Lr, _, rfl, ⟨r, .line, bk n, v, rfl, Lr, okb, ?_⟩⟩
        refine ⟨_, rfl, a, rfl, _, rfl, _, _, rfl, rfl, ⟨k, n, La⟩, ⟨a, k, n, 0 - v, rfl, La, ok, _, _, rfl, rfl, rfl, _, rfl, iteNS (congrArg V.int e3) ?_⟩⟩
        exact ⟨_, _, rfl, xx, tD⟩
      · rintro σ HC ⟨z7, z8, rfl, xC, tC⟩
        exact ⟨_, _, rfl, xC, tC.less (by omega)⟩
    rintro σ HC ⟨z7, z8, rfl, xC, tC⟩
    have La := tB.line xC LaA
    have Lb := tB.line xC LbA
    have Lr := tB.line xC LrA
    have oks := addN_ok ok okm
    have okbm := bk_ok okm
    -- the sum
    refine ⟨_, rfl, _, rfl, a, k, n, b, j, m, rfl, rfl, La, Lb, ⟨a, k, n, b, j, m, rfl, La, Lb, ok, okm, hd, fun r1 HD sD LD => ⟨⟨_, rfl⟩, r1, .line, addN n m, rfl, LD, ⟨r1, .line, _, rfl, LD, oks, fun r2 HE sE LE => ⟨r2, .line, _, rfl, LE, fun p1 HF sF TF => ?_⟩⟩⟩⟩⟩
    have sDF := sD.trans (sE.trans sF)
    refine ⟨_, rfl, b, j, m, rfl, Lb.same sDF, ⟨b, j, m, rfl, Lb.same sDF, okm, fun r3 HG sG LG => ?_⟩⟩
    have sDG := sDF.trans sG
    refine ⟨_, rfl, r3, .line, bk m, r, .line, bk n, rfl, rfl, LG, Lr.same sDG, ⟨r3, .line, bk m, r, .line, bk n, rfl, LG, Lr.same sDG, okbm, okb, hd.symm, fun r4 HH sH LH => ⟨⟨_, rfl⟩, r4, .line, _, rfl, LH, fun p2 HI sI TI => ?_⟩⟩⟩
    rw [← addN_bk ok okm hd] at TI
    have TF' := (((TF.same sG).same sH).same sI)
    refine ⟨.tuple [.int (bk (addN n m)).e, .int (bk (addN n m)).a, .int (bk (addN n m)).r], .tuple [.int (bk (addN n m)).e, .int (bk (addN n m)).a, .int (bk (addN n m)).r], .tup (SqT.of TF') (.cons (.int _) (.cons (.int _) (.cons (.int _) .nil))), .tup (SqT.of TI) (.cons (.int _) (.cons (.int _) (.cons (.int _) .nil))), shaped3 _ _ _, shaped3 _ _ _, ?_⟩
    rw [eqv3]
    refine ⟨_, rfl, iteF ?_⟩
    have sDI := sDG.trans (sH.trans sI)
    have La := La.same sDI
    have Lb := Lb.same sDI
    have Lr := Lr.same sDI
    -- five times
    have ok5 : N3.ok ⟨n.e, n.a, RR n 5⟩ := ⟨ok.1, ok.2.1, ok.2.2.1, by show 0 ≤ (5 - 1) * rl n + n.r; omega⟩
    refine ⟨_, rfl, a, k, n, 5, rfl, rfl, La, ⟨a, k, n, 5, rfl, La, ok, by decide, by decide +kernel, srl, fun r5 HJ sJ LJ => ⟨⟨_, rfl⟩, r5, .line, _, rfl, LJ, ⟨r5, .line, _, rfl, LJ, ok5, fun r6 HK sK LK6 => ?_⟩⟩⟩⟩
    have sJK := sJ.trans sK
    rw [RR_bk n (by omega) 5] at LK6
    refine ⟨_, rfl, r, .line, bk n, 5, rfl, rfl, Lr.same sJK, ⟨r, .line, bk n, 5, rfl, Lr.same sJK, okb, by decide, by decide +kernel, srl, fun r7 HL sL LL => ⟨⟨_, rfl⟩, ?_⟩⟩⟩
    have LK7 := LK6.same sL
    have same5 : eqN ⟨n.e, (bk n).a, RR (bk n) 5⟩ ⟨n.e, (bk n).a, RR (bk n) 5⟩ = true := eqN_self _
    refine rEqL_lines (n := ⟨n.e, (bk n).a, RR (bk n) 5⟩) (m := ⟨n.e, (bk n).a, RR (bk n) 5⟩) LK7 LL rfl fun HM sM => ⟨_, rfl, ?_⟩
    rw [same5]
    refine ⟨_, rfl, iteF ?_⟩
    have sDM := sJK.trans (sL.trans sM)
    have La := La.same sDM
    have Lb := Lb.same sDM
    have Lr := Lr.same sDM
    refine ⟨_, rfl, a, k, n, rfl, La, _, rfl, ⟨a, k, n, b, j, m, rfl, La, Lb, ok, okm, hd, sn, sm, fun HN sN => ?_⟩⟩
    refine ⟨_, rfl, r, .line, bk n, rfl, Lr.same sN, _, rfl, b, j, m, rfl, Lb.same sN, ⟨b, j, m, rfl, Lb.same sN, okm, fun r8 HO sO LO => ?_⟩⟩
    refine ⟨r, .line, bk n, r8, .line, bk m, rfl, (Lr.same sN).same sO, LO, okb, okbm, hd, sn, sm, fun HP sP => ⟨rfl, ?_⟩⟩
    have sAll := sDI.trans (sDM.trans (sN.trans (sO.trans sP)))
    have eb : decide (ldN (bk n) (bk m) ≤ 0) = decide (ldN n m ≤ 0) := decide_eq_decide.mpr (ld_bk ok okm hd)
    rw [eb]
    exact qT rfl (hq _ ((Ext.same sB).trans (xC.trans (Ext.same sAll))) (tC.same sAll))
end
section
variable {w : World} {K : Frag} {mg : Str → Option Value} {base : Heap}
def sp_law (K : Frag) : Sp := fun vs H Q E => ∃ (sa : Addr) (ns : List Int), vs = [.ref sa] ∧ SqL K H sa (ns.map V.int) ∧ ns.length ≤ 63 ∧ ∀ H', Q (.bl true) H'
theorem ok_law (Z : Zs cks fns K mg) : FnOk PP w K mg base (L2.CX PP w) 9 (ga K "law") (fdAt K (ga K "law")) ["script"] (sp_law K) := by
  refine L2.Fun.okX (u_law Z) sc_law (fun vs H Q E h => ?_) (fun cdv A outer s H vs Q E hr h => ?_)
  · obtain ⟨_, _, rfl, _⟩ := h
    rfl
  · obtain ⟨sa, ns, rfl, ⟨hS, hlen, hq⟩⟩ := h
    refine ⟨_, (C8.pss_cut (ps_for (passes_of rfl) rfl (pi_range1 rfl (n_range Z) (pa_cons (pe_callB (call_max2 rfl) rfl (n_max Z) (by decide +kernel) (pa_cons pe_int (pa_cons (pe_callB (call_min2 rfl) rfl (n_min Z) (by decide +kernel) (pa_cons pe_int (pa_cons (pe_callB call_len_seq rfl (n_len Z) (by decide +kernel) (pa_cons (pv 0) pa_nil)) pa_nil))) pa_nil))) pa_nil)) (pg_name (i := 1) sc_law.nd rfl (Or.inl rfl))
        (pss_cons (ps_set (i := 2) sc_law.nd rfl (Or.inl rfl) (pe_call (ok__law_feed Z) (hr.mono (by decide)) rfl (g__law_feed Z) (u__law_feed Z).kp (b__law_feed Z) .nil passL (pa_cons (pv 0) (pa_cons (pv 1) pa_nil))))
      (pss_one (ps_for (passes_of rfl) rfl (pi_list (pe_lst (pa_cons pe_bl (pa_cons pe_bl (pa_cons pe_bl pa_nil))))) (pg_name (i := 3) sc_law.nd rfl (Or.inl rfl))
        (pss_cons (ps_set (i := 4) sc_law.nd rfl (Or.inl rfl) (pe_call (ok__law_chain Z) (hr.mono (by decide)) rfl (g__law_chain Z) (u__law_chain Z).kp (b__law_chain Z) .nil passL (pa_cons (pv 2) (pa_cons (pv 3) pa_nil))))
      (pss_one (ps_if (pt_not (pt_val (pe_call (ok__law_right Z) (hr.mono (by decide)) rfl (g__law_right Z) (u__law_right Z).kp (b__law_right Z) .nil passL (pa_cons (pv 2) (pa_cons (pe_call (ok__law_numbers Z) (hr.mono (by decide)) rfl (g__law_numbers Z) (u__law_numbers Z).kp (b__law_numbers Z) .nil passL (pa_cons (pv 2) (pa_cons (pv 4) (pa_cons (pv 3) pa_nil)))) (pa_cons (pe_call (ok__law_numbers Z) (hr.mono (by decide)) rfl (g__law_numbers Z) (u__law_numbers Z).kp (b__law_numbers Z) .nil passL (pa_cons (pv 2) (pa_cons (pv 4) (pa_cons (pv 3) pa_nil)))) (pa_cons (pv 3) pa_nil)))))))
        (pss_one (ps_ret pe_bl))
        pss_nil)))))))
      (pss_cons (ps_set (i := 5) sc_law.nd rfl (Or.inl rfl) (pe_lst (pa_cons (pe_lmeth0 (pe_make (M_Line Z) (ok_Line_init Z) (hr.mono (by decide)) rfl (g_Line Z) (b_Line_init Z) .nil passL (pa_cons pe_int (pa_cons pe_int (pa_cons pe_int pa_nil)))) (lnF Z) (hm_backward Z) (ok_Line_backward Z) (hr.mono (by decide)) (b_Line_backward Z) passL) (pa_cons (pe_lmeth0 (pe_make (M_Walk Z) (ok_Walk_init Z) (hr.mono (by decide)) rfl (g_Walk Z) (b_Walk_init Z) .nil passL (pa_cons pe_int pa_nil)) (lnF Z) (hm_backward Z) (ok_Line_backward Z) (hr.mono (by decide)) (b_Line_backward Z) passL) (pa_cons (pe_lmeth0 (pe_make (M_Stop Z) (ok_Stop_init Z) (hr.mono (by decide)) rfl (g_Stop Z) (b_Stop_init Z) .nil passL (pa_cons pe_int (pa_cons pe_int pa_nil))) (lnF Z) (hm_backward Z) (ok_Line_backward Z) (hr.mono (by decide)) (b_Line_backward Z) passL) pa_nil)))))
      (pss_one (ps_ret (pe_cmpR (op_eqD hr.units) (pe_lc (own := [("one", 6)]) rfl sc_law.nd (pi_list (pv 5)) (blkOk_by (own := [("one", 6)]) (N := ["script", "k", "feed", "great", "chain", "told", "one"]) (sc := defScope s_law) (by decide +kernel)) (fun _ _ _ _ _ => (pg_name (i := 6) sc_law.nd rfl (Or.inl rfl))) (fun _ _ _ _ _ => pts_nil) (fun _ _ _ _ _ => (pe_call (ok__law_triple Z) (hr.mono (by decide)) rfl (g__law_triple Z) (u__law_triple Z).kp (b__law_triple Z) .nil passL (pa_cons (pv 6) pa_nil)))) (pe_lst (pa_cons (pe_tup (pa_cons pe_int (pa_cons pe_int (pa_cons pe_int pa_nil)))) (pa_cons (pe_tup (pa_cons pe_int (pa_cons pe_int (pa_cons pe_int pa_nil)))) (pa_cons (pe_tup (pa_cons pe_int (pa_cons pe_int (pa_cons pe_int pa_nil)))) pa_nil)))) (nomark _)))))), ?_⟩
    refine ⟨fun σ H2 => ∃ z1 z2 z3 z4 z5 z6, σ = [some (.ref sa), z1, z2, z3, z4, z5, z6], ?_, ?_⟩
    · refine ⟨_, rfl, sa, _, rfl, .inl hS, _, _, rfl, _, _, rfl, _, rfl, ?_⟩
      rw [List.length_map]
      generalize hj : (if (if ((ns.length : Nat) : Int) < 4 then ((ns.length : Nat) : Int) else 4) > 1 then (if ((ns.length : Nat) : Int) < 4 then ((ns.length : Nat) : Int) else 4) else 1) = j
      have hj2 : 1 ≤ j ∧ j ≤ 4 := by
        rw [← hj]
        split <;> split <;> omega
      refine ⟨by omega, by omega, ?_⟩
      refine for_range (lo := 0) (n := j.toNat) (fun i σ H2 => (∃ z1 z2 z3 z4 z5 z6, σ = [some (.ref sa), z1, z2, z3, z4, z5, z6]) ∧ Same H H2) ⟨⟨none, none, none, none, none, none, rfl⟩, Same.refl _⟩ ?_ ?_
      · rintro i σ H1 hi ⟨⟨z1, z2, z3, z4, z5, z6, rfl⟩, s1⟩
        refine ⟨_, rfl, _, rfl, ⟨sa, ns, (0 + (i : Nat)), rfl, s1.seq hS, by omega, fun f H2 s2 nf t2 => ?_⟩⟩
        refine ⟨(by show 3 ≤ sizeLine; decide), fun pl hpl => ⟨pl, rfl, ⟨_, SqL.of upd_same⟩, ?_⟩⟩
        have nfl : ¬ fdM f pl := t2.fresh hpl
        have t2' := (t2.same (Same.new (o := .lst [.bl false, .bl true, .bl false]) hpl)).less (N' := 2 ^ 30) (by decide)
        refine for_list (K := K) (a := pl) (xs := [.bl false, .bl true, .bl false]) (fun m σ H4 => (∃ z3 z4, σ = [some (.ref sa), some (.int (0 + (i : Nat))), some (.ref f), z3, z4, z5, z6]) ∧ Ext (fdM f) H2 H4 ∧ H4 pl = some (.lst [.bl false, .bl true, .bl false]) ∧ Fd f (2 ^ 30 - 54 * 128 * m) H4) ⟨⟨_, _, rfl⟩, Ext.new hpl, upd_same, t2'⟩ (fun m σ H4 _ h => SqL.of h.2.2.1) ?_ ?_
        · rintro m x σ H4 hm ⟨⟨z3', z4', rfl⟩, x4, e4, t4⟩
          have hm2 : m < 3 := (List.getElem?_eq_some_iff.mp hm).1
          obtain ⟨g, rfl⟩ : ∃ g : Bool, x = .bl g := by
            have := List.mem_of_getElem? hm
            simp only [List.mem_cons, List.not_mem_nil, or_false] at this
            rcases this with e | e | e <;> exact ⟨_, e⟩
          rw [show 2 ^ 30 - 54 * 128 * m = ((((2 ^ 30 - 54 * 128 * (m + 1)) + 12 * 128) + 8 * 128) + 8 * 128) + 26 * 128 by omega] at t4
          refine ⟨_, rfl, _, rfl, ⟨f, _, g, rfl, t4, fun pc cs H5 hc x5 npc e5 t5 => ?_⟩⟩
          have ncf : ¬ fdM f pc := t4.fresh npc
          refine ⟨_, rfl, _, rfl, _, rfl, _, rfl, ⟨f, _, pc, cs, g, rfl, t5, e5, ncf, hc, fun p k n H6 ok hin hle hr hr6 x6 np hL t6 => ?_⟩⟩
          have npf : ¬ fdM f p := t5.fresh np
          refine ⟨_, rfl, _, rfl, _, rfl, ⟨f, _, pc, cs, g, rfl, t6, x6 _ _ ncf e5, ncf, hc, fun q j m' H7 om oin ole orr or6 x7 nq oL t7 => ?_⟩⟩
          have nqf : ¬ fdM f q := t6.fresh nq
          have hL7 : L4 H7 p k n := x7 _ _ npf hL
          have lim : limG g ≤ 10 ^ 59 := by cases g <;> decide +kernel
          have fit : n.e ∣ m'.e ∨ m'.e ∣ n.e := by
            rcases hin with a | a
            · rcases oin with b | b
              · exact hc.fit a b
              · rw [b]; exact .inr (Int.one_dvd _)
            · rw [a]; exact .inl (Int.one_dvd _)
          refine ⟨_, rfl, ⟨f, _, p, k, n, q, j, m', g, rfl, t7, hL7, oL, npf, nqf, ok, om, fit, by omega, by omega, hr, fun H8 x8 t8 => ⟨_, rfl, iteF ?_⟩⟩⟩
          have xx := x5.trans (x6.trans (x7.trans x8))
          exact ⟨⟨_, _, rfl⟩, x4.trans xx, xx _ _ nfl e4, t8⟩
        · rintro σ H4 ⟨⟨z3', z4', rfl⟩, x4, _⟩
          refine ⟨⟨_, _, _, _, _, _, rfl⟩, fun b o e => ?_⟩
          have nb : ¬ fdM f b := fun w => by
            rw [show b = f from w] at e
            rw [s1 _ _ e] at nf
            cases nf
          exact x4 _ _ nb (s2 _ _ (s1 _ _ e))
      · rintro σ H2 ⟨h, _⟩
        exact h
    rintro σ H2 ⟨z1, z2, z3, z4, z5, z6, rfl⟩
    have ok1 : N3.ok ⟨15, 3, 7⟩ := ⟨by decide, by decide, by decide, by decide⟩
    have ok2 : N3.ok ⟨1, 0, 7⟩ := ⟨by decide, by decide, by decide, by decide⟩
    have ok3 : N3.ok ⟨15, 3, 0⟩ := ⟨by decide, by decide, by decide, by decide⟩
    intro x dx hx hd hne
    refine ⟨.line, x, dx, ⟨15, 3, 7⟩, rfl, ok1, upd_same, rfl, x, .line, ⟨15, 3, 7⟩, rfl, ⟨dx, upd_same⟩, ⟨x, .line, ⟨15, 3, 7⟩, rfl, ⟨dx, upd_same⟩, ok1, fun r1 HA sA LA => ?_⟩⟩
    intro y dy hy hdy hney
    refine ⟨y, dy, 7, rfl, by decide, upd_same, rfl, y, .walk, ⟨1, 0, 7⟩, rfl, ⟨dy, upd_same⟩, ⟨y, .walk, ⟨1, 0, 7⟩, rfl, ⟨dy, upd_same⟩, ok2, fun r2 HB sB LB => ?_⟩⟩
    have LA : LnAt K HB r1 .line (bk ⟨15, 3, 7⟩) := LnAt.same (H := mkH K HA y dy .walk ⟨1, 0, 7⟩) (LA.same (mkH_same hy hdy)) sB
    intro z dz hz hdz hnez
    refine ⟨z, dz, 15, 3, rfl, by decide, by decide, by decide, upd_same, rfl, z, .stop, ⟨15, 3, 0⟩, rfl, ⟨dz, upd_same⟩, ⟨z, .stop, ⟨15, 3, 0⟩, rfl, ⟨dz, upd_same⟩, ok3, fun r3 HC sC LC => ?_⟩⟩
    have LA : LnAt K HC r1 .line (bk ⟨15, 3, 7⟩) := LnAt.same (H := mkH K HB z dz .stop ⟨15, 3, 0⟩) (LA.same (mkH_same hz hdz)) sC
    have LB : LnAt K HC r2 .line (bk ⟨1, 0, 7⟩) := LnAt.same (H := mkH K HB z dz .stop ⟨15, 3, 0⟩) (LB.same (mkH_same hz hdz)) sC
    refine ⟨(by show 3 ≤ sizeLine; decide), fun pl hpl => ?_⟩
    have sl := Same.new (o := .lst [.ref r1, .ref r2, .ref r3]) hpl
    have el : (upd HC pl (.lst [.ref r1, .ref r2, .ref r3])) pl = some (.lst [.ref r1, .ref r2, .ref r3]) := upd_same
    refine ⟨_, rfl, pl, rfl, ⟨_, SqL.of el⟩, fun D hD => ?_⟩
    have items : ∀ (i : Nat) (x : V), ([.ref r1, .ref r2, .ref r3] : List V)[i]? = some x → ∃ r n, x = .ref r ∧ LnAt K (upd HC pl (.lst [.ref r1, .ref r2, .ref r3])) r .line n ∧ ([bk ⟨15, 3, 7⟩, bk ⟨1, 0, 7⟩, bk ⟨15, 3, 0⟩] : List N3)[i]? = some n := by
      intro i x hx
      match i, hx with
      | 0, hx => exact ⟨r1, _, (Option.some.inj hx).symm, LA.same sl, rfl⟩
      | 1, hx => exact ⟨r2, _, (Option.some.inj hx).symm, LB.same sl, rfl⟩
      | 2, hx => exact ⟨r3, _, (Option.some.inj hx).symm, LC.same sl, rfl⟩
    revert items el hD
    generalize upd HC pl (.lst [.ref r1, .ref r2, .ref r3]) = HD
    intro el hD items
    refine lc_list (K := K) (a := pl) (xs := [.ref r1, .ref r2, .ref r3]) (fun i H4 => Same HD H4 ∧ ∃ ts : List Addr, ts.length = i ∧ H4 D = some (.lst (ts.map V.ref)) ∧ ∀ (m : Nat) t n, ts[m]? = some t → ([bk ⟨15, 3, 7⟩, bk ⟨1, 0, 7⟩, bk ⟨15, 3, 0⟩] : List N3)[m]? = some n → T3 H4 t n) ⟨Same.new hD, [], rfl, upd_same, fun m t n h => by simp at h⟩ (fun i H4 _ h => SqL.of (h.1 _ _ el)) ?_ ?_
    · rintro i x H4 hi ⟨s4, ts, hl, d4, ht⟩
      have hi3 : i < 3 := (List.getElem?_eq_some_iff.mp hi).1
      obtain ⟨r, n, rfl, L, hn⟩ := items i x hi
      refine ⟨rfl, _, rfl, ⟨r, .line, n, rfl, L.same s4, fun p H5 s5 T5 => ⟨_, s5 _ _ d4, ?_, fun b o e => ?_, ts ++ [p], by simp [hl], ?_, ?_⟩⟩⟩
      · rw [List.length_map, hl]
        exact Nat.lt_of_le_of_lt (show i ≤ 3 by omega) (by decide)
      · rw [upd_ne (ne_of_none e hD)]
        exact s5 _ _ (s4 _ _ e)
      · rw [upd_same, List.map_append]
        rfl
      · intro m t n' hm hn'
        have ne : ∀ t n, T3 H5 t n → t ≠ D := fun t n h => ne_of (show H5 t = _ from h) (s5 _ _ d4) (by intro w; cases w)
        by_cases c : m < i
        · rw [List.getElem?_append_left (by omega)] at hm
          have q := (ht m t n' hm hn').same s5
          show (upd H5 D _) t = _
          rw [upd_ne (ne _ _ q)]
          exact q
        · have hmi : m = i := by
            have := (List.getElem?_eq_some_iff.mp hm).1
            simp at this
            omega
          subst hmi
          rw [List.getElem?_append_right (by omega), hl, Nat.sub_self] at hm
          obtain rfl := Option.some.inj hm
          rw [hn] at hn'
          obtain rfl := Option.some.inj hn'
          show (upd H5 D _) _ = _
          rw [upd_ne (ne _ _ T5)]
          exact T5
    rintro H4 ⟨s4, ts, hl, d4, ht⟩
    obtain ⟨t1, t2, t3, rfl⟩ : ∃ t1 t2 t3, ts = [t1, t2, t3] := by
      match ts, hl with
      | [a, b, c], _ => exact ⟨a, b, c, rfl⟩
    have T1 : T3 H4 t1 ⟨15, 5, 7⟩ := ht 0 t1 _ rfl rfl
    have T2 : T3 H4 t2 ⟨1, 0, 7⟩ := ht 1 t2 _ rfl rfl
    have T3' : T3 H4 t3 ⟨15, 12, 0⟩ := ht 2 t3 _ rfl rfl
    refine ⟨(by show 3 ≤ sizeLine; decide), fun q1 hq1 => ?_⟩
    have n5 := Same.new (o := .tup [.int 15, .int 5, .int 7]) hq1
    refine ⟨(by show 3 ≤ sizeLine; decide), fun q2 hq2 => ?_⟩
    have n6 := Same.new (o := .tup [.int 1, .int 0, .int 7]) hq2
    refine ⟨(by show 3 ≤ sizeLine; decide), fun q3 hq3 => ⟨(by show 3 ≤ sizeLine; decide), fun q4 hq4 => ?_⟩⟩
    have n7 := Same.new (o := .tup [.int 15, .int 12, .int 0]) hq3
    have n8 := Same.new (o := .lst [.ref q1, .ref q2, .ref q3]) hq4
    have nn := n5.trans (n6.trans (n7.trans n8))
    refine ⟨.list [.tuple [.int 15, .int 5, .int 7], .tuple [.int 1, .int 0, .int 7], .tuple [.int 15, .int 12, .int 0]], .list [.tuple [.int 15, .int 5, .int 7], .tuple [.int 1, .int 0, .int 7], .tuple [.int 15, .int 12, .int 0]],
      .lst (SqL.of (nn _ _ d4)) (.cons (.tup (SqT.of (T1.same nn)) (.cons (.int _) (.cons (.int _) (.cons (.int _) .nil)))) (.cons (.tup (SqT.of (T2.same nn)) (.cons (.int _) (.cons (.int _) (.cons (.int _) .nil)))) (.cons (.tup (SqT.of (T3'.same nn)) (.cons (.int _) (.cons (.int _) (.cons (.int _) .nil)))) .nil))),
      .lst (SqL.of upd_same) (.cons (.tup (SqT.of ((n6.trans (n7.trans n8)) _ _ upd_same)) (.cons (.int 15) (.cons (.int 5) (.cons (.int 7) .nil)))) (.cons (.tup (SqT.of ((n7.trans n8) _ _ upd_same)) (.cons (.int 1) (.cons (.int 0) (.cons (.int 7) .nil)))) (.cons (.tup (SqT.of (n8 _ _ upd_same)) (.cons (.int 15) (.cons (.int 12) (.cons (.int 0) .nil)))) .nil))), by decide +kernel, by decide +kernel, ?_⟩
    rw [show PyData.eqv _ _ = true from by decide +kernel]
    exact hq _
end
end My
open PySem PySem.W PySem.Calls PyProof.Rows
set_option maxHeartbeats 0 in
theorem PySem.Challenge.cw_onwardlines_k07_lines_backward_holds : PySem.Challenge.rw_onwardlines_k07_lines_backward.Holds := by
  w_on; o_law
  refine HandSHeadRun.head_any (r := My.R) (q := view My.R.prog [25]) (H := My.hk) (ob := My.ob) (M := 20000) (loose := My.loose) (d := HandSHeadRun.topDef My.R.prog 25) (kwd := []) My.ob_eq (by kernel_rfl) (fun s => by kernel_rfl) My.run (by kernel_rfl) (by kernel_rfl) (by kernel_rfl) (by rfl) (by first | assumption | decide +kernel) (by decide +kernel) ⟨rfl, rfl, rfl, rfl, rfl, by decide +kernel⟩ ?hw ?hc
  case hw => w_witness2
  case hc =>
    exact Fw.endM (l := PySem.Challenge.rw_onwardlines_k07_lines_backward) (k := 9) (N := 6) (spL := My.sp_law) rfl (by kernel_rfl) ⟨rfl, by decide, by decide⟩ (by kernel_rfl)
      (fun w K mg base Z _ _ => My.ok_law Z) (fun K mg Z => My.g_law Z) (fun K mg Z s u => Fw.Fun.bindsAny (My.u_law Z) s u (fun _ _ _ _ _ _ => rfl)) (fun K H a ns hl hO hS => ⟨a, ns, rfl, hS, hl, fun _ => rfl⟩)
