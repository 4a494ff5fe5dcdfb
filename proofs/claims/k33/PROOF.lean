import PyProof.Rows.All
import Wide.All
import OpenK.AllK
import Wide.FinOn
import KE.KStateDown
import KE.KSuper
import KE.DatumIndex
import HandS.ForMost
import HandS.ForExc
import HandS.Wide
import HandS.WideBits
import HandS.Property
import HandS.Star
import HandS.IsInst
import HandS.FStr
import HandS.RaiseMore
import HandS.OwnEq
import HandS.Flow
import HandS.Style
import HandS.TryMany
import HandS.MakeKw
import HandS.Defaults
import HandS.Zip
import HandS.Head2
import HandS.HeadEnd
import HandS.HeadHook2
import HandS.Nested
import PyProof.ReprRoads
import PyProof.Rows.StrDigitsNeg
import HandS.Walk
import PyProof.AttrMiss
import OpenK.KCls
import KE.KOpsOwn
import HandS.Conv
import PyProof.InstNe
import PyProof.CallFns
import PySem.Challenge.RW_onwardlines_k33_great_lines_compared
set_option Elab.async false
set_option linter.all false
set_option maxRecDepth 100000
set_option maxHeartbeats 4000000
/-! Fw, part A: what the top has left, read by a hook of our own: checks of the written part, and defs by their places. -/
namespace Fw
open PySem PySem.Spec PyProof.Rows L2
open He (ga ma frG growD frG_in eqO eqO_ok relB relB_ok)
abbrev Frag := PySem.W.Frag
abbrev Ck := Frag → Bool
/-- the function at f: its name, qualified name, parameters, body, scope, the names it closes over -/
abbrev FnM : Type := Option (Str × Str × Arguments × FuncBody × Scope × Addr × List Str × Value × Addr)
def fnM (K : Frag) (f : Addr) : FnM := match K.lookup f with
  | some ⟨_, _, .func fd, _⟩ => some (fd.name, fd.qualname, fd.params, fd.body, fd.scope, fd.globals, fd.closure.map (fun c => c.1), fd.defaults, fd.builtins)
  | _ => none
structure DefM where
  at_ : Frag → Addr
  name : Str
  qual : Str
  st : Stmt
  clo : List Str := []
def DefM.val (d : DefM) : FnM := some (d.name, d.qual, defArgs d.st, .stmts (defBody d.st), defScope d.st, mainGlobals, d.clo, .none, builtinsNs)
def DefM.ok (K : Frag) (d : DefM) : Bool := PySem.W.keepIn K (.ref (d.at_ K)) && (match K.lookup (d.at_ K) with
  | some ⟨_, _, .func fd, _⟩ => PySem.W.codeIn K fd.code d.qual
  | _ => false)
/-- the function object at f -/
def fdAt (K : Frag) (f : Addr) : FuncData := match K.lookup f with
  | some ⟨_, _, .func fd, _⟩ => fd
  | _ => PySem.W.fnOf Str.empty Str.empty ⟨[], [], none, [], [], none, []⟩ [] ⟨.function, [], false, false, []⟩ .none .none .none .none none .none .none
theorem DefM.fun {K : Frag} {d : DefM} (e : fnM K (d.at_ K) = d.val) (c : d.ok K = true) (hc : d.clo = []) : Fun K d.name d.qual d.st (d.at_ K) (fdAt K (d.at_ K)) := by
  obtain ⟨kp, c2⟩ := Bool.and_eq_true_iff.mp c
  unfold fnM at e
  unfold fdAt
  cases q : K.lookup (d.at_ K) with
  | none => rw [q] at c2; cases c2
  | some o =>
    obtain ⟨oc, od, dt, osl⟩ := o
    rw [q] at c2 e
    cases dt with
    | func fd =>
      obtain ⟨n1, n2, n3, n4, n5, n6, n7, n8, n9, n10, n11, n12, n13, n14, n15⟩ := fd
      have e2 : (some (n1, n2, n3, n4, n5, n6, n7.map (fun c => c.1), n8, n15) : FnM) = some (d.name, d.qual, defArgs d.st, .stmts (defBody d.st), defScope d.st, mainGlobals, d.clo, .none, builtinsNs) := e
      rw [hc] at e2
      simp only [Option.some.injEq, Prod.mk.injEq, List.map_eq_nil_iff] at e2
      obtain ⟨h1, h2, h3, h4, h5, h6, h7, h8, h9⟩ := e2
      subst h1 h2 h3 h4 h5 h6 h7 h8 h9
      exact ⟨⟨oc, od, n9, n10, n11, n12, n13, n14, osl, rfl, q, c2⟩, kp⟩
    | _ => cases c2
/-- a def that closes over one name -/
structure FunC (K : Frag) (x qual y : Str) (st : Stmt) (f : Addr) : Prop where
  ex : ∃ (oc : Value) (od : Option Addr) (cc : Addr) (kV doc pm : Value) (an : Option Addr) (cdv ct : Value) (osl : Array (Option Value)),
    K.lookup f = some ⟨oc, od, .func (PySem.W.fnX x qual (defArgs st) (defBody st) (defScope st) [(y, cc)] .none kV doc pm an cdv ct), osl⟩ ∧ PySem.W.codeIn K cdv qual = true
  kp : PySem.W.keepIn K (.ref f) = true
theorem DefM.func {K : Frag} {d : DefM} {y : Str} (e : fnM K (d.at_ K) = d.val) (c : d.ok K = true) (hc : d.clo = [y]) : FunC K d.name d.qual y d.st (d.at_ K) := by
  obtain ⟨kp, c2⟩ := Bool.and_eq_true_iff.mp c
  unfold fnM at e
  cases q : K.lookup (d.at_ K) with
  | none => rw [q] at c2; cases c2
  | some o =>
    obtain ⟨oc, od, dt, osl⟩ := o
    rw [q] at c2 e
    cases dt with
    | func fd =>
      obtain ⟨n1, n2, n3, n4, n5, n6, n7, n8, n9, n10, n11, n12, n13, n14, n15⟩ := fd
      have e2 : (some (n1, n2, n3, n4, n5, n6, n7.map (fun c => c.1), n8, n15) : FnM) = some (d.name, d.qual, defArgs d.st, .stmts (defBody d.st), defScope d.st, mainGlobals, d.clo, .none, builtinsNs) := e
      rw [hc] at e2
      simp only [Option.some.injEq, Prod.mk.injEq] at e2
      obtain ⟨h1, h2, h3, h4, h5, h6, h7, h8, h9⟩ := e2
      obtain ⟨cc, rfl⟩ : ∃ cc, n7 = [(y, cc)] := by
        match n7, h7 with
        | [(a, b)], h7 =>
          simp only [List.map_cons, List.map_nil, List.cons.injEq, and_true] at h7
          exact ⟨b, by rw [h7]⟩
      subst h1 h2 h3 h4 h5 h6 h8 h9
      exact ⟨⟨oc, od, cc, n9, n10, n11, n12, n13, n14, osl, q, c2⟩, kp⟩
    | _ => cases c2

/-! ### the hook -/
/-- what the module's names and the statics reach in n steps -/
def asM (g : Addr → Option Obj) : Nat → List Addr
  | 0 => [mainGlobals, cStatics]
  | n + 1 => growD g (asM g n)
abbrev AlM : Type := Bool × List FnM
def obsM (ck : List Ck) (fn : List DefM) (K : Frag) : AlM := ((ck.all fun f => f K) && fn.all fun d => d.ok K, fn.map fun d => fnM K (d.at_ K))
def valM (fn : List DefM) : AlM := (true, fn.map DefM.val)
def SaysM (ck : List Ck) (fn : List DefM) (K : Frag) : Prop := obsM ck fn K = valM fn
def obsMG (n : Nat) (ck : List Ck) (fn : List DefM) (g : Addr → Option Obj) : AlM := obsM ck fn (frG g (asM g n))
def hookM (n : Nat) (ck : List Ck) (fn : List DefM) : PySem.W.Hook where
  α := AlM
  obs := fun s => obsMG n ck fn s.heap.get?
  val := fun _ => valM fn
  says := fun _ h => ∃ K : Frag, K.In h ∧ SaysM ck fn K
  of := fun _ _ e => ⟨_, frG_in, e⟩
  keeps := fun _ _ _ ⟨K, hK, c⟩ k => ⟨K, PySem.W.Frag.In.keeps hK k, c⟩
theorem obsMG_eq {n : Nat} {ck : List Ck} {fn : List DefM} {g : Addr → Option Obj} {s : Shared} (h : ∀ a, g a = s.heap.get? a) : obsMG n ck fn g = (hookM n ck fn).obs s := by
  have e : g = s.heap.get? := funext h
  rw [e] <;> rfl
/-- what the end leans on -/
structure Zs (ck : List Ck) (fn : List DefM) (K : Frag) (mg : Str → Option Value) : Prop where
  says : SaysM ck fn K
  ns : ∃ h : Heap, K.In h ∧ h.Ns mainGlobals mg
section
variable {ck : List Ck} {fn : List DefM} {K : Frag} {mg : Str → Option Value}
theorem Zs.c (Z : Zs ck fn K mg) (i : Nat) {f : Ck} (h : ck[i]? = some f := by rfl) : f K = true := by
  have c1 := (Bool.and_eq_true_iff.mp (show ((ck.all fun f => f K) && fn.all fun d => d.ok K) = true from congrArg (fun z : AlM => z.1) Z.says)).1
  exact List.all_eq_true.mp c1 f (List.mem_of_getElem? h)
theorem Zs.f0 (Z : Zs ck fn K mg) (i : Nat) {d : DefM} (h : fn[i]? = some d) : fnM K (d.at_ K) = d.val ∧ d.ok K = true := by
  have c2 := (Bool.and_eq_true_iff.mp (show ((ck.all fun f => f K) && fn.all fun d => d.ok K) = true from congrArg (fun z : AlM => z.1) Z.says)).2
  have e : fn.map (fun d => fnM K (d.at_ K)) = fn.map DefM.val := congrArg (fun z : AlM => z.2) Z.says
  have e2 : (fn.map fun d => fnM K (d.at_ K))[i]? = (fn.map DefM.val)[i]? := by rw [e]
  rw [List.getElem?_map, List.getElem?_map, h] at e2
  exact ⟨Option.some.inj e2, List.all_eq_true.mp c2 d (List.mem_of_getElem? h)⟩
theorem Zs.f (Z : Zs ck fn K mg) (i : Nat) {d : DefM} (h : fn[i]? = some d := by rfl) (hc : d.clo = [] := by rfl) : Fun K d.name d.qual d.st (d.at_ K) (fdAt K (d.at_ K)) :=
  DefM.fun (Z.f0 i h).1 (Z.f0 i h).2 hc
theorem Zs.fc (Z : Zs ck fn K mg) (i : Nat) {d : DefM} {y : Str} (h : fn[i]? = some d := by rfl) (hc : d.clo = [y] := by rfl) : FunC K d.name d.qual y d.st (d.at_ K) :=
  DefM.func (Z.f0 i h).1 (Z.f0 i h).2 hc
end
/-! ### checks -/
def cGlo (x : Str) : Ck := fun K => (He.Fa.glo x).ok K
def cFree (x : Str) : Ck := fun K => (He.Fa.free x).ok K
def cInt (x : Str) (i : Int) : Ck := fun K => (He.Fa.int x i).ok K
def cCls (x : Str) : Ck := fun K => (He.Fa.cls x).ok K
def cNoat (x f : Str) : Ck := fun K => (He.Fa.noat x f).ok K
def cMeth (x m : Str) : Ck := fun K => (He.Fa.meth x m).ok K
def cMkr (x : Str) : Ck := fun K => (He.Fa.mkr x).ok K
def cKeep (x : Str) : Ck := fun K => (He.Fa.keep x).ok K
/-- the property f of the class named x; its getter -/
def prA (K : Frag) (C : Addr) (f : Str) : Addr := match PySem.W.recIn K (ma K C f) "property" with
  | some (.ref g :: _) => g
  | _ => 0
def cProp (x f : Str) : Ck := fun K => eqO (PySem.W.findIn K (.ref (ga K x)) f) (some (some (.ref (ma K (ga K x) f)))) &&
  (eqO (PySem.W.specialIn K (.ref (ma K (ga K x) f)) "__get__") (some (some (.builtin "property.__get__"))) && (decide (PySem.W.takesIn K (.ref (ma K (ga K x) f)) = some true) &&
  (match PySem.W.recIn K (ma K (ga K x) f) "property" with
  | some (.ref g :: _) => true
  | _ => false)))
/-- the same getter in both classes -/
def cSameP (x y f : Str) : Ck := fun K => decide (prA K (ga K x) f = prA K (ga K y) f)
def cSameM (x y f : Str) : Ck := fun K => decide (ma K (ga K x) f = ma K (ga K y) f)
/-- an instance of the class named x may be called -/
def cCall (x : Str) : Ck := fun K => eqO (PySem.W.findIn K (.ref (ga K x)) "__call__") (some (some (.ref (ma K (ga K x) "__call__")))) && (PySem.W.isFn K (.ref (ma K (ga K x) "__call__")) && PySem.W.fnIn K (ma K (ga K x) "__call__"))
/-- a text constant of a class -/
def cCon (x f z : Str) : Ck := fun K => (match PySem.W.findIn K (.ref (ga K x)) f with
  | some (some (.str y t)) => decide (y = z) && (eqO (PySem.W.specialIn K (.str y t) "__get__") (some none))
  | _ => false)
section
variable {K : Frag} {mg : Str → Option Value} {ck : List Ck} {fn : List DefM}
theorem Zs.glo (Z : Zs ck fn K mg) {x : Str} (c : cGlo x K = true) : mg x = some (.ref (ga K x)) := let ⟨_, X, G⟩ := Z.ns; He.glo_ok X G c
theorem Zs.free (Z : Zs ck fn K mg) {x : Str} (c : cFree x K = true) : mg x = none := let ⟨_, X, G⟩ := Z.ns; He.free_ok X G c
theorem Zs.int (Z : Zs ck fn K mg) {x : Str} {i : Int} (c : cInt x i K = true) : ∃ u, mg x = some u ∧ RelV (.int i) u := let ⟨_, X, G⟩ := Z.ns; let ⟨t, e⟩ := He.int_ok X G c; ⟨_, e, t, rfl⟩
theorem cls_of {x : Str} (c : cCls x K = true) : Cls K (ga K x) := He.cls_ok c
theorem noat_of {x f : Str} (c : cNoat x f K = true) : NoAttr K (ga K x) f := He.noat_ok c
theorem meth_of {x m : Str} (c : cMeth x m K = true) : Meth K (ga K x) m (ma K (ga K x) m) := He.meth_ok c
theorem mkr_of {x : Str} (c : cMkr x K = true) : Mk K (ga K x) (ma K (ga K x) "__init__") := He.mkr_ok c
theorem prop_of {x f : Str} (c : cProp x f K = true) : PropOf K (ga K x) f (ma K (ga K x) f) (prA K (ga K x) f) := by
  obtain ⟨c1, c⟩ := Bool.and_eq_true_iff.mp c
  obtain ⟨c2, c⟩ := Bool.and_eq_true_iff.mp c
  obtain ⟨c3, c4⟩ := Bool.and_eq_true_iff.mp c
  refine ⟨eqO_ok c1, eqO_ok c2, of_decide_eq_true c3, ?_⟩
  unfold prA
  cases e : PySem.W.recIn K (ma K (ga K x) f) "property" with
  | none => rw [e] at c4; cases c4
  | some l =>
    rw [e] at c4
    match l, c4 with
    | (.ref g :: r), _ => exact ⟨r, rfl⟩
theorem call_of {x : Str} (c : cCall x K = true) : StX.CallO K (ga K x) (ma K (ga K x) "__call__") := by
  obtain ⟨c1, c⟩ := Bool.and_eq_true_iff.mp c
  obtain ⟨c2, c3⟩ := Bool.and_eq_true_iff.mp c
  exact ⟨eqO_ok c1, c2, c3⟩
theorem con_of {x f z : Str} (c : cCon x f z K = true) (cp : PySem.W.copiedNames.contains f = false) : ∃ u, Con K (ga K x) f (.str z) u := by
  unfold cCon at c
  cases e : PySem.W.findIn K (.ref (ga K x)) f with
  | none => rw [e] at c; cases c
  | some r =>
    rw [e] at c
    match r, c, e with
    | some (.str y t), c, e =>
      obtain ⟨c1, c2⟩ := Bool.and_eq_true_iff.mp c
      have e1 : y = z := of_decide_eq_true c1
      exact ⟨.str y t, e, ⟨t, by rw [e1]⟩, eqO_ok c2, cp⟩
end
theorem Fun.bindsAny {K : Frag} {x qual y : Str} {st : Stmt} {f : Addr} {fd : FuncData} (F : Fun K x qual st f fd) (s : Shared) (u : Value)
    (h : ∀ (kV doc pm : Value) (an : Option Addr) (cdv ct : Value), bindArgs (PySem.W.fnOf x qual (defArgs st) (defBody st) (defScope st) .none kV doc pm an cdv ct) ⟨[u], []⟩ = pure [(y, u)]) : BindsTo s fd ⟨[u], []⟩ [(y, u)] := by
  obtain ⟨oc, od, kV, doc, pm, an, cdv, ct, osl, rfl, lk, hcd⟩ := F.ex
  exact .of_eq (h kV doc pm an cdv ct)
/-! ### the end: a law's def keeps its promise -/
theorem endM {l : PySem.W.OpenLaw} {k N : Nat} {q : Program} {loose : List Str} {d : DefRec} {ck : List Ck} {fn : List DefM} {XP : (Str → Option Value) → Heap → Prop} {spL : Frag → Sp}
    (hn : l.most = some 63) (hdf : d.params.defaults = []) (hr : Room k callerA) (hd : d.name = ("law" : Str))
    (F : ∀ (w : World) (K : Frag) (mg : Str → Option Value) (base : Heap), Zs ck fn K mg → K.In base → base.Ns mainGlobals mg → FnOk l.prog w K mg base (L2.CX l.prog w) k (ga K "law") (fdAt K (ga K "law")) ["script"] (spL K))
    (hg : ∀ (K : Frag) (mg : Str → Option Value), Zs ck fn K mg → mg "law" = some (.ref (ga K "law")))
    (hb : ∀ (K : Frag) (mg : Str → Option Value), Zs ck fn K mg → ∀ (s : Shared) (u : Value), BindsTo s (fdAt K (ga K "law")) ⟨[u], []⟩ [("script", u)])
    (hs : ∀ (K : Frag) (H : Hp) (a : Addr) (ns : List Int), ns.length ≤ 63 → Only H → SqL K H a (ns.map V.int) → spL K [.ref a] H (fun v _ => v = .bl true) fun _ _ _ => False) :
    PySem.W.WalkO q loose XP (hookM N ck fn).says l.row.toRowW d [] (fun f vs => PySem.call f vs) := by
  refine Att.attach_call hn hdf fun w s₀ s₁ mg mb fa o pm cd doc a vs ns G Y ho hd' hcd hmg hobj hints hlen hgn => ?_
  obtain ⟨K, KX, c⟩ := Y
  have Z : Zs ck fn K mg := ⟨c, _, KX, G.T.g⟩
  have e : fa = ga K "law" := by
    have h1 := hg K mg Z
    rw [hd] at hmg
    rw [hmg] at h1
    cases h1
    rfl
  subst e
  exact law_call KX G.T.g G.T.b G.T.builtins G.T.nolimit hgn hobj hints (Nat.le_trans hlen (by decide)) hr (fun base h1 h2 => F w K mg base Z h1 h2) (hb K mg Z) (fun H hO hS => hs K H a ns hlen hO hS) fun H e s' h => by
    obtain ⟨_, _, _, _, _, _, _, _, _, _, _, _, z⟩ := h
    exact z.elim
end Fw

/-! Fw, part B: an __init__ that says super().__init__(..) and no more. -/
namespace Fw
open PySem PySem.Spec PyProof.Rows L2
open He (ga ma eqO eqO_ok)
/-- the address that a cell holds; the file that a code object names -/
def cellOf (K : Frag) (cc : Addr) : Option Addr := match K.lookup cc with
  | some ⟨_, _, .cell (some (.ref a)), _⟩ => some a
  | _ => none
theorem cellOf_ok {K : Frag} {cc D : Addr} (h : cellOf K cc = some D) : ∃ cl cld csl, K.lookup cc = some ⟨cl, cld, .cell (some (.ref D)), csl⟩ := by
  unfold cellOf at h
  split at h
  · rename_i a b c d e
    cases h
    exact ⟨_, _, _, e⟩
  · cases h
def fileOf (K : Frag) (v : Value) : Option Str := match v with
  | .ref c => (match K.lookup c with
    | some ⟨_, _, .fields vs, _⟩ => (match (vs.toList[2]? : Option Value) with
      | some (.str y _) => some y
      | _ => none)
    | _ => none)
  | _ => none
theorem fileOf_ok {K : Frag} {v : Value} {z : Str} (h : fileOf K v = some z) : ∃ c ccl cdd vs ccs t, v = .ref c ∧ K.lookup c = some ⟨ccl, cdd, .fields vs, ccs⟩ ∧ vs.toList[2]? = some (.str z t) := by
  unfold fileOf at h
  split at h
  · split at h
    · split at h
      · rename_i e1 _ _ _ e2
        cases h
        exact ⟨_, _, _, _, _, _, rfl, by assumption, by assumption⟩
      · cases h
    · cases h
  · cases h
def cloCell (K : Frag) (f : Addr) : Option Addr := match K.lookup f with
  | some ⟨_, _, .func fd, _⟩ => (match fd.closure with
    | [p] => cellOf K p.2
    | _ => none)
  | _ => none
def fnFile (K : Frag) (f : Addr) : Option Str := match K.lookup f with
  | some ⟨_, _, .func fd, _⟩ => fileOf K fd.code
  | _ => none
/-- what of the written part such a def leans on: f the def, D its class, f2 the __init__ of the class above, z the text's file -/
def supB (K : Frag) (f D f2 : Addr) (z : Str) : Bool :=
  decide (cloCell K f = some D) && (decide (fnFile K f = some z) &&
  ((PySem.W.clsIn K D).isSome && (decide (PySem.W.mroIn K D (.ref D) = some true) && (eqO (PySem.W.ks_superIn K D D "__init__") (some (some (.ref f2))) &&
  (decide (PySem.W.typeIn K (.ref f2) = some (.type "function")) && (PySem.W.fnIn K f2 && (eqO (PySem.W.nsIn K mainGlobals "super") (some none) && eqO (PySem.W.nsIn K cStatics "thirdparty.any") (some none))))))))
def cSup (x y z : Str) : Ck := fun K => supB K (ma K (ga K x) "__init__") (ga K x) (ma K (ga K y) "__init__") z
structure SupOk (K : Frag) (f D f2 : Addr) (z : Str) (cc : Addr) (cdv : Value) : Prop where
  cell : ∃ cl cld csl, K.lookup cc = some ⟨cl, cld, .cell (some (.ref D)), csl⟩
  code : ∃ c ccl cdd vs ccs t, cdv = .ref c ∧ K.lookup c = some ⟨ccl, cdd, .fields vs, ccs⟩ ∧ vs.toList[2]? = some (.str z t)
  cls : ∃ cd, PySem.W.clsIn K D = some cd
  mro : PySem.W.mroIn K D (.ref D) = some true
  sup : PySem.W.ks_superIn K D D "__init__" = some (some (.ref f2))
  ty : PySem.W.typeIn K (.ref f2) = some (.type "function")
  fi : PySem.W.fnIn K f2 = true
  bsup : PySem.W.nsIn K mainGlobals "super" = some none
  thrd : PySem.W.nsIn K cStatics "thirdparty.any" = some none
theorem supB_ok {K : Frag} {f D f2 : Addr} {z : Str} {fd : FuncData} {oc : Value} {od : Option Addr} {osl : Array (Option Value)} {y : Str} {cc : Addr} (h : supB K f D f2 z = true) (hf : K.lookup f = some ⟨oc, od, .func fd, osl⟩) (hc : fd.closure = [(y, cc)]) : SupOk K f D f2 z cc fd.code := by
  obtain ⟨h0, h⟩ := Bool.and_eq_true_iff.mp h
  obtain ⟨h1, h⟩ := Bool.and_eq_true_iff.mp h
  obtain ⟨h2, h⟩ := Bool.and_eq_true_iff.mp h
  obtain ⟨h3, h⟩ := Bool.and_eq_true_iff.mp h
  obtain ⟨h4, h⟩ := Bool.and_eq_true_iff.mp h
  obtain ⟨h5, h⟩ := Bool.and_eq_true_iff.mp h
  obtain ⟨h6, h⟩ := Bool.and_eq_true_iff.mp h
  obtain ⟨h7, h8⟩ := Bool.and_eq_true_iff.mp h
  have c1 : cloCell K f = some D := of_decide_eq_true h0
  have c2 : fnFile K f = some z := of_decide_eq_true h1
  unfold cloCell at c1
  unfold fnFile at c2
  rw [hf] at c1 c2
  dsimp only at c1 c2
  rw [hc] at c1
  exact ⟨cellOf_ok c1, fileOf_ok c2, Option.isSome_iff_exists.mp h2, of_decide_eq_true h3, eqO_ok h4, of_decide_eq_true h5, h6, eqO_ok h7, eqO_ok h8⟩

/-- the scope of such a def -/
structure SupScope (N ps : List Str) (sc : Scope) : Prop where
  kind : sc.kind = .function
  co : sc.isCoroutine = false
  gen : sc.isGenerator = false
  nd : N.Nodup
  pre : N = ps
  par : ∀ x ∈ ps, sc.names.lookup x = some .local
  nocell : ∀ y ∈ sc.names, y.2 ≠ .cell
  fr : ∀ y ∈ sc.names, y.2 = .free → y.1 = "__class__"
  ks : sc.names.lookup ("super" : Str) = some .globalImplicit
  kc : sc.names.lookup ("__class__" : Str) = some .free

/-- the context of such a def's body -/
def supCx (P : Program) (w : World) (K : Frag) (mg : Str → Option Value) (base : Heap) (N : List Str) (qual : Str) (scope : Scope) (f : Addr) (cd : Value) (cc : Addr) (A : Around) (outer : List Env) (s : Shared) (H : Hp) (E : XK) : Cx where
  prog := P
  w := w
  K := K
  mg := mg
  base := base
  A := A.deeper (PySem.W.ksEnv qual scope s.heap.objs.size f cd cc)
  N := N
  s_0 := s
  H_0 := H
  env := PySem.W.ksEnv qual scope s.heap.objs.size f cd cc
  outer := outer
  stack := PySem.W.ksEnv qual scope s.heap.objs.size f cd cc :: outer
  ex := []
  calm := true
  fn := fun _ => false
  pn := []
  xe := fun e s' => wpAny (model P w) (A.deeper (PySem.W.ksEnv qual scope s.heap.objs.size f cd cc)) (leaving (PySem.W.ksEnv qual scope s.heap.objs.size f cd cc) e) (fun _ s'' => L2.CX P w outer H s E e s'') (fun e' s'' => L2.CX P w outer H s E e' s'') s'

theorem rev_look {ps : List Str} {us : List Value} {i : Nat} {x : Str} {u : Value} (nd : ps.Nodup) (h1 : ps[i]? = some x) (h2 : us[i]? = some u) : (ps.zip us).reverse.lookup x = some u := NdefX.zip_look nd h1 h2

theorem sup_inv {P : Program} {w : World} {K : Frag} {mg : Str → Option Value} {base : Heap} {N ps : List Str} {qual : Str} {scope : Scope} {f D f2 cc : Addr} {z : Str} {cd : Value} {A : Around} {outer : List Env} {s : Shared} {h₁ : Heap} {tk : Nat} {H : Hp} {E : XK} {us : List Value} {vs : List V}
    (S : SupScope N ps scope) (O : SupOk K f D f2 z cc cd) (hd : A.handled = none) (e0 : Env0 P w K mg base A outer s H) (hl : vs.length = ps.length) (r : Vals vs us)
    (hns : h₁.Ns s.heap.objs.size (fun x => (ps.zip us).reverse.lookup x)) (hk : ∀ b o, s.heap.get? b = some o → h₁.get? b = some o) :
    Inv (supCx P w K mg base N qual scope f cd cc A outer s H E) [] (L2.start N vs) H { s with heap := h₁, toks := tk } := by
  have noA : ∀ b : Addr, b ∉ (supCx P w K mg base N qual scope f cd cc A outer s H E).ex := fun b z => absurd (show b ∈ ([] : List Addr) from z) (by simp)
  have cl1 : ∀ y c, (supCx P w K mg base N qual scope f cd cc A outer s H E).env.cells.lookup y = some c → y = "__class__" ∧ c = cc := fun y c h => by
    have h' : (match y == ("__class__" : Str) with | true => some cc | false => none) = some c := h
    cases e : (y == ("__class__" : Str)) with
    | true => rw [e] at h'; exact ⟨beq_iff_eq.mp e, (Option.some.inj h').symm⟩
    | false => rw [e] at h'; cases h'
  obtain ⟨cl, cld, csl, hcell⟩ := O.cell
  have KX : K.In s.heap := e0.mod.kin.keeps fun b o e => (e0.bs b o e).1
  refine ⟨⟨e0.mod, S.kind, rfl, rfl, Nat.le_refl _, fun y z c h1 h2 => ?_, fun y hy => ?_, fun y c hf _ => ?_, fun _ => hd, Around.frames_deeper e0.frames, .inr ⟨rfl, rfl⟩, fun b z => absurd z (noA b), e0.bs, e0.bsz, fun b _ _ => noA b, fun b z => absurd z (noA b), e0.funs, e0.frf⟩,
    rfl, e0.bare, Un.kept hk, ⟨_, hns, fun i y v h1 h2 h3 => ?_⟩, fun y c h => ?_, e0.hok.fresh (Nat.le_refl _), fun y c h => ?_, fun p hp => absurd (show p ∈ ([] : List (Addr × Obj)) from hp) (by simp), e0.hok.kept hk, ?_⟩
  · exact (cl1 y c h1).1.trans (cl1 z c h2).1.symm
  · have hy : scope.names.lookup y = some .cell ∨ scope.names.lookup y = some .free := hy
    rcases hy with hy | hy
    · exact absurd rfl (S.nocell _ (PySem.mem_of_lookup hy))
    · have e := S.fr _ (PySem.mem_of_lookup hy) rfl
      have e' : y = "__class__" := e
      subst e'
      exact ⟨cc, by rfl⟩
  · cases (show false = true from hf)
  · have hN : vs.length = N.length := by rw [S.pre]; exact hl
    have hs : L2.start N vs = vs.map some := by
      unfold L2.start
      rw [hN, Nat.sub_self]
      simp
    rw [hs, List.getElem?_map] at h2
    cases e : vs[i]? with
    | none => rw [e] at h2; cases h2
    | some a =>
      rw [e] at h2
      cases h2
      obtain ⟨u, hu, rv⟩ := r.get e
      have hp : ps[i]? = some y := by rw [← S.pre]; exact h1
      have nd : ps.Nodup := by rw [← S.pre]; exact S.nd
      exact ⟨u, rv, .inl ⟨S.par y (List.mem_of_getElem? hp), rev_look nd hp hu⟩⟩
  · obtain ⟨_, rfl⟩ := cl1 y c h
    exact ⟨_, _, hk _ _ (KX _ _ hcell), rfl⟩
  · obtain ⟨_, rfl⟩ := cl1 y c h
    exact (e0.bs _ _ (e0.mod.kin _ _ hcell)).2
  · rw [show (L2.start N vs).length = N.length from ?_]
    rfl
    unfold L2.start
    rw [List.length_append, List.length_map, List.length_replicate, S.pre, hl]
    omega

theorem fn_super {P : Program} {w : World} {K : Frag} {mg : Str → Option Value} {base : Heap} {k : Nat} {f D f2 : Addr} {fd2 : FuncData} {x qual z : Str} {st : Stmt} {N ps ps2 : List Str} {sp sp2 : Sp} {e : Expr} {es : List Expr} {p0 p1 apos pos pos2 : Pos} {ar : Arg} {ta : TA}
    (F : FunC K x qual "__class__" st f) (S : SupScope N ps (defScope st)) (hB : supB K f D f2 z = true) (hz : ((P.main.file : Str) == z) = true) (htop : (P.main.scope.names.lookup ("super" : Str)).isSome = false)
    (hb : defBody st = [.Expr (.Call (.Attribute (.Call (.Name "super" p0) [] [] p1) "__init__" apos) (e :: es) [] pos) pos2])
    (har : ((defArgs st).posonlyargs ++ (defArgs st).args).head? = some ar) (hself : ps[0]? = some ar.arg)
    (F2 : FnOk P w K mg base (L2.CX P w) k f2 fd2 ps2 sp2) (b2 : Binds K fd2 ps2 [])
    (len : ∀ vs H Q E, sp vs H Q E → vs.length = ps.length)
    (ha : ∀ (cdv : Value) (cc : Addr) (A : Around) (outer : List Env) (s : Shared) (H : Hp) (E : XK), PA (supCx P w K mg base N qual (defScope st) f cdv cc A outer s H E) (e :: es) ta)
    {pl : Env → Sem Bool} (ht : ∀ env : Env, eval (.Call (.Attribute (.Call (.Name "super" p0) [] [] p1) "__init__" apos) (e :: es) [] pos) env = (do
      let ov ← attributeBase (.Call (.Name "super" p0) [] [] p1) "__init__" env (eval (.Call (.Name "super" p0) [] [] p1) env)
      standAt apos.atName
      let (g, first) ← holding [ov] (getMethod ov "__init__" (pl env))
      callWith pos g first (backTo pos (starEach (e :: es) env)) []))
    (hst : ∀ env : Env, starEach (e :: es) env = (false, eval e env) :: starEach es env) (hpl : ∀ env : Env, (backTo pos (starEach es env)).any (·.1) = false)
    (hsp : ∀ vs H Q E, sp vs H Q E → ∃ xa dx fs, vs[0]? = some (.ref xa) ∧ H xa = some (.ins D dx fs) ∧ ta (L2.start N vs) H fun us H1 => sp2 (.ref xa :: us) H1 (fun v H2 => Q .non H2) E) :
    FnOk P w K mg base (L2.CX P w) (k + 1) f (fdAt K f) ps sp := by
  obtain ⟨oc, od, cc, kV, doc, pm, an, cdv, ct, osl, lk, hcd⟩ := F.ex
  have efd : fdAt K f = PySem.W.fnX x qual (defArgs st) (defBody st) (defScope st) [("__class__", cc)] .none kV doc pm an cdv ct := by
    unfold fdAt
    rw [lk]
  rw [efd]
  have O : SupOk K f D f2 z cc cdv := supB_ok hB lk rfl
  refine ⟨len, fun A outer s H args us vs Q E hr e0 hbd r hq => ?_⟩
  have hl := len _ _ _ _ hq
  have KX : K.In s.heap := e0.mod.kin.keeps fun b o e => (e0.bs b o e).1
  have lim : s.heap.NoLimit := e0.mod.nolimit.keeps fun b o e => (e0.bs b o e).1
  have hloc : ∀ y ∈ ps.zip us, (defScope st).names.lookup y.1 = some .local := fun ⟨n, v⟩ hy => S.par n (List.of_mem_zip hy).1
  refine PySem.ks_codeAny_call_defAt (fd := PySem.W.fnX x qual (defArgs st) (defBody st) (defScope st) [("__class__", cc)] .none kV doc pm an cdv ct) hr.depth (KX _ _ lk) rfl lim (PySem.W.codeRec_of KX hcd) rfl hbd S.nocell hloc (fun h₁ hns hk₁ => ?_) S.co S.gen S.kind
  have I := sup_inv (qual := qual) (E := E) (tk := s.toks + (ps.zip us).length) S O hr.hd e0 hl r hns hk₁
  obtain ⟨xa, dx, fs, hv0, hx, hta⟩ := hsp _ _ _ _ hq
  -- the body
  have hex : execs (defBody st) (PySem.W.ksEnv qual (defScope st) s.heap.objs.size f cdv cc) = execs [.Expr (.Call (.Attribute (.Call (.Name "super" p0) [] [] p1) "__init__" apos) (e :: es) [] pos) pos2] (PySem.W.ksEnv qual (defScope st) s.heap.objs.size f cdv cc) := by rw [hb]
  show PySem.wpAt (model P w) (A.deeper (PySem.W.ksEnv qual (defScope st) s.heap.objs.size f cdv cc)) (.func (defBody st) (PySem.W.ksEnv qual (defScope st) s.heap.objs.size f cdv cc)) (execs (defBody st) (PySem.W.ksEnv qual (defScope st) s.heap.objs.size f cdv cc)) _ _ _
  rw [hex]
  have hint : interactive (PySem.W.ksEnv qual (defScope st) s.heap.objs.size f cdv cc) = false := I.quiet
  have X1 : K.In h₁ := KX.keeps hk₁
  obtain ⟨cl, cld, csl, hcell⟩ := O.cell
  obtain ⟨c, ccl, cdd, vcs, ccs, tf, ecd, hcode, hvs⟩ := O.code
  obtain ⟨cdD, hcD⟩ := O.cls
  have hvs' : vcs[2]? = some (.str z tf) := by rw [← Array.getElem?_toList]; exact hvs
  obtain ⟨oD, hD1, hD2⟩ : ∃ oD, h₁.get? D = some oD ∧ oD.data = .cls cdD := by
    unfold PySem.W.clsIn at hcD
    split at hcD
    · rename_i ho
      cases hcD
      exact ⟨_, X1 _ _ ho, rfl⟩
    · cases hcD
  obtain ⟨of, hof, hofc⟩ : ∃ of, K.lookup f2 = some of ∧ of.cls = .type "function" := by
    have ht : (K.lookup f2).map (fun o => o.cls) = some (.type "function") := O.ty
    cases q : K.lookup f2 with
    | none => rw [q] at ht; cases ht
    | some o => rw [q] at ht; exact ⟨o, rfl, Option.some.inj ht⟩
  obtain ⟨mA, OM, _⟩ := ins_get I.hok hx
  obtain ⟨odx, J, _⟩ := OM.look
  obtain ⟨mb, hmb, hbb⟩ := e0.mod.blt
  have up0 : ∀ b o, base.get? b = some o → h₁.get? b = some o := fun b o q => hk₁ b o (e0.bs b o q).1
  have hself2 : (fun y => (ps.zip us).reverse.lookup y) ar.arg = some (Value.ref xa) := by
    obtain ⟨u, hu, ru⟩ := r.get hv0
    have ru' : u = Value.ref xa := ru
    subst ru'
    exact rev_look (by rw [← S.pre]; exact S.nd) hself hu
  have hka : (defScope st).names.lookup ar.arg = some .local := S.par _ (List.mem_of_getElem? hself)
  refine PySem.ks_wpAt_execs_cons (PySem.ks_wpAt_Expr_any (PySem.ks_wpAt_MethodCall ?_ (ht _)) hint rfl)
  refine PySem.ks_wpAt_super_base (attr := "__init__") (env := PySem.W.ksEnv qual (defScope st) s.heap.objs.size f cdv cc) (f := f) (cc := c) (ar := ar) (fd := PySem.W.fnX x qual (defArgs st) (defBody st) (defScope st) [("__class__", cc)] .none kV doc pm an cdv ct) S.ks S.kc (by decide) rfl (X1 _ _ lk) rfl har ecd (X1 _ _ hcode) rfl hvs' hz htop ?_
  refine PySem.W.ks_loadName_global S.kind S.ks (PySem.Calls.loadGlobal_builtin (env := PySem.W.ksEnv qual (defScope st) s.heap.objs.size f cdv cc) (e0.mod.glob.keeps up0) (PySem.W.mg_none_of e0.mod.kin e0.mod.glob O.bsup) (hmb.keeps up0) ((hbb _ (by decide +kernel)).trans (by decide +kernel)) ⟨rfl, ?_⟩)
  refine wpAny_loadName_free S.kind S.kc rfl ⟨_, X1 _ _ hcell, rfl⟩ ?_
  refine wpAny_loadName_local S.kind hka hns hself2 ?_
  refine PySem.ks_wpAny_isType_cls hD1 hD2 ⟨rfl, ?_⟩
  refine PySem.ks_wpAny_call_super hD1 hD2 J.at_ J.cls (fun c e => ?_) (PySem.W.looks_mroIn X1 O.mro) (fun h' es' kk => ?_)
  · have := J.no
    unfold PySem.W.notCls at this
    rw [e] at this
    exact Bool.noConfusion this
  -- the super object stands; its __init__, bound
  have I2 := I.kept (h' := h') (t' := s.toks + (ps.zip us).length) kk
  have X2 : K.In h' := X1.keeps kk
  have hal : PySem.W.alongIn K "__init__" ((cdD.mro.dropWhile (· != .ref D)).drop 1) = some (some (.ref f2)) := by
    have q := O.sup
    unfold PySem.W.ks_superIn at q
    rw [hcD] at q
    exact q
  refine PySem.ks_wpAny_getMethod_super es' (PySem.W.looks_opaque X2 O.thrd) (l₀ := cdD.mro) ?_ rfl X2 hal (X2 _ _ hof) hofc (PySem.W.ks_ne X1 J hcD) (by decide) ?_
  · exact fun A Q E s k q => wpAny_bind ((PySem.W.looks_clsIn X2 hcD) A _ E s k (wpAny_pure q))
  have km : ∀ b o, h'.get? b = some o → (h'.push { cls := .type "method", data := .fields #[.ref f2, .ref xa] }).get? b = some o := fun b o q => Heap.get?_push_of_some _ q
  have I3 := I2.kept (h' := h'.push { cls := .type "method", data := .fields #[.ref f2, .ref xa] }) (t' := s.toks + (ps.zip us).length + 1) km
  have hq3 : (h'.push { cls := .type "method", data := .fields #[.ref f2, .ref xa] }).get? h'.objs.size = some (PySem.W.methodObj (.ref f2) (.ref xa)) := Heap.get?_push_at rfl rfl
  have I4 := I3.pins_of (pins' := [(h'.objs.size, PySem.W.methodObj (.ref f2) (.ref xa))]) fun p hp => by
    have e : p = (h'.objs.size, PySem.W.methodObj (.ref f2) (.ref xa)) := by simpa using hp
    subst e
    exact ⟨hq3, I2.hok.fresh (Nat.le_refl _), Nat.ne_of_gt I2.lt, I2.nofs (Nat.le_refl _), fun v q => nomatch q⟩
  have hE : (backToKw pos (keywordEach [] (PySem.W.ksEnv qual (defScope st) s.heap.objs.size f cdv cc))) = [] := rfl
  rw [hst]
  refine PySem.W.callWith_of (P := PySem.W.MethP K h'.objs.size f2 (.ref xa)) (by show ((false || (backTo pos (starEach es _)).any (fun x => x.1)) || false) = false; rw [hpl]; rfl) (PySem.W.keeps_M O.fi) (Calls.evalArgs_plain ?_)
  have hrun := (ha cdv cc A outer s H E).run pos _ _ _ _ _ I4 hta
  rw [hst] at hrun
  refine thn hrun fun us2 s4 ⟨vs2, H2, I5, r2, q2⟩ => ?_
  have hm4 : s4.heap.get? h'.objs.size = some (PySem.W.methodObj (.ref f2) (.ref xa)) := (I5.pin _ (List.mem_cons_self ..)).1
  refine ⟨⟨hm4, I5.kIn⟩, wpAny_call (PySem.W.method_call hm4 ?_)⟩
  have hr2 : Room k (supCx P w K mg base N qual (defScope st) f cdv cc A outer s H E).A := hr.deeper _
  refine codeAny_mono (run_fnR (us := .ref xa :: us2) (vs := .ref xa :: vs2) ((F2.raw b2 .nil).imp fun vs H Q E q => by rw [List.append_nil]; exact q) hr2 (passes_call (takes_of rfl rfl rfl rfl) fun _ _ _ _ q => q) I5 (.cons rfl r2) q2) fun rr s5 hq5 => ?_
  cases rr with
  | error er => exact hq5
  | ok fl =>
    cases fl with
    | ret u =>
      obtain ⟨v, H', J5, _, q⟩ := hq5
      exact wpAt_of_wpAny (wpAny_execs_nil ⟨.non, H', J5.os, J5.bare, J5.base, J5.hok, rfl, q⟩)
    | next => exact False.elim hq5
    | brk => exact False.elim hq5
    | cont => exact False.elim hq5
theorem FunC.binds {K : Frag} {x qual y : Str} {st : Stmt} {f : Addr} {ps : List Str} (F : FunC K x qual y st f)
    (h : ∀ (cc : Addr) (kV doc pm : Value) (an : Option Addr) (cdv ct : Value) (us : List Value), us.length = ps.length → bindArgs (PySem.W.fnX x qual (defArgs st) (defBody st) (defScope st) [(y, cc)] .none kV doc pm an cdv ct) ⟨us, []⟩ = pure (ps.zip us)) : L2.Binds K (fdAt K f) ps [] := by
  obtain ⟨oc, od, cc, kV, doc, pm, an, cdv, ct, osl, lk, hcd⟩ := F.ex
  have efd : fdAt K f = PySem.W.fnX x qual (defArgs st) (defBody st) (defScope st) [(y, cc)] .none kV doc pm an cdv ct := by
    unfold fdAt
    rw [lk]
  rw [efd]
  exact .all (h cc kV doc pm an cdv ct)
end Fw

/-! Fw, part C: lines of any kind; calls by keywords alone; what stays of the heap. -/
namespace Fw
open PySem PySem.Spec PyProof.Rows L2
open He (ga ma eqO eqO_ok)
/-! ### calls -/
/-- f(k = v, ..), no positional value -/
theorem pe_callN0 {X : Cx} {CX : CXT} {k : Nat} {f : Addr} {fd : FuncData} {ps ks : List Str} {sp : Sp} {E : XK} {x : Str} {p pos : Pos} {kws : List Keyword} {tk : TA} {g : List Value → List Value → List Value} {gV : List V → List V → List V}
    (F : FnOk X.prog X.w X.K X.mg X.base CX k f fd ps sp) (hr : Room k X.A) (hg : Gl X x) (hm : X.mg x = some (.ref f)) (hk : PySem.W.keepIn X.K (.ref f) = true) (hb : KBn X.K fd ps 0 ks g gV) (hx : Passes CX X E) (hkw : PK X kws tk)
    (hall : (backToKw pos (keywordEach kws X.env)).all (fun q => q.1.isSome) = true := by rfl) (hks : (backToKw pos (keywordEach kws X.env)).filterMap (fun q => q.1) = ks := by rfl) (hdb : (x == ("__debug__" : Str)) = false := by decide)
    (hpl : ((backTo pos (starEach [] X.env)).any (fun q => q.1) || (backToKw pos (keywordEach kws X.env)).any (fun q => q.1.isNone)) = false := by rfl) :
    PE X (.Call (.Name x p) [] kws pos) (tCallN 0 ks.length sp gV E tNil tk) := by
  refine ⟨fun pins s σ H Q I h => ?_⟩
  refine wpAny_Call_Name_kw (ld_glob I hg hm ?_ hdb)
  refine PySem.W.callWith_KW0 (h₀ := X.base) I.ok.mod.kin hk hall ?_ hpl
  refine thn (hkw.run pos pins s σ H _ I h) fun ws s2 ⟨zs, H2, I2, rz, l1, l2, q2⟩ => ⟨I2.kIn, ?_⟩
  rw [hks]
  exact run_fnN (us := []) (vs := []) F hr hb hx I2 .nil rz rfl l2 q2
/-- how keywords bind where the def has no defaults: h by cases of the lists, each one rfl -/
theorem Fun.kb {K : Frag} {x qual : Str} {st : Stmt} {f : Addr} {fd : FuncData} {ps : List Str} (F : Fun K x qual st f fd) (n : Nat) (ks : List Str) (g : {α : Type} → List α → List α → List α)
    (hrel : ∀ {vs zs : List V} {us ws : List Value}, Vals vs us → Vals zs ws → Vals (g vs zs) (g us ws))
    (h : ∀ (kV doc pm : Value) (an : Option Addr) (cdv ct : Value) (us ws : List Value), us.length = n → ws.length = ks.length → bindArgs (PySem.W.fnOf x qual (defArgs st) (defBody st) (defScope st) .none kV doc pm an cdv ct) ⟨us, ks.zip ws⟩ = pure (ps.zip (g us ws))) :
    KBn K fd ps n ks g g := by
  obtain ⟨oc, od, kV, doc, pm, an, cdv, ct, osl, rfl, lk, hcd⟩ := F.ex
  exact ⟨fun s us ws _ l1 l2 => .of_eq (h kV doc pm an cdv ct us ws l1 l2), fun r1 r2 => hrel r1 r2⟩
/-- the items at these places -/
def pick {α : Type} (l : List α) (is : List Nat) : List α := is.filterMap fun i => l[i]?
theorem Vals.pick {vs : List V} {us : List Value} (r : Vals vs us) (is : List Nat) : Vals (Fw.pick vs is) (Fw.pick us is) := by
  unfold Fw.pick
  induction is with
  | nil => exact .nil
  | cons i is ih =>
    rw [List.filterMap_cons, List.filterMap_cons]
    cases e : vs[i]? with
    | none => rw [r.none_of e]; exact ih
    | some v =>
      obtain ⟨u, hu, rv⟩ := r.get e
      rw [hu]
      exact .cons rv ih
/-! ### lines -/
inductive LK where
  | line | walk | stop
  deriving DecidableEq
def cA (K : Frag) : LK → Addr
  | .line => ga K "Line"
  | .walk => ga K "Walk"
  | .stop => ga K "Stop"
/-- the numbers of a line -/
structure N3 where
  e : Int
  a : Int
  r : Int
  deriving DecidableEq
def N3.ok (n : N3) : Prop := 1 ≤ n.e ∧ 0 ≤ n.a ∧ n.a < n.e ∧ 0 ≤ n.r
def lf (n : N3) : List (Str × V) := putF "held_ride" (.int n.r) (putF "held_at" (.int n.a) (putF "held_every" (.int n.e) []))
theorem lf_e (n : N3) : (lf n).lookup ("held_every" : Str) = some (.int n.e) := by
  unfold lf
  rw [lookup_putF, if_neg (by decide +kernel), lookup_putF, if_neg (by decide +kernel), lookup_putF, if_pos rfl]
theorem lf_a (n : N3) : (lf n).lookup ("held_at" : Str) = some (.int n.a) := by
  unfold lf
  rw [lookup_putF, if_neg (by decide +kernel), lookup_putF, if_pos rfl]
theorem lf_r (n : N3) : (lf n).lookup ("held_ride" : Str) = some (.int n.r) := by
  unfold lf
  rw [lookup_putF, if_pos rfl]
theorem lf_no (n : N3) {m : Str} (h1 : ¬ m = "held_ride") (h2 : ¬ m = "held_at") (h3 : ¬ m = "held_every") : (lf n).lookup m = none := by
  unfold lf
  rw [lookup_putF, if_neg h1, lookup_putF, if_neg h2, lookup_putF, if_neg h3]
  rfl
/-- at a stands a line of the kind k with the numbers n -/
def LnAt (K : Frag) (H : Hp) (a : Addr) (k : LK) (n : N3) : Prop := ∃ dx, H a = some (.ins (cA K k) dx (lf n))
theorem LnAt.same {K : Frag} {H H' : Hp} {a : Addr} {k : LK} {n : N3} (h : LnAt K H a k n) (s : Same H H') : LnAt K H' a k n := let ⟨dx, e⟩ := h; ⟨dx, s _ _ e⟩
/-- what the top must say of the three classes -/
structure LnF (K : Frag) : Prop where
  cls : ∀ k, Cls K (cA K k)
  nE : ∀ k, NoAttr K (cA K k) "held_every"
  nA : ∀ k, NoAttr K (cA K k) "held_at"
  nR : ∀ k, NoAttr K (cA K k) "held_ride"
/-- e.f, a property of lines whose getter hands back the field hf -/
def tLG (K : Frag) (ta : TE) (g : N3 → Int) : TE := fun σ H Q => ta σ H fun x H1 => ∃ a k n, x = .ref a ∧ LnAt K H1 a k n ∧ Q (.int (g n)) H1
theorem pe_lget {X : Cx} {f hf : Str} {g : Addr} {fd : FuncData} {e : Expr} {pos : Pos} {ta : TE} {gg : N3 → Int} (he : PE X e ta) (L : LnF X.K) (hp : ∀ k, ∃ p, PropOf X.K (cA X.K k) f p g)
    (F : ∀ k, FnOk X.prog X.w X.K X.mg X.base (L2.CX X.prog X.w) 1 g fd ["self"] (getSp (cA X.K k) hf)) (hb : Binds X.K fd ["self"] []) (hr : Room 2 X.A) (hl : ∀ n, (lf n).lookup hf = some (.int (gg n)))
    (hab : attributeBase e f X.env (eval e X.env) = eval e X.env) : PE X (.Attribute e f pos) (tLG X.K ta gg) := by
  refine ⟨fun pins s σ H Q I h => ?_⟩
  refine attr_of hab (thn (he.run pins s σ H _ I h) fun u s1 ⟨x, H1, I1, rx, a, k, n, ex, ⟨dx, ea⟩, q⟩ => ?_)
  subst ex
  obtain rfl : u = Value.ref a := rx
  obtain ⟨p, hp⟩ := hp k
  exact getprop_ok I1 ea (L.cls k) hp (F k) hr hb .nil passL ⟨a, dx, _, _, rfl, ea, hl n, q⟩
theorem ok_getter {P : Program} {w : World} {K : Frag} {mg : Str → Option Value} {base : Heap} {CX : CXT} {x qual hf : Str} {st : Stmt} {g C : Addr} {fd : FuncData} {N : List Str} {p1 p2 p3 : Pos} (F : Fun K x qual st g fd) (S : FnScope N ["self"] (defScope st))
    (hN : N[0]? = some ("self" : Str)) (hb : defBody st = [.Return (some (.Attribute (.Name "self" p1) hf p2)) p3]) (c : Cls K C) (n : NoAttr K C hf) : FnOk P w K mg base CX 1 g fd ["self"] (getSp C hf) := by
  obtain ⟨oc, od, kV, doc, pm, an, cdv, ct, osl, rfl, lk, hcd⟩ := F.ex
  exact fn_getter lk hcd S hN hb c n
/-- o.m(e, ..), o a line, m the same def in all three classes -/
def tLM (K : Frag) (sp : Sp) (E : XK) (ta : TE) (t : TA) : TE := fun σ H Q => ta σ H fun x H1 => ∃ a k n, x = .ref a ∧ LnAt K H1 a k n ∧ t σ H1 fun vs H2 => sp (.ref a :: vs) H2 Q E
theorem pe_lmeth {X : Cx} {k0 : Nat} {f : Addr} {fd : FuncData} {ps : List Str} {sp : Sp} {E : XK} {m : Str} {pos apos : Pos} {e o : Expr} {es : List Expr} {ta : TE} {t : TA} {pl : Sem Bool} (he : PE X o ta) (L : LnF X.K) (hm : ∀ k, Meth X.K (cA X.K k) m f)
    (F : FnOk X.prog X.w X.K X.mg X.base (L2.CX X.prog X.w) k0 f fd ps sp) (hr : Room k0 X.A) (hb : Binds X.K fd ps []) (hx : Passes (L2.CX X.prog X.w) X E) (ha : PA X (e :: es) t)
    (n1 : ¬ m = "held_ride" := by decide +kernel) (n2 : ¬ m = "held_at" := by decide +kernel) (n3 : ¬ m = "held_every" := by decide +kernel)
    (hst : starEach (e :: es) X.env = (false, eval e X.env) :: starEach es X.env := by rfl) (hpl : (backTo pos (starEach es X.env)).any (fun q => q.1) = false := by rfl)
    (ht : eval (.Call (.Attribute o m apos) (e :: es) [] pos) X.env = (do
      let ov ← eval o X.env
      standAt apos.atName
      let (g, first) ← holding [ov] (getMethod ov m pl)
      callWith pos g first (backTo pos (starEach (e :: es) X.env)) (backToKw pos (keywordEach [] X.env))) := by rfl) :
    PE X (.Call (.Attribute o m apos) (e :: es) [] pos) (tLM X.K sp E ta t) := by
  refine ⟨fun pins s σ H Q I h => ?_⟩
  refine PySem.W.methodCall_KW (pl := pl) (thn (he.run pins s σ H _ I h) fun u s1 ⟨x, H1, I1, rx, a, k, n, ex, ⟨dx, ea⟩, q⟩ => ?_) ht
  subst ex
  obtain rfl : u = Value.ref a := rx
  refine getmeth_ok I1 ea (L.cls k) (hm k) (lf_no n n1 n2 n3) ?_
  refine PySem.W.callWith_K (first := [.ref a]) (h₀ := X.base) I.ok.mod.kin (hm k).kp (thn (ha.run pos pins s1 σ H1 _ I1 q) fun us s2 ⟨vs, H2, I2, r, q2⟩ => ⟨I2.kIn, ?_⟩) hst hpl
  exact run_fn (us := .ref a :: us) (vs := .ref a :: vs) F hr hb .nil hx I2 (.cons rfl r) (by rw [List.append_nil]; exact q2)
/-- o.m(), o a line -/
theorem pe_lmeth0 {X : Cx} {k0 : Nat} {f : Addr} {fd : FuncData} {ps : List Str} {sp : Sp} {E : XK} {m : Str} {pos apos : Pos} {o : Expr} {ta : TE} {pl : Sem Bool} (he : PE X o ta) (L : LnF X.K) (hm : ∀ k, Meth X.K (cA X.K k) m f)
    (F : FnOk X.prog X.w X.K X.mg X.base (L2.CX X.prog X.w) k0 f fd ps sp) (hr : Room k0 X.A) (hb : Binds X.K fd ps []) (hx : Passes (L2.CX X.prog X.w) X E)
    (n1 : ¬ m = "held_ride" := by decide +kernel) (n2 : ¬ m = "held_at" := by decide +kernel) (n3 : ¬ m = "held_every" := by decide +kernel)
    (ht : eval (.Call (.Attribute o m apos) [] [] pos) X.env = (do
      let ov ← eval o X.env
      standAt apos.atName
      let (g, first) ← holding [ov] (getMethod ov m pl)
      callWith pos g first (backTo pos (starEach [] X.env)) (backToKw pos (keywordEach [] X.env))) := by rfl) :
    PE X (.Call (.Attribute o m apos) [] [] pos) (tLM X.K sp E ta tNil) := by
  refine ⟨fun pins s σ H Q I h => ?_⟩
  refine PySem.W.methodCall_KW (pl := pl) (thn (he.run pins s σ H _ I h) fun u s1 ⟨x, H1, I1, rx, a, k, n, ex, ⟨dx, ea⟩, q⟩ => ?_) ht
  subst ex
  obtain rfl : u = Value.ref a := rx
  refine getmeth_ok I1 ea (L.cls k) (hm k) (lf_no n n1 n2 n3) ?_
  exact PySem.W.callWith_K0 (first := [.ref a]) I1.kIn (hm k).kp (run_fn (us := [.ref a]) (vs := [.ref a]) F hr hb .nil hx I1 (.cons rfl .nil) (by rw [List.append_nil]; exact q))
/-- line(e, ..) -/
theorem pe_lcall {X : Cx} {k0 : Nat} {g : Addr} {sp : Sp} {E : XK} {fe e : Expr} {es : List Expr} {tf : TE} {t : TA} {pos : Pos} (hf : PE X fe tf) (c : ∀ k, StX.CallO X.K (cA X.K k) g) (F : FnR X.prog X.w X.K X.mg X.base (L2.CX X.prog X.w) k0 g sp) (hr : Room k0 X.A) (hx : Passes (L2.CX X.prog X.w) X E)
    (ha : PA X (e :: es) t) (ht : eval (.Call fe (e :: es) [] pos) X.env = (do callWith pos (← eval fe X.env) [] (backTo pos (starEach (e :: es) X.env)) (backToKw pos (keywordEach [] X.env))) := by rfl)
    (he : starEach (e :: es) X.env = (false, eval e X.env) :: starEach es X.env := by rfl) (hpl : (backTo pos (starEach es X.env)).any (fun q => q.1) = false := by rfl) :
    PE X (.Call fe (e :: es) [] pos) (fun σ H Q => tf σ H fun y H1 => ∃ a, y = V.ref a ∧ t σ H1 fun vs H2 => (∃ k n, LnAt X.K H2 a k n) ∧ sp (V.ref a :: vs) H2 Q E) := by
  refine ⟨fun pins s σ H Q I h => ?_⟩
  refine Call_ (thn (hf.run pins s σ H _ I h) fun u s1 ⟨y, H1, I1, ry, a, ey, q⟩ => ?_) ht
  subst ey
  obtain rfl : u = Value.ref a := ry
  refine StX.callO_with (thn (ha.run pos pins s1 σ H1 _ I1 q) fun us s2 ⟨vs, H2, I2, r, ⟨k, n, dx, hi⟩, q2⟩ => ?_) he hpl
  have hI : StX.InsC X H2 a (cA X.K k) := .inr ⟨dx, _, hi⟩
  obtain ⟨ox, od, J, hd⟩ := StX.insC_at I2 hI
  exact ⟨⟨_, ox, od, J, hd⟩, StX.run_callO (c k) F hr hx I2 hI r q2⟩

/-! ### heaps: what stays -/
/-- all but what M holds is as it was -/
def Ext (M : Addr → Prop) (H H' : Hp) : Prop := ∀ b o, ¬ M b → H b = some o → H' b = some o
theorem Ext.refl {M : Addr → Prop} {H : Hp} : Ext M H H := fun _ _ _ e => e
theorem Ext.trans {M : Addr → Prop} {H H1 H2 : Hp} (a : Ext M H H1) (b : Ext M H1 H2) : Ext M H H2 := fun c o n e => b c o n (a c o n e)
theorem Ext.same {M : Addr → Prop} {H H' : Hp} (s : Same H H') : Ext M H H' := fun b o _ e => s b o e
theorem Same.new {H : Hp} {p : Addr} {o : HO} (h : H p = none) : Same H (upd H p o) := fun b u e => by rw [upd_ne (ne_of_none e h)]; exact e
theorem Ext.new {M : Addr → Prop} {H : Hp} {p : Addr} {o : HO} (h : H p = none) : Ext M H (upd H p o) := Ext.same (Same.new h)
end Fw

/-! Fw, part D: the tank of draws; numbers; the mathematics of one line taken again and again. -/
namespace Fw
open PySem PySem.Spec PyProof.Rows L2
/-! ### great numbers -/
theorem pow_lt_two {n : Nat} {i : Int} (h1 : -(2 ^ n : Int) < i) (h2 : i < (2 ^ n : Int)) : i.natAbs < 2 ^ n := by
  have e : ((2 ^ n : Nat) : Int) = (2 : Int) ^ n := by simp
  rw [← e] at h1 h2
  omega
/-- i lies within b bits -/
def Sz (b : Nat) (i : Int) : Prop := i.natAbs < 2 ^ b
theorem Sz.of {b : Nat} {i : Int} (h1 : -(2 ^ b : Int) < i) (h2 : i < (2 ^ b : Int)) : Sz b i := pow_lt_two h1 h2
theorem Sz.mono {a b : Nat} {i : Int} (h : Sz a i) (l : a ≤ b) : Sz b i := Nat.lt_of_lt_of_le h (Nat.pow_le_pow_right (by decide) l)
theorem Sz.mul {a b : Nat} {i j : Int} (h : Sz a i) (g : Sz b j) : Sz (a + b) (i * j) := wide_lt h g
theorem Sz.add {a : Nat} {i j : Int} (h : Sz a i) (g : Sz a j) : Sz (a + 1) (i + j) := by
  unfold Sz at *
  rw [Nat.pow_succ]
  omega
theorem Sz.sub {a : Nat} {i j : Int} (h : Sz a i) (g : Sz a j) : Sz (a + 1) (i - j) := by
  unfold Sz at *
  rw [Nat.pow_succ]
  omega
theorem Sz.mod {a : Nat} {i j : Int} (h : 0 < j) (g : Sz a j) : Sz a (i % j) := by
  have h1 := Int.emod_nonneg i (show j ≠ 0 by omega)
  have h2 := Int.emod_lt_of_pos i h
  unfold Sz at *
  omega
theorem Sz.cmul {a b : Nat} {i j : Int} (h : Sz a i) (g : Sz b j) (ha : 0 < a := by decide) (hb : 0 < b := by decide) (l : a + b ≤ 1000000 := by decide) : CMulW i j := wide_mul h g ha hb l
theorem Sz.div {b : Nat} {i j : Int} (h : 0 < j) (g : Sz b j) (hb : 0 < b := by decide) (l : b ≤ 9000 := by decide) : CDivW i j := wide_div h g hb l
theorem Sz.le {a : Nat} {i j : Int} (h0 : 0 ≤ i) (h : i ≤ j) (g : Sz a j) : Sz a i := wide_le h0 h g
/-! ### the tank: a list [c, mixed, drawn], c the list of the digits -/
def tkM (a c : Addr) (b : Addr) : Prop := b = a ∨ b = c
abbrev M127 : Int := 170141183460469231731687303715884105727
/-- N draws may still be made -/
def Tk (a c : Addr) (N : Nat) (H : Hp) : Prop := ∃ (ds : List Int) (m n : Int), H a = some (.lst [.ref c, .int m, .int n]) ∧ H c = some (.lst (ds.map V.int)) ∧ ds.length ≤ 100 ∧ 0 ≤ m ∧ m < M127 ∧ 0 ≤ n ∧ n + (N : Int) ≤ 2 ^ 40
theorem Tk.less {a c : Addr} {N N' : Nat} {H : Hp} (h : Tk a c N H) (l : N' ≤ N) : Tk a c N' H := by
  obtain ⟨ds, m, n, h1, h2, h3, h4, h5, h6, h7⟩ := h
  exact ⟨ds, m, n, h1, h2, h3, h4, h5, h6, by omega⟩
theorem Tk.same {a c : Addr} {N : Nat} {H H' : Hp} (h : Tk a c N H) (s : Same H H') : Tk a c N H' := by
  obtain ⟨ds, m, n, h1, h2, h3⟩ := h
  exact ⟨ds, m, n, s _ _ h1, s _ _ h2, h3⟩
theorem Tk.ne {a c : Addr} {N : Nat} {H : Hp} (h : Tk a c N H) : a ≠ c := by
  obtain ⟨ds, m, n, h1, h2, _⟩ := h
  intro e
  subst e
  rw [h1] at h2
  cases ds with
  | nil => cases h2
  | cons d r => cases h2
/-- an object that is no list is none of the tank's -/
theorem Tk.out {a c p : Addr} {N : Nat} {H : Hp} {o : HO} (h : Tk a c N H) (e : H p = some o) (d : ∀ xs, o ≠ .lst xs) : ¬ tkM a c p := by
  obtain ⟨ds, m, n, h1, h2, _⟩ := h
  rintro (rfl | rfl)
  · rw [h1] at e; cases e; exact d _ rfl
  · rw [h2] at e; cases e; exact d _ rfl
theorem Tk.fresh {a c p : Addr} {N : Nat} {H : Hp} (h : Tk a c N H) (e : H p = none) : ¬ tkM a c p := by
  obtain ⟨ds, m, n, h1, h2, _⟩ := h
  rintro (rfl | rfl)
  · rw [h1] at e; cases e
  · rw [h2] at e; cases e
theorem Tk.tup {a c p : Addr} {N : Nat} {H H' : Hp} {xs : List V} (h : Tk a c N H) (x : Ext (tkM a c) H H') (e : H p = some (.tup xs)) : H' p = some (.tup xs) := x _ _ (h.out e fun _ z => nomatch z) e
theorem Tk.line {K : Frag} {a c p : Addr} {N : Nat} {H H' : Hp} {k : LK} {n : N3} (h : Tk a c N H) (x : Ext (tkM a c) H H') (e : LnAt K H p k n) : LnAt K H' p k n := let ⟨dx, e⟩ := e; ⟨dx, x _ _ (h.out e fun _ z => nomatch z) e⟩
theorem Tk.script {K : Frag} {a c p : Addr} {N : Nat} {H H' : Hp} {xs : List V} (h : Tk a c N H) (x : Ext (tkM a c) H H') (e : SqL K H p xs) (hn : ¬ tkM a c p) : SqL K H' p xs := by
  rcases e with (e | ⟨o, e⟩) | e
  · exact .inl (.inl (x _ _ hn e))
  · exact .inl (.inr ⟨o, x _ _ hn e⟩)
  · exact .inr e
/-- sip(tank, many): some number below many, and one draw less -/
def spSip (K : Frag) : Sp := fun vs H Q _ => ∃ (a c : Addr) (N : Nat) (m : Int), vs = [.ref a, .int m] ∧ Tk a c (N + 1) H ∧ 1 ≤ m ∧ Sz 8000 m ∧
  ∀ (v : Int) (H' : Hp), 0 ≤ v → v < m → Ext (tkM a c) H H' → Tk a c N H' → Q (.int v) H'
/-- what the deep == says of a list of ints and the empty list -/
theorem eqv_nil (ds : List PyData) : PyData.eqv (.list ds) (.list []) = decide (ds = []) := by
  cases ds with
  | nil => rfl
  | cons d r => rfl
theorem dpAll_ints {K : Frag} {H : Hp} : ∀ ds : List Int, DpAll K H (ds.map V.int) (ds.map PyData.int)
  | [] => .nil
  | d :: r => .cons (.int d) (dpAll_ints r)
theorem canLay_ints : ∀ ds : List Int, PyData.canLayAll0 (ds.map PyData.int) = true
  | [] => by simp [PyData.canLayAll0]
  | d :: r => by
    rw [List.map_cons]
    simp only [PyData.canLayAll0, PyData.canLay0, canLay_ints r, Bool.and_self]
theorem depth_ints : ∀ ds : List Int, PyData.depthAll (ds.map PyData.int) = 0
  | [] => by simp [PyData.depthAll]
  | d :: r => by
    rw [List.map_cons]
    simp only [PyData.depthAll, PyData.depth, depth_ints r, Nat.max_self]
theorem shaped_ints (ds : List Int) : SeqAt.shaped (.list (ds.map PyData.int)) = true := by
  unfold SeqAt.shaped
  simp only [PyData.canLay0, canLay_ints, PyData.depth, depth_ints, Bool.true_and]
  decide
theorem ifT {p A B : Prop} [Decidable p] (h : p) (a : A) : if decide p = true then A else B := by
  rw [if_pos (decide_eq_true h)]
  exact a
theorem ifF {p A B : Prop} [Decidable p] (h : ¬ p) (b : B) : if decide p = true then A else B := by
  rw [if_neg (by rw [decide_eq_false h]; exact Bool.false_ne_true)]
  exact b
theorem ifD {p A B : Prop} [Decidable p] (h : p → A) (g : ¬ p → B) : if decide p = true then A else B := by
  by_cases c : p
  · exact ifT c (h c)
  · exact ifF c (g c)
theorem qT {p : Prop} [Decidable p] {Q : VK} {H : Hp} (h : p) (q : Q (.bl true) H) : Q (.bl (decide p)) H := by
  rw [decide_eq_true h]
  exact q
theorem qF {p : Prop} [Decidable p] {Q : VK} {H : Hp} (h : ¬ p) (q : Q (.bl false) H) : Q (.bl (decide p)) H := by
  rw [decide_eq_false h]
  exact q
theorem at0 {α : Type} {x : α} {xs : List α} : atI (x :: xs) 0 = some x := atI_nat (j := 0) rfl
theorem ix0 {n : Nat} : ixN (n + 1) 0 = some 0 := by
  unfold ixN
  rw [if_pos (by decide), if_pos (by omega)]
  rfl
theorem sq0 {n : Nat} : seqIndex? 0 (n + 1) = some 0 := by
  have h := (ixN_seq (ix0 (n := n))).1
  exact h
theorem Sz.m127 {m : Int} (h0 : 0 ≤ m) (h1 : m < M127) : Sz 127 m := by
  have a : (0 : Int) < 2 ^ 127 := by decide
  exact Sz.of (by omega) (Int.lt_of_lt_of_le h1 (by decide))
theorem Sz.n40 {n : Int} (h0 : 0 ≤ n) (h1 : n ≤ 2 ^ 40) : Sz 41 n := by
  have a : (0 : Int) < 2 ^ 41 := by decide
  have b : (2 : Int) ^ 40 < 2 ^ 41 := by decide
  exact Sz.of (by omega) (by omega)
/-- the items of a cut list of ints -/
def cutI (ns : List Int) (lo hi : Option Int) : List Int := (ns.drop (HT.sIx ns.length 0 lo)).take (HT.sIx ns.length ns.length hi - HT.sIx ns.length 0 lo)
theorem cutV_ints (ns : List Int) (lo hi : Option Int) : cutV (ns.map V.int) lo hi = (cutI ns lo hi).map V.int := by
  unfold cutV cutI
  rw [List.length_map, List.map_take, List.map_drop]
theorem cutI_le (ns : List Int) (lo hi : Option Int) : (cutI ns lo hi).length ≤ ns.length := by
  unfold cutI
  rw [List.length_take, List.length_drop]
  omega
theorem get_ints {ns : List Int} {i : Nat} {x : V} (h : (ns.map V.int)[i]? = some x) : ∃ z, ns[i]? = some z ∧ x = .int z := by
  rw [List.getElem?_map] at h
  cases e : ns[i]? with
  | none => rw [e] at h; cases h
  | some z => rw [e] at h; exact ⟨z, rfl, (Option.some.inj h).symm⟩
/-! ### rounds -/
def dep (n : N3) (t : Int) : Int := t + (n.a - t) % n.e
def rl (n : N3) : Int := n.r + (0 - n.r) % n.e
def arr (n : N3) (t m : Int) : Int := dep n t + (m - 1) * rl n + n.r
def optV : Option Int → V
  | none => .non
  | some i => .int i
def ovt (x y : N3) (t : Int) : Option Int := if arr y t 1 - arr x t 1 < 0 then some 1 else if 0 < rl x - rl y then some (2 + (arr y t 1 - arr x t 1) / (rl x - rl y)) else none
/-- the time from the first departure to the end of m rounds -/
def RR (n : N3) (m : Int) : Int := (m - 1) * rl n + n.r
theorem arr_RR (n : N3) (t m : Int) : arr n t m = dep n t + RR n m := by
  unfold arr RR
  omega
theorem rl_dvd {n : N3} (h : 0 < n.e) : ∃ k, rl n = n.e * k := by
  unfold rl
  have e := Int.emod_add_mul_ediv (0 - n.r) n.e
  refine ⟨-((0 - n.r) / n.e), ?_⟩
  rw [Int.mul_neg]
  omega
theorem RR_mod {n : N3} (h : 0 < n.e) (m : Int) : (0 - RR n m) % n.e = (0 - n.r) % n.e := by
  obtain ⟨k, e⟩ := rl_dvd h
  unfold RR
  rw [e, show (0 : Int) - ((m - 1) * (n.e * k) + n.r) = (0 - n.r) + n.e * (-((m - 1) * k)) by
    rw [Int.mul_neg, Int.mul_left_comm]
    omega]
  exact Int.add_mul_emod_self_left ..
theorem RR_add {n : N3} (h : 0 < n.e) (j k : Int) : RR n j + (0 - RR n j) % n.e + RR n k = RR n (j + k) := by
  rw [RR_mod h]
  have e : rl n = n.r + (0 - n.r) % n.e := rfl
  generalize hd : (0 - n.r) % n.e = d at e
  unfold RR
  rw [e]
  have e1 : (j + k - 1) * (n.r + d) = (j - 1) * (n.r + d) + (k - 1) * (n.r + d) + (n.r + d) := by
    rw [← Int.add_mul, show j + k - 1 = (j - 1 + (k - 1)) + 1 by omega, Int.add_mul _ 1, Int.one_mul]
  omega
theorem rl_nn {n : N3} (h : n.ok) : n.r ≤ rl n ∧ rl n < n.r + n.e := by
  obtain ⟨h1, h2, h3, h4⟩ := h
  have a := Int.emod_nonneg (0 - n.r) (show n.e ≠ 0 by omega)
  have b := Int.emod_lt_of_pos (0 - n.r) (show 0 < n.e by omega)
  unfold rl
  omega
theorem dep_le {n : N3} (h : n.ok) (t : Int) : t ≤ dep n t ∧ dep n t < t + n.e := by
  obtain ⟨h1, h2, h3, h4⟩ := h
  have a := Int.emod_nonneg (n.a - t) (show n.e ≠ 0 by omega)
  have b := Int.emod_lt_of_pos (n.a - t) (show 0 < n.e by omega)
  unfold dep
  omega
/-- the law's own arrival after m rounds -/
def farN (n : N3) (s m : Int) : Int := if m = 0 then s else arr n s m
theorem at_mem {α : Type} {xs : List α} {v : Int} (h0 : 0 ≤ v) (h1 : v < (xs.length : Int)) : ∃ x, atI xs v = some x ∧ x ∈ xs := by
  obtain ⟨j, rfl⟩ : ∃ j : Nat, v = (j : Int) := ⟨v.toNat, by omega⟩
  have hj : j < xs.length := by omega
  exact ⟨xs[j], atI_nat (List.getElem?_eq_getElem hj), List.getElem_mem hj⟩
theorem at_ints (is : List Int) {v : Int} (h0 : 0 ≤ v) (h1 : v < (is.length : Int)) : ∃ i, atI (is.map V.int) v = some (.int i) ∧ i ∈ is := by
  obtain ⟨x, e, m⟩ := at_mem (xs := is.map V.int) h0 (by rw [List.length_map]; exact h1)
  obtain ⟨i, hi, rfl⟩ := List.mem_map.mp m
  exact ⟨i, e, hi⟩
theorem mk_same {H : Hp} {x dx : Addr} {o o1 o2 : HO} (hx : H x = none) (hd : H dx = none) : Same H (upd (upd (upd H dx o) x o1) x o2) := fun b u e => by
  rw [upd_ne (ne_of_none e hx), upd_ne (ne_of_none e hx), upd_ne (ne_of_none e hd)]
  exact e
/-- a tuple of a line's three numbers -/
def T3 (H : Hp) (p : Addr) (n : N3) : Prop := H p = some (.tup [.int n.e, .int n.a, .int n.r])
theorem T3.same {H H' : Hp} {p : Addr} {n : N3} (h : T3 H p n) (s : Same H H') : T3 H' p n := s _ _ h
end Fw
namespace Fw
open PySem PySem.Spec PyProof.Rows L2
theorem lead_m (x y : N3) (s m : Int) (hm : 1 ≤ m) : farN x s m - farN y s m = (m - 1) * (rl x - rl y) - (arr y s 1 - arr x s 1) := by
  unfold farN
  rw [if_neg (by omega), if_neg (by omega)]
  unfold arr
  rw [Int.mul_sub]
  simp only [Int.sub_self, Int.zero_mul]
  omega
theorem ovt_right {x y : N3} {s : Int} (hA : arr y s 1 - arr x s 1 ≤ 10 ^ 60) :
    (ovt x y s = none ∧ arr x s 1 - arr y s 1 ≤ 0 ∧ rl x - rl y ≤ 0) ∨
    (∃ t, ovt x y s = some t ∧ ¬ (arr x s 1 - arr y s 1 ≤ 0 ∧ rl x - rl y ≤ 0) ∧ 1 ≤ t ∧ t ≤ 10 ^ 61 ∧ (1 < t → ¬ 0 < farN x s (t - 1) - farN y s (t - 1)) ∧ 0 < farN x s t - farN y s t) := by
  unfold ovt
  generalize hA' : arr y s 1 - arr x s 1 = A at *
  have eA : arr x s 1 - arr y s 1 = -A := by omega
  rw [eA]
  by_cases c : A < 0
  · rw [if_pos c]
    refine .inr ⟨1, rfl, by omega, by omega, by decide, fun h => absurd h (by decide), ?_⟩
    rw [lead_m x y s 1 (by decide), hA']
    simp only [Int.sub_self, Int.zero_mul]
    omega
  · rw [if_neg c]
    by_cases d : 0 < rl x - rl y
    · rw [if_pos d]
      have q0 : 0 ≤ A / (rl x - rl y) := Int.ediv_nonneg (by omega) (by omega)
      have q1 : A / (rl x - rl y) ≤ A := Int.ediv_le_self _ (by omega)
      have q2 := Int.emod_add_mul_ediv A (rl x - rl y)
      have q3 := Int.emod_nonneg A (show rl x - rl y ≠ 0 by omega)
      have q4 := Int.emod_lt_of_pos A d
      rw [Int.mul_comm] at q2
      refine .inr ⟨_, rfl, by omega, by omega, by omega, fun _ => ?_, ?_⟩
      · rw [lead_m x y s _ (by omega), hA', show 2 + A / (rl x - rl y) - 1 - 1 = A / (rl x - rl y) by omega]
        omega
      · rw [lead_m x y s _ (by omega), hA', show 2 + A / (rl x - rl y) - 1 = A / (rl x - rl y) + 1 by omega, Int.add_mul, Int.one_mul]
        omega
    · rw [if_neg d]
      exact .inl ⟨rfl, by omega, by omega⟩
end Fw

/-! Fw, part E: rounds. -/
namespace Fw
open PySem PySem.Spec PyProof.Rows L2
theorem farN_RR {n : N3} {s m : Int} (h : 1 ≤ m) : farN n s m = dep n s + RR n m := by
  unfold farN
  rw [if_neg (by omega), arr_RR]
theorem dep_mod {n : N3} (h : n.ok) (s : Int) : ∃ k, dep n s = n.a + n.e * k := by
  unfold dep
  have e := Int.emod_add_mul_ediv (n.a - s) n.e
  refine ⟨-((n.a - s) / n.e), ?_⟩
  rw [Int.mul_neg]
  omega
theorem farN_add {n : N3} (h : n.ok) {s m k : Int} (hm : 0 ≤ m) (hk : 0 ≤ k) : farN n (farN n s m) k = farN n s (m + k) := by
  by_cases m0 : m = 0
  · subst m0
    rw [Int.zero_add]
    unfold farN
    rw [if_pos rfl]
  by_cases k0 : k = 0
  · subst k0
    rw [Int.add_zero]
    generalize farN n s m = z
    unfold farN
    rw [if_pos rfl]
  have he : 0 < n.e := by have := h.1; omega
  rw [farN_RR (s := farN n s m) (by omega), farN_RR (s := s) (m := m) (by omega), farN_RR (by omega), ← RR_add he m k]
  obtain ⟨j, e⟩ := dep_mod h s
  have q : dep n (dep n s + RR n m) = dep n s + RR n m + (0 - RR n m) % n.e := by
    show dep n s + RR n m + (n.a - (dep n s + RR n m)) % n.e = _
    rw [show n.a - (dep n s + RR n m) = (0 - RR n m) + n.e * (-j) by rw [Int.mul_neg]; omega, Int.add_mul_emod_self_left]
  rw [q]
  omega
theorem Sz.log {b : Nat} {i : Int} (h : Sz b i) (hb : b ≤ 1920 := by decide) (h0 : 0 < b := by decide) : i.natAbs.log2 < 1920 := by
  by_cases z : i.natAbs = 0
  · rw [z]
    decide
  · have := (Nat.log2_lt z).mpr h
    omega
theorem dep_sz {n : N3} (h : n.ok) {s : Int} {b : Nat} (hs : Sz b s) (he : Sz b n.e) : Sz (b + 1) (dep n s) := by
  have d := dep_le h s
  have h1 := h.1
  unfold Sz at *
  rw [Nat.pow_succ]
  omega
def untl (n : N3) (t g : Int) : Option Int := if g ≤ t then some 0 else if g ≤ arr n t 1 then some 1 else if rl n = 0 then none else some (1 - (arr n t 1 - g) / rl n)
theorem arr1 (n : N3) (t : Int) : arr n t 1 = dep n t + n.r := by
  unfold arr
  simp only [Int.sub_self, Int.zero_mul]
  omega
theorem untl_some {n : N3} {t g : Int} (h : n.ok) (h0 : t < g) (h1 : ¬ (n.r = 0 ∧ dep n t + n.r < g)) :
    ∃ k, untl n t g = some k ∧ 1 ≤ k ∧ k ≤ g - t + rl n + 1 ∧ g ≤ farN n t k ∧ farN n t (k - 1) < g := by
  have d := dep_le h t
  have hr := rl_nn h
  have h4 := h.2.2.2
  unfold untl
  rw [if_neg (by omega), arr1]
  by_cases c : g ≤ dep n t + n.r
  · rw [if_pos c]
    refine ⟨1, rfl, by decide, by omega, ?_, ?_⟩
    · unfold farN
      rw [if_neg (by decide), arr1]
      exact c
    · unfold farN
      rw [if_pos (by decide)]
      exact h0
  · rw [if_neg c]
    have r0 : ¬ n.r = 0 := fun z => h1 ⟨z, by omega⟩
    have l0 : 0 < rl n := by omega
    rw [if_neg (by omega)]
    have e := Int.emod_add_mul_ediv (dep n t + n.r - g) (rl n)
    have m0 := Int.emod_nonneg (dep n t + n.r - g) (show rl n ≠ 0 by omega)
    have m1 := Int.emod_lt_of_pos (dep n t + n.r - g) l0
    have q0 : (dep n t + n.r - g) / rl n < 0 := Int.ediv_lt_of_lt_mul l0 (by omega)
    generalize (dep n t + n.r - g) / rl n = q at *
    generalize (dep n t + n.r - g) % rl n = r at *
    have q1 : rl n * q ≤ 1 * q := Int.mul_le_mul_of_nonpos_right (by omega) (by omega)
    refine ⟨1 - q, rfl, by omega, by omega, ?_, ?_⟩
    · unfold farN
      rw [if_neg (by omega)]
      unfold arr
      rw [show 1 - q - 1 = -q by omega, Int.neg_mul, Int.mul_comm q]
      omega
    · unfold farN
      rw [if_neg (by omega)]
      unfold arr
      rw [show 1 - q - 1 - 1 = -q - 1 by omega, Int.sub_mul, Int.neg_mul, Int.mul_comm q, Int.one_mul]
      omega
theorem untl_none {n : N3} {t g : Int} (h : n.ok) (h0 : t < g) (h1 : n.r = 0) (h2 : dep n t + n.r < g) : untl n t g = none := by
  have hr : rl n = 0 := by
    unfold rl
    rw [h1]
    simp
  unfold untl
  rw [if_neg (by omega), arr1, if_neg (by omega), if_pos hr]
/-! ### rounds one by one -/
def ends41 (n : N3) (s : Int) : List Int := (List.range 41).map fun (i : Nat) => farN n s i
/-! ### comprehensions -/
/-- i items of ys stand in the new list at D, all else is as in H1 -/
def LcP (H1 : Hp) (D : Addr) (ys : List V) (i : Nat) (H : Hp) : Prop := Same H1 H ∧ H D = some (.lst (ys.take i))
theorem LcP.start {H1 : Hp} {D : Addr} {ys : List V} (hD : H1 D = none) : LcP H1 D ys 0 (upd H1 D (.lst [])) := ⟨Same.new hD, upd_same⟩
theorem LcP.step {H1 H H4 : Hp} {D : Addr} {ys : List V} {i : Nat} {y : V} (p : LcP H1 D ys i H) (hD : H1 D = none) (hz : ys.length < sizeLine) (s : Same H H4) (hy : ys[i]? = some y) :
    ∃ acc, H4 D = some (.lst acc) ∧ acc.length < sizeLine ∧ LcP H1 D ys (i + 1) (upd H4 D (.lst (acc ++ [y]))) := by
  obtain ⟨p1, p2⟩ := p
  refine ⟨_, s _ _ p2, Nat.lt_of_le_of_lt (by rw [List.length_take]; omega) hz, fun b o e => ?_, ?_⟩
  · rw [upd_ne (ne_of_none e hD)]
    exact s _ _ (p1 _ _ e)
  · rw [upd_same, List.take_add_one, hy]
    rfl
theorem LcP.done {H1 H : Hp} {D : Addr} {ys : List V} {i : Nat} (p : LcP H1 D ys i H) (h : ys.length ≤ i) : H D = some (.lst ys) := by
  rw [p.2, List.take_of_length_le h]
end Fw

/-! Fw, part G: promises of defs that hold where no repr is under way; repr of data at any depth. -/
namespace Fw
open PySem PySem.Spec PyProof.Rows L2
open He (ga ma)
/-! ### how long a repr is -/
mutual
/-- a bound on the length of the text -/
def wt : PyData → Nat
  | .none => 4
  | .bool _ => 5
  | .int _ => 600
  | .str x => (PyData.shown (.str x)).length
  | .list xs | .tuple xs => wtAll xs + 5
  | .dict kvs => (PyData.shown (.dict kvs)).length
def wtAll : List PyData → Nat
  | [] => 0
  | x :: xs => wt x + 2 + wtAll xs
end
theorem len_app (a b : Str) : (a ++ b).length = a.length + b.length := by
  show (a.cps ++ b.cps).size = _
  rw [Array.size_append]
  rfl
theorem int_len {i : Int} (h : i.natAbs.log2 < 1920) : (Str.ofString (toString i)).length ≤ 600 := by
  have b : i.natAbs < 2 ^ 1920 := by
    by_cases z : i.natAbs = 0
    · rw [z]
      exact Nat.two_pow_pos _
    · exact (Nat.log2_lt z).mp h
  have c : (2 : Nat) ^ 1920 < 10 ^ 598 := by decide +kernel
  by_cases n : 0 ≤ i
  · refine Nat.le_trans (toString_length_le n (k := 598) (by decide) ?_) (by decide)
    have e : ((10 ^ 598 : Nat) : Int) = (10 : Int) ^ 598 := by simp
    rw [← e]
    omega
  · rw [toString_neg (by omega)]
    have q := toString_length_le (v := 0 - i) (by omega) (k := 598) (by decide) (by
      have e : ((10 ^ 598 : Nat) : Int) = (10 : Int) ^ 598 := by simp
      rw [← e]
      omega)
    rw [PyProof.Rows.ofString_length] at q ⊢
    rw [String.toList_append, List.length_append]
    have e1 : ("-" : String).toList.length = 1 := by decide
    omega
theorem textFrom_le : ∀ (ts : List Str) (k : Nat) (acc : Str), (textFrom k acc ts).length ≤ acc.length + piled ts
  | [], _, acc => by
    show acc.length ≤ _
    omega
  | t :: r, k, acc => by
    have ih := textFrom_le r (k + 1) (acc ++ (if k > 0 then ", " else "" : String) ++ t)
    show (textFrom (k + 1) _ r).length ≤ _
    rw [len_app, len_app] at ih
    rw [piled_cons]
    have s2 : (Str.ofString (if k > 0 then ", " else "" : String)).length ≤ 2 := by
      by_cases z : k > 0
      · rw [if_pos z]; decide
      · rw [if_neg z]; decide
    omega
mutual
theorem shown_wt : ∀ d : PyData, d.showable = true → (PyData.shown d).length ≤ wt d
  | .none, _ => by simp only [PyData.shown, wt]; decide
  | .bool b, _ => by cases b <;> simp only [PyData.shown, wt] <;> decide
  | .int i, h => by
    simp only [PyData.showable, decide_eq_true_eq] at h
    simp only [PyData.shown, wt]
    exact int_len h
  | .str x, _ => by simp only [wt]; exact Nat.le_refl _
  | .list xs, h => by
    simp only [PyData.showable] at h
    have q := shownAll_wt xs h
    simp only [PyData.shown, wt]
    unfold listText
    rw [len_app]
    have t := textFrom_le (PyData.shownAll xs) 0 "["
    have e1 : (Str.ofString "[").length = 1 := by decide
    have e2 : (Str.ofString "]").length = 1 := by decide
    omega
  | .tuple xs, h => by
    simp only [PyData.showable] at h
    have q := shownAll_wt xs h
    simp only [PyData.shown, wt]
    unfold tupleText
    rw [len_app, len_app]
    have e1 : (Str.ofString "(").length = 1 := by decide
    have e2 : (Str.ofString (if (PyData.shownAll xs).length == 1 then ",)" else ")" : String)).length ≤ 2 := by
      by_cases z : ((PyData.shownAll xs).length == 1) = true
      · rw [if_pos z]; decide
      · rw [if_neg z]; decide
    by_cases z : PyData.shownAll xs = []
    · rw [z] at e2 ⊢
      have e3 : (Str.join ", " ([] : List Str)).length = 0 := by decide
      omega
    · have t := join_length_add _ z
      omega
  | .dict kvs, _ => by simp only [wt]; exact Nat.le_refl _
theorem shownAll_wt : ∀ ds : List PyData, PyData.showableAll ds = true → piled (PyData.shownAll ds) ≤ wtAll ds
  | [], _ => by simp only [PyData.shownAll, wtAll]; exact Nat.le_refl _
  | d :: r, h => by
    simp only [PyData.showableAll, Bool.and_eq_true] at h
    have q1 := shown_wt d h.1
    have q2 := shownAll_wt r h.2
    simp only [PyData.shownAll, wtAll]
    rw [piled_cons]
    omega
end
/-! ### repr -/
/-- data whose repr is a text of a fit length -/
structure Fit (d : PyData) : Prop where
  sh : d.showable = true
  nd : d.hasDict = false
  dp : d.depth ≤ 40
  wt : wt d ≤ 16777216
theorem call_reprD {X : Cx} (hg : X.A.guards = some []) (hu : X.A.units + 64 < cLine) : CallR X (.builtin "repr") (fun xs H Q => ∃ a d, xs = [.ref a] ∧ Dp X.K H (.ref a) d ∧ Fit d ∧ Q (.str d.shown) H) := by
  intro pins s σ H xs us Q I r h
  obtain ⟨a, d, rfl, hd, f, q⟩ := h
  obtain ⟨u, rfl, ru⟩ := vals1 r
  obtain ⟨as, rd⟩ := Dp.reads I d (.ref a) u hd ru
  obtain rfl : u = Value.ref a := ru
  have hl : d.shown.length ≤ sizeLine := Nat.le_trans (shown_wt d f.sh) f.wt
  have hdp := f.dp
  exact repr_of_reads' rd f.sh (PyData.noDict_hsm f.nd) hg (by omega) (fun _ _ e => e) (fun h' t tk hk => ⟨.str d.shown, H, I.kept hk, ⟨_, rfl⟩, q⟩) hl
/-! ### promises where no repr is under way -/
structure FnG (P : Program) (w : World) (K : PySem.W.Frag) (mg : Str → Option Value) (base : Heap) (CX : CXT) (k : Nat) (f : Addr) (fd : FuncData) (ps : List Str) (sp : Sp) : Prop where
  count : ∀ vs H Q E, sp vs H Q E → vs.length = ps.length
  go : ∀ (A : Around) (outer : List Env) (s : Shared) (H : Hp) (args : Args) (us : List Value) (vs : List V) (Q : VK) (E : XK), A.guards = some [] → Room k A → Env0 P w K mg base A outer s H →
    BindsTo s fd args (ps.zip us) → Vals vs us → sp vs H Q E → codeAny (model P w) A (.call (.ref f) args) (CR CX outer P w H s Q E) s
section
variable {P : Program} {w : World} {K : PySem.W.Frag} {mg : Str → Option Value} {base : Heap}
theorem Fun.okG {x qual : Str} {st : Stmt} {f : Addr} {fd : FuncData} {N ps : List Str} {k : Nat} {sp : Sp} (F : Fun K x qual st f fd) (S : FnScope N ps (defScope st)) (len : ∀ vs H Q E, sp vs H Q E → vs.length = ps.length)
    (body : ∀ (cdv : Value) (A : Around) (outer : List Env) (s : Shared) (H : Hp) (vs : List V) (Q : VK) (E : XK), (A.deeper (envOfC qual (defScope st) s.heap.objs.size f cdv)).guards = some [] → Room k (A.deeper (envOfC qual (defScope st) s.heap.objs.size f cdv)) → sp vs H Q E →
      ∃ t, PSs (cxOf (L2.CX P w) P w K mg base N qual (defScope st) f cdv A outer s H E) (defBody st) t ∧ t { nx := fun _ H' => Q .non H', rt := Q } (L2.start N vs) H) : FnG P w K mg base (L2.CX P w) (k + 1) f fd ps sp := by
  obtain ⟨oc, od, kV, doc, pm, an, cdv, ct, osl, rfl, lk, hcd⟩ := F.ex
  constructor
  · exact len
  intro A outer s H args us vs Q E hg room e0 bound rv want
  have up : ∀ {b : Addr} {o : Obj}, base.get? b = some o → s.heap.get? b = some o := fun {b o} e => (e0.bs b o e).1
  have inK : K.In s.heap := e0.mod.kin.keeps fun b o e => up e
  have free : s.heap.NoLimit := e0.mod.nolimit.keeps fun b o e => up e
  obtain ⟨t, ht, hq⟩ := body cdv A outer s H vs Q E hg (room.deeper _) want
  apply codeAny_call_function room.depth (inK _ _ lk) rfl S.co S.gen rfl (PySem.W.codeRec_of inK hcd) (bound _ _ _ _ ?rest)
  apply wpAny_newFunctionEnv_cells S.kind
  · intro y hy
    obtain ⟨n, v⟩ := y
    cases S.par n (List.of_mem_zip hy).1 with
    | inl q => exact .inl q
    | inr q => exact .inr ⟨q, PySem.W.cellsFrom_some _ _ _ (.inl q)⟩
  intro env ee s1 inC
  subst ee
  refine ⟨free.keeps inC.toInCall.keep, codeAny_func ?_⟩
  have J : Inv (cxOf (L2.CX P w) P w K mg base N qual (defScope st) f cdv A outer s H E) [] (L2.start N vs) H s1 := inv_start S room.hd e0 (len _ _ _ _ want) rv inC
  have close : ∀ {s' : Shared} {τ : L2.St} {H' : Hp} {v : V} {u : Value}, Inv (cxOf (L2.CX P w) P w K mg base N qual (defScope st) f cdv A outer s H E) [] τ H' s' → RelV v u → Q v H' → CE outer P w H s Q u s' := fun i rr qq => ⟨_, _, i.os, i.bare, i.base, i.hok, rr, qq⟩
  refine wpAny_mono (ht.run [] s1 _ H _ J hq) ?_ fun _ _ z => z
  intro fl s' z
  match fl, z with
  | .ret _, ⟨_, _, _, i, rr, qq⟩ => exact close i rr qq
  | .next, ⟨_, _, i, qq⟩ => exact close (v := V.non) (u := Value.none) i rfl qq
  | .brk, ⟨_, _, _, no⟩ => exact False.elim no
  | .cont, ⟨_, _, _, no⟩ => exact False.elim no
end
section
variable {X : Cx} {CX : CXT} {k : Nat} {f : Addr} {fd : FuncData} {ps ks : List Str} {sp : Sp} {E : XK} {x : Str} {p pos : Pos} {e : Expr} {es : List Expr} {t tk : TA} {kws : List Keyword}
theorem runG {pins : List (Addr × Obj)} {σ : L2.St} {H : Hp} {s : Shared} {Q : VK} {args : Args} {us : List Value} {vs : List V} (F : FnG X.prog X.w X.K X.mg X.base CX k f fd ps sp) (hg : X.A.guards = some []) (hr : Room k X.A) (hb : BindsTo s fd args (ps.zip us)) (hx : Passes CX X E)
    (I : Inv X pins σ H s) (r : Vals vs us) (h : sp vs H Q E) : codeAny (model X.prog X.w) X.A (.call (.ref f) args) (fun r s' => match r with | .error e => X.xe e s' | .ok (.ret u) => EP X pins σ Q u s' | .ok _ => False) s := by
  refine codeAny_mono (F.go X.A X.stack s H args us vs Q E hg hr I.env0 hb r h) fun z s' q => ?_
  match z, q with
  | .error e, q => exact hx pins σ H s e s' I q
  | .ok (.ret u), q => exact I.after q
/-- f(e, ..), f a def whose promise wants that no repr is under way -/
theorem pe_callG (F : FnG X.prog X.w X.K X.mg X.base CX k f fd ps sp) (hg : X.A.guards = some []) (hr : Room k X.A) (hgl : Gl X x) (hm : X.mg x = some (.ref f)) (hk : PySem.W.keepIn X.K (.ref f) = true) (hb : Binds X.K fd ps []) (hx : Passes CX X E)
    (ha : PA X (e :: es) t) (hdb : (x == ("__debug__" : Str)) = false := by decide) (he : starEach (e :: es) X.env = (false, eval e X.env) :: starEach es X.env := by rfl) (hpl : (backTo pos (starEach es X.env)).any (fun q => q.1) = false := by rfl) :
    PE X (.Call (.Name x p) (e :: es) [] pos) (tCall sp [] E t) := by
  constructor
  intro pins s σ H Q I h
  apply wpAny_Call_Name_kw
  apply ld_glob I hgl hm _ hdb
  apply PySem.W.callWith_K (h₀ := X.base) I.ok.mod.kin hk _ he hpl
  refine thn (ha.run pos pins s σ H _ I h) fun us s1 ⟨vs, H1, I1, r, q⟩ => ⟨I1.kIn, ?_⟩
  have q : sp (vs ++ []) H1 Q E := q
  rw [List.append_nil] at q
  have len : us.length = ps.length := by rw [← r.length]; exact F.count _ _ _ _ q
  refine wpAny_call (codeAny_mono (runG F hg hr (us := us) (by have b := hb s1 us I1.kIn (by rw [List.append_nil]; exact len); rw [List.append_nil] at b; exact b) hx I1 r q) fun z s' q => ?_)
  match z, q with
  | .error e, q => exact q
  | .ok (.ret u), q => exact q
end
/-! ### the end -/
section
variable {P : Program} {w : World} {K : PySem.W.Frag} {mg mb : Str → Option Value} {CX : CXT} {k : Nat} {fa a : Addr} {fd : FuncData} {x : Str} {sp : Sp} {s₁ : Shared} {vs : List Value} {ns : List Int}
/-- from a heap H in which nothing but the script is tracked -/
theorem endG_from {H : Hp} (KX : K.In s₁.heap) (hns : s₁.heap.Ns mainGlobals mg) (hb : s₁.heap.Ns builtinsNs mb) (hbb : ∀ x : Str, x ≠ "__name__" → mb x = bootBuiltins x) (hlim : s₁.heap.NoLimit) (hg : s₁.gens = #[])
    (data : ∀ b o es ep, s₁.heap.get? b = some o → o.data = .dict es ep → H b = none) (out : ∀ b o, K.lookup b = some o → H b = none) (hr : Room k callerA)
    (F : ∀ base : Heap, K.In base → base.Ns mainGlobals mg → FnG P w K mg base CX k fa fd [x] sp) (hbind : ∀ (s : Shared) (u : Value), BindsTo s fd ⟨[u], []⟩ [(x, u)])
    (hO : Only H) (hok : HOk P w H s₁.heap) (want : sp [.ref a] H (fun v _ => v = .bl true) fun _ _ _ => False) (hCX : ∀ e s', CX [] H s₁ (fun _ _ _ => False) e s' → False) :
    codeAny (model P w) callerA (.call (.ref fa) ⟨[.ref a], []⟩) (fun r s' => r = .ok (.ret (.bool true)) ∧ OldK s₁.heap s'.heap ∧ s'.os = s₁.os ∧ AllBare s'.gens) s₁ := by
  have ns : ∀ {b : Addr} {m : Str → Option Value}, s₁.heap.Ns b m → (hidT s₁.heap H).Ns b m := by
    intro b m h
    obtain ⟨o, es, ep, e, d, r⟩ := h
    exact ⟨o, es, ep, hidT_get e (data b o es ep e d), d, r⟩
  have kin : K.In (hidT s₁.heap H) := fun b o e => hidT_get (KX b o e) (out b o e)
  obtain ⟨mc, c1, c2⟩ := hlim
  have env : Env0 P w K mg (hidT s₁.heap H) callerA [] s₁ H :=
    { frames := rfl, mod := { kin := kin, glob := ns hns, blt := ⟨mb, ns hb, hbb⟩, nolimit := ⟨mc, ns c1, c2⟩ }, bs := fun b o e => of_hidT e, bsz := Nat.le_of_eq (hidT_size _ _), funs := trivial, frf := (fun b z => nomatch z), hok := hok, bare := .of_eq hg }
  have run := (F _ kin (ns hns)).go callerA [] s₁ H ⟨[.ref a], []⟩ [.ref a] [.ref a] _ _ rfl hr env (hbind s₁ (.ref a)) (.cons rfl .nil) want
  refine codeAny_mono run ?_
  intro r s' z
  match r, z with
  | .error e, z => exact (hCX e s' z).elim
  | .ok (.ret u), ⟨v, H', os, bare, un, hok', rr, vt⟩ =>
    cases (show v = .bl true from vt)
    cases (show u = Value.bool true from rr)
    refine ⟨rfl, OldK.of_keep ?_, os, bare⟩
    intro b o e
    rcases hO b with z | ⟨ob, xs, z⟩
    · exact un.keep b o e z (fun q => nomatch q) (by simp)
    · have g2 := (hok' b _ (un.frzs b ob _ z)).1
      have g1 := (hok b _ z).1
      rw [e] at g1
      cases g1
      exact g2
theorem law_callG (KX : K.In s₁.heap) (hns : s₁.heap.Ns mainGlobals mg) (hb : s₁.heap.Ns builtinsNs mb) (hbb : ∀ x : Str, x ≠ "__name__" → mb x = bootBuiltins x) (hlim : s₁.heap.NoLimit) (hg : s₁.gens = #[])
    (ha : s₁.heap.get? a = some { cls := .type "list", data := .seq vs.toArray }) (hi : IntsAre vs ns) (hl : ns.length ≤ sizeLine) (hr : Room k callerA)
    (F : ∀ base : Heap, K.In base → base.Ns mainGlobals mg → FnG P w K mg base CX k fa fd [x] sp) (hbind : ∀ (s : Shared) (u : Value), BindsTo s fd ⟨[u], []⟩ [(x, u)])
    (hsp : ∀ H : Hp, Only H → SqL K H a (ns.map V.int) → sp [.ref a] H (fun v _ => v = .bl true) fun _ _ _ => False)
    (hCX : ∀ H e s', CX [] H s₁ (fun _ _ _ => False) e s' → False) :
    codeAny (model P w) callerA (.call (.ref fa) ⟨[.ref a], []⟩) (fun r s' => r = .ok (.ret (.bool true)) ∧ OldK s₁.heap s'.heap ∧ s'.os = s₁.os ∧ AllBare s'.gens) s₁ := by
  have rv := vals_ints hi
  have lenV := hi.length
  by_cases hk : ∃ o, K.lookup a = some o
  · obtain ⟨o, hk⟩ := hk
    have e := KX a o hk
    rw [ha] at e
    cases e
    have only : Only (fun _ => none) := fun _ => .inl rfl
    have seq : SqL K (fun _ => none) a (ns.map V.int) := .inr ⟨_, vs.toArray, _, hk, rfl, rfl, rfl, by rw [List.size_toArray, lenV]; exact hl, by simpa using rv⟩
    exact endG_from KX hns hb hbb hlim hg (fun _ _ _ _ _ _ => rfl) (fun _ _ _ => rfl) hr F hbind only (fun b u z => nomatch z) (hsp _ only seq) (hCX _)
  · have no : K.lookup a = none := by
      cases q : K.lookup a with
      | none => rfl
      | some o => exact absurd ⟨o, q⟩ hk
    let H : Hp := upd (fun _ => none) a (.frz { cls := .type "list", data := .seq vs.toArray } (.lst (ns.map V.int)))
    have at_ : H a = some (.frz { cls := .type "list", data := .seq vs.toArray } (.lst (ns.map V.int))) := upd_same
    have off : ∀ b, b ≠ a → H b = none := fun b n => upd_ne n
    have only : Only H := by
      intro b
      by_cases z : b = a
      · exact .inr ⟨_, _, by rw [z]; exact at_⟩
      · exact .inl (off b z)
    refine endG_from KX hns hb hbb hlim hg ?_ ?_ hr F hbind only ?_ (hsp H only (.inl (.inr ⟨_, at_⟩))) (hCX _)
    · intro b o es ep e d
      refine off b fun z => ?_
      rw [z, ha] at e
      cases e
      cases d
    · intro b o e
      refine off b fun z => ?_
      rw [z, no] at e
      cases e
    · intro b u e
      by_cases z : b = a
      · subst z
        rw [at_] at e
        cases e
        exact ⟨ha, by rw [List.length_map]; exact hl, vs, _, rv, ha⟩
      · rw [off b z] at e
        cases e
end
theorem endMG {l : PySem.W.OpenLaw} {k N : Nat} {q : Program} {loose : List Str} {d : DefRec} {ck : List Ck} {fn : List DefM} {XP : (Str → Option Value) → Heap → Prop} {spL : Frag → Sp}
    (hn : l.most = some 63) (hdf : d.params.defaults = []) (hr : Room k callerA) (hd : d.name = ("law" : Str))
    (F : ∀ (w : World) (K : Frag) (mg : Str → Option Value) (base : Heap), Zs ck fn K mg → K.In base → base.Ns mainGlobals mg → FnG l.prog w K mg base (L2.CX l.prog w) k (ga K "law") (fdAt K (ga K "law")) ["script"] (spL K))
    (hg : ∀ (K : Frag) (mg : Str → Option Value), Zs ck fn K mg → mg "law" = some (.ref (ga K "law")))
    (hb : ∀ (K : Frag) (mg : Str → Option Value), Zs ck fn K mg → ∀ (s : Shared) (u : Value), BindsTo s (fdAt K (ga K "law")) ⟨[u], []⟩ [("script", u)])
    (hs : ∀ (K : Frag) (H : Hp) (a : Addr) (ns : List Int), ns.length ≤ 63 → Only H → SqL K H a (ns.map V.int) → spL K [.ref a] H (fun v _ => v = .bl true) fun _ _ _ => False) :
    PySem.W.WalkO q loose XP (hookM N ck fn).says l.row.toRowW d [] (fun f vs => PySem.call f vs) := by
  refine Att.attach_call hn hdf fun w s₀ s₁ mg mb fa o pm cd doc a vs ns G Y ho hd' hcd hmg hobj hints hlen hgn => ?_
  obtain ⟨K, KX, c⟩ := Y
  have Z : Zs ck fn K mg := ⟨c, _, KX, G.T.g⟩
  have e : fa = ga K "law" := by
    have h1 := hg K mg Z
    rw [hd] at hmg
    rw [hmg] at h1
    cases h1
    rfl
  subst e
  exact law_callG KX G.T.g G.T.b G.T.builtins G.T.nolimit hgn hobj hints (Nat.le_trans hlen (by decide)) hr (fun base h1 h2 => F w K mg base Z h1 h2) (hb K mg Z) (fun H hO hS => hs K H a ns hlen hO hS) fun H e s' h => by
    obtain ⟨_, _, _, _, _, _, _, _, _, _, _, _, z⟩ := h
    exact z.elim
end Fw

/-! Fw, part H: names from a list's items; int of a bool; class constants of lines. -/
namespace Fw
open PySem PySem.Spec PyProof.Rows L2
open He (ga ma)
section
variable {X : Cx} {pos : Pos}
/-- int(b), b a bool -/
theorem call_int_bl : CallR X (.type "int") (fun xs H Q => ∃ b, xs = [.bl b] ∧ Q (.int (if b then 1 else 0)) H) := by
  intro pins s σ H xs us Q I r h
  obtain ⟨b, rfl, q⟩ := h
  obtain ⟨u, rfl, ru⟩ := vals1 r
  obtain rfl : u = Value.bool b := ru
  exact call_int_bool ⟨.int _, H, I.tok _, ⟨_, rfl⟩, q⟩
end
/-! ### the word of a kind -/
def kn : LK → Str
  | .line => "line"
  | .walk => "walk"
  | .stop => "stop"
/-! ### the feed: a list [digits, seed, count] -/
abbrev P61 : Int := 2305843009213693951
def fdM (a : Addr) (b : Addr) : Prop := b = a
/-- N counts may still be made -/
def Fd (a : Addr) (N : Nat) (H : Hp) : Prop := ∃ (d m n : Int), H a = some (.lst [.int d, .int m, .int n]) ∧ 0 ≤ d ∧ 0 ≤ m ∧ m < P61 ∧ 0 ≤ n ∧ n + (N : Int) ≤ 2 ^ 40
theorem Fd.less {a : Addr} {N N' : Nat} {H : Hp} (h : Fd a N H) (l : N' ≤ N) : Fd a N' H := by
  obtain ⟨d, m, n, h1, h2, h3, h4, h5, h6⟩ := h
  exact ⟨d, m, n, h1, h2, h3, h4, h5, by omega⟩
theorem Fd.same {a : Addr} {N : Nat} {H H' : Hp} (h : Fd a N H) (s : Same H H') : Fd a N H' := by
  obtain ⟨d, m, n, h1, h2⟩ := h
  exact ⟨d, m, n, s _ _ h1, h2⟩
theorem Fd.out {a p : Addr} {N : Nat} {H : Hp} {o : HO} (h : Fd a N H) (e : H p = some o) (d : ∀ xs, o ≠ .lst xs) : ¬ fdM a p := by
  obtain ⟨x, m, n, h1, _⟩ := h
  intro z
  rw [show p = a from z, h1] at e
  cases e
  exact d _ rfl
theorem Fd.fresh {a p : Addr} {N : Nat} {H : Hp} (h : Fd a N H) (e : H p = none) : ¬ fdM a p := by
  obtain ⟨x, m, n, h1, _⟩ := h
  intro z
  rw [show p = a from z, h1] at e
  cases e
theorem Fd.line {K : Frag} {a p : Addr} {N : Nat} {H H' : Hp} {k : LK} {n : N3} (h : Fd a N H) (x : Ext (fdM a) H H') (e : LnAt K H p k n) : LnAt K H' p k n := let ⟨dx, e⟩ := e; ⟨dx, x _ _ (h.out e fun _ z => nomatch z) e⟩
/-- what keeps all but the feed, seen from a heap in which the feed stood as well -/
theorem Ext.back {M : Addr → Prop} {H H' : Hp} {p : Addr} (x : Ext M H H') (n : ¬ M p) (e : H' p = none) : H p = none := by
  cases q : H p with
  | none => rfl
  | some o =>
    rw [x p o n q] at e
    cases e
/-- pick(feed, many): some number below many -/
def spPick (K : Frag) : Sp := fun vs H Q _ => ∃ (a : Addr) (N : Nat) (m : Int), vs = [.ref a, .int m] ∧ Fd a (N + 128) H ∧ 1 ≤ m ∧ Sz 4000 m ∧
  ∀ (v : Int) (H' : Hp), 0 ≤ v → v < m → Ext (fdM a) H H' → Fd a N H' → Q (.int v) H'
theorem bits_le {m : Int} {b : Nat} (h : Sz b m) : Builtin.Int.intBits m ≤ b := by
  unfold Builtin.Int.intBits
  by_cases z : m = 0
  · subst z
    exact Nat.zero_le _
  · have q : m.natAbs ≠ 0 := by omega
    have l := (Nat.log2_lt q).mpr h
    split
    · exact Nat.zero_le _
    · omega
theorem Sz.p61 {m : Int} (h0 : 0 ≤ m) (h1 : m < P61) : Sz 61 m := Sz.of (by omega) (Int.lt_of_lt_of_le h1 (by decide))
/-- the numbers of a line as a list, its kind ahead -/
def L4 (H : Hp) (p : Addr) (k : LK) (n : N3) : Prop := H p = some (.lst [.str (kn k), .int n.e, .int n.a, .int n.r])
/-- numbers that a line of the kind may have -/
structure NmOk (k : LK) (n : N3) : Prop where
  ok : n.ok
  walk : k = .walk → n.e = 1 ∧ n.a = 0
  stop : k = .stop → n.r = 0
/-! ### headways of which each one divides the next one -/
def limG : Bool → Int
  | true => 10 ^ 59
  | false => 60
structure ChOk (g : Bool) (cs : List Int) : Prop where
  ne : cs ≠ []
  len : cs.length ≤ 10
  pos : ∀ c ∈ cs, 1 ≤ c ∧ c ≤ limG g
  div : cs.Pairwise (fun x y => x ∣ y)
theorem ChOk.fit {g : Bool} {cs : List Int} (h : ChOk g cs) {x y : Int} (hx : x ∈ cs) (hy : y ∈ cs) : x ∣ y ∨ y ∣ x := by
  obtain ⟨i, hi, rfl⟩ := List.mem_iff_getElem.mp hx
  obtain ⟨j, hj, rfl⟩ := List.mem_iff_getElem.mp hy
  have q := List.pairwise_iff_getElem.mp h.div
  by_cases c : i < j
  · exact .inl (q i j hi hj c)
  by_cases d : j < i
  · exact .inr (q j i hj hi d)
  · have e : i = j := by omega
    subst e
    exact .inl (Int.dvd_refl _)
theorem ChOk.app {g : Bool} {ds : List Int} {l m : Int} (h : ChOk g (ds ++ [l])) (hd : ∀ x ∈ ds, x ∣ l) (hl : (ds ++ [l]).length ≤ 9) (h1 : 1 ≤ l * m) (h2 : l * m ≤ limG g) : ChOk g ((ds ++ [l]) ++ [l * m]) ∧ ∀ x ∈ ds ++ [l], x ∣ l * m := by
  have hx : ∀ x ∈ ds ++ [l], x ∣ l * m := by
    intro x hx
    rcases List.mem_append.mp hx with q | q
    · exact Int.dvd_trans (hd x q) (Int.dvd_mul_right l m)
    · rw [List.mem_singleton.mp q]
      exact Int.dvd_mul_right l m
  refine ⟨⟨by simp, by rw [List.length_append]; simp; simp at hl; omega, ?_, ?_⟩, hx⟩
  · intro c hc
    rcases List.mem_append.mp hc with q | q
    · exact h.pos c q
    · rw [List.mem_singleton.mp q]
      exact ⟨h1, h2⟩
  · rw [List.pairwise_append]
    refine ⟨h.div, List.pairwise_singleton _ _, ?_⟩
    intro x hx' y hy
    rw [List.mem_singleton.mp hy]
    exact hx x hx'
end Fw

/-! Fw, part I: methods of lines, and lines themselves, called with keywords alone. -/
namespace Fw
open PySem PySem.Spec PyProof.Rows L2
open He (ga ma)
section
variable {X : Cx} {k0 : Nat} {f : Addr} {fd : FuncData} {ps ks : List Str} {sp : Sp} {E : XK} {m : Str} {pos apos : Pos} {o fe : Expr} {kws : List Keyword} {ta tf : TE} {tk : TA} {g : List Value → List Value → List Value} {gV : List V → List V → List V}
/-- o.m(k = v, ..), o a line -/
def tLMN (K : Frag) (n : Nat) (gV : List V → List V → List V) (sp : Sp) (E : XK) (ta : TE) (tk : TA) : TE := fun σ H Q => ta σ H fun x H1 => ∃ a k nn, x = .ref a ∧ LnAt K H1 a k nn ∧ tk σ H1 fun zs H2 => zs.length = n ∧ sp (gV [.ref a] zs) H2 Q E
theorem pe_lmethN {pl : Sem Bool} (he : PE X o ta) (L : LnF X.K) (hm : ∀ k, Meth X.K (cA X.K k) m f) (F : FnOk X.prog X.w X.K X.mg X.base (L2.CX X.prog X.w) k0 f fd ps sp) (hr : Room k0 X.A) (hb : KBn X.K fd ps 1 ks g gV) (hx : Passes (L2.CX X.prog X.w) X E) (hkw : PK X kws tk)
    (n1 : ¬ m = "held_ride" := by decide +kernel) (n2 : ¬ m = "held_at" := by decide +kernel) (n3 : ¬ m = "held_every" := by decide +kernel)
    (hall : (backToKw pos (keywordEach kws X.env)).all (fun q => q.1.isSome) = true := by rfl) (hks : (backToKw pos (keywordEach kws X.env)).filterMap (fun q => q.1) = ks := by rfl)
    (hpl : ((backTo pos (starEach [] X.env)).any (fun q => q.1) || (backToKw pos (keywordEach kws X.env)).any (fun q => q.1.isNone)) = false := by rfl)
    (ht : eval (.Call (.Attribute o m apos) [] kws pos) X.env = (do
      let ov ← eval o X.env
      standAt apos.atName
      let (g, first) ← holding [ov] (getMethod ov m pl)
      callWith pos g first (backTo pos (starEach [] X.env)) (backToKw pos (keywordEach kws X.env))) := by rfl) :
    PE X (.Call (.Attribute o m apos) [] kws pos) (tLMN X.K ks.length gV sp E ta tk) := by
  constructor
  intro pins s σ H Q I h
  apply PySem.W.methodCall_KW (pl := pl) _ ht
  refine thn (he.run pins s σ H _ I h) fun u s1 ⟨x, H1, I1, rx, a, k, n, ex, ⟨dx, ea⟩, q⟩ => ?_
  subst ex
  obtain rfl : u = Value.ref a := rx
  refine getmeth_ok I1 ea (L.cls k) (hm k) (lf_no n n1 n2 n3) ?_
  apply PySem.W.callWith_KW0 (h₀ := X.base) (first := [.ref a]) I.ok.mod.kin (hm k).kp hall _ hpl
  refine thn (hkw.run pos pins s1 σ H1 _ I1 q) fun ws s2 ⟨zs, H2, I2, rz, l2, q2⟩ => ⟨I2.kIn, ?_⟩
  rw [hks]
  exact run_fnN (us := [.ref a]) (vs := [.ref a]) F hr hb hx I2 (.cons rfl .nil) rz rfl l2 q2
/-- the node of a call of an instance, keywords and all -/
theorem callKw_of {M : Model} {A : Around} {E : Value → Shared → Prop} {s : Shared} {a : Addr} {pos : Pos} {Q : Value → Shared → Prop} {args : List (Bool × Sem Value)} {keywords : List (Option Str × Sem Value)} (plain : (args.any (fun q => q.1) || keywords.any (fun q => q.1.isNone)) = false)
    (h : wpAny M A (evalArgs (.ref a) true args keywords) (fun z s₁ => (∃ C ox od, PySem.W.InstAt s₁.heap a ox C od ∧ ox.data = .plain) ∧ wpAny M A (call (.ref a) ([] ++ z.pos) z.kw) Q E s₁) E s) : wpAny M A (callWith pos (.ref a) [] args keywords) Q E s := by
  unfold callWith
  apply wpAny_bind
  apply wpAny_holding
  refine wpAny_mono h ?_ fun _ _ y => y
  intro z s₁ hz
  obtain ⟨⟨C, ox, od, J, hd⟩, hz⟩ := hz
  apply wpAny_bind
  apply wpAny_standAt
  simp only [plain]
  apply wpAny_bind
  apply (PySem.W.kco_keeper (M := M) J hd).here
  have close : ∀ {t : Sem Value}, wpAny M A t Q E s₁ → wpAny M A (t >>= fun r => holding [r] point >>= fun _ => pure r) Q E s₁ := by
    intro t ht
    apply wpAny_bind
    refine wpAny_mono ht ?_ fun _ _ y => y
    intro r s₂ hr
    apply wpAny_bind
    apply wpAny_holding
    exact wpAny_point (wpAny_pure hr)
  exact close (wpAny_operateT hz)
/-- line(k = v, ..) -/
def tLCN (K : Frag) (n : Nat) (gV : List V → List V → List V) (sp : Sp) (E : XK) (tf : TE) (tk : TA) : TE := fun σ H Q => tf σ H fun y H1 => ∃ a, y = V.ref a ∧ tk σ H1 fun zs H2 => (∃ k nn, LnAt K H2 a k nn) ∧ zs.length = n ∧ sp (gV [.ref a] zs) H2 Q E
theorem pe_lcallN (hf : PE X fe tf) (c : ∀ k, StX.CallO X.K (cA X.K k) f) (F : FnOk X.prog X.w X.K X.mg X.base (L2.CX X.prog X.w) k0 f fd ps sp) (hr : Room k0 X.A) (hb : KBn X.K fd ps 1 ks g gV) (hx : Passes (L2.CX X.prog X.w) X E) (hkw : PK X kws tk)
    (hall : (backToKw pos (keywordEach kws X.env)).all (fun q => q.1.isSome) = true := by rfl) (hks : (backToKw pos (keywordEach kws X.env)).filterMap (fun q => q.1) = ks := by rfl)
    (hpl : ((backTo pos (starEach [] X.env)).any (fun q => q.1) || (backToKw pos (keywordEach kws X.env)).any (fun q => q.1.isNone)) = false := by rfl)
    (ht : eval (.Call fe [] kws pos) X.env = (do callWith pos (← eval fe X.env) [] (backTo pos (starEach [] X.env)) (backToKw pos (keywordEach kws X.env))) := by rfl) :
    PE X (.Call fe [] kws pos) (tLCN X.K ks.length gV sp E tf tk) := by
  constructor
  intro pins s σ H Q I h
  rw [ht]
  apply wpAny_bind
  refine thn (hf.run pins s σ H _ I h) fun u s1 ⟨y, H1, I1, ry, a, ey, q⟩ => ?_
  subst ey
  obtain rfl : u = Value.ref a := ry
  apply callKw_of hpl
  apply PyProof.Rows.evalArgs_kw2_nil hall
  refine thn (hkw.run pos pins s1 σ H1 _ I1 q) fun ws s2 ⟨zs, H2, I2, rz, ⟨k, n, dx, hi⟩, l2, q2⟩ => ?_
  obtain ⟨ox, od, J, hd⟩ := StX.insC_at I2 (.inr ⟨dx, _, hi⟩ : StX.InsC X H2 a (cA X.K k))
  refine ⟨⟨_, ox, od, J, hd⟩, wpAny_call (PySem.W.kco_code (a := ⟨[], _⟩) I2.kIn J hd (c k).at_ (c k).fn (c k).fi ?_)⟩
  rw [hks]
  have rr : Vals [V.ref a] [Value.ref a] := .cons rfl .nil
  refine codeAny_mono (F.run X.A X.stack s2 H2 ⟨[.ref a], ks.zip ws⟩ (g [.ref a] ws) (gV [.ref a] zs) Q E hr I2.env0 (hb.to s2 [.ref a] ws I2.kIn rfl (rz.length.symm.trans l2)) (hb.rel rr rz) q2) ?_
  intro z s' q
  match z, q with
  | .error e, q => exact hx pins σ H2 s2 e s' I2 q
  | .ok (.ret u), q => exact I2.after q
end
end Fw

/-! Fw, part J: + and * of instances of own classes; a name that a class does not have. -/
namespace Fw
open PySem PySem.Spec PyProof.Rows L2
open PySem.W (Looks looks_findIn looks_clsIn looks_subIn looks_typeIn)
section
variable {α : Type} {prog : Program} {w : World} {A : Around} {E : Value → Shared → Prop} {s : Shared} {K : Frag}
/-- an AttributeError with a text alone is raised -/
theorem raise_attr {msg : Str} {Q : α → Shared → Prop} (hh : A.handled = none) (h : ∀ h' tk e, Heap.NewExcOf s.heap h' e "AttributeError" → E (.ref e) { s with heap := h', toks := tk }) (hm : msg.length ≤ sizeLine) :
    wpAny (model prog w) A (raiseErrorStr "AttributeError" msg : Sem α) Q E s := by
  unfold raiseErrorStr
  refine wpAny_bind (wpAny_mkStr (wpAny_bind ?_) hm)
  unfold newExc newTuple
  refine wpAny_bind (wpAny_newObj_type ?_ (by size_fits))
  refine wpAny_bind (m := firstArgMember _ _) (wpAny_of_eq (a := Value.none) (by simp only [firstArgMember, attrError_no_first]; rfl) ?_)
  rw [ownMembersOf_AttributeError]
  refine wpAny_newObj_type ?_ (by size_fits)
  unfold raiseNew
  refine wpAny_bind (wpAny_handled ?_)
  rw [hh]
  refine wpAny_bind (wpAny_pure (wpAny_throw ?_))
  refine h _ _ _ ⟨fun b ob hb => Heap.get?_push_of_some _ (Heap.get?_push_of_some _ hb), Heap.get?_none_of_le (by simp), ?_⟩
  exact ⟨_, _, Heap.get?_push_size _ rfl, rfl, rfl, rfl⟩
/-- the class at C has no such name, and its own name is short -/
structure Lacks (K : Frag) (C : Addr) (name : Str) : Prop where
  reads : PySem.W.readsIn K C (.type "type") = true
  none_ : PySem.W.findIn K (.ref C) name = some none
  meta_ : PySem.W.findIn K (.type "type") name = some none
  hook : PySem.W.findIn K (.type "type") "__getattr__" = some none
  cls : ∃ cd, PySem.W.clsIn K C = some cd ∧ cd.name.cps.foldl (fun k c => k + (Str.utf8Of c).length) 0 ≤ 100 ∧ cd.name.toString.length ≤ 1000
theorem tga_missing {C : Addr} {name : Str} {tk : Tok} {Q : Fin → Shared → Prop} (hh : A.handled = none) (X : K.In s.heap) (L : Lacks K C name) (hz : name.length ≤ 1000)
    (h : ∀ h' tk e, Heap.NewExcOf s.heap h' e "AttributeError" → E (.ref e) { s with heap := h', toks := tk }) : wpAny (model prog w) A (Builtin.«type.__getattribute__» ⟨[.ref C, .str name tk], []⟩) Q E s := by
  have hr := L.reads
  simp only [PySem.W.readsIn, Bool.and_eq_true, beq_iff_eq] at hr
  obtain ⟨⟨⟨⟨r1, r2⟩, r3⟩, r4⟩, r5⟩ := hr
  obtain ⟨cd, c1, c2, c3⟩ := L.cls
  have ho : Looks (model prog w) s.heap (opaqueClassAbove (.ref C)) none := PySem.W.looks_opaque X r1
  have ht : Looks (model prog w) s.heap (typeOf (.ref C)) (.type "type") := looks_typeIn X r2
  have l1 : Looks (model prog w) s.heap (typeLookup (.type "type") name) none := looks_findIn X L.meta_
  have l2 : Looks (model prog w) s.heap (typeLookup (.ref C) name) none := looks_findIn X L.none_
  have l3 : Looks (model prog w) s.heap (classData C) cd := looks_clsIn X c1
  obtain ⟨hp, g, d, t, os⟩ := s
  unfold Builtin.«type.__getattribute__»
  refine wpAny_bind (wpAny_pure (wpAny_bind (ho.at (wpAny_bind (ht.at (wpAny_bind (l1.at ?_)))))))
  refine wpAny_bind (wpAny_pure ?_)
  refine wpAny_bind (l2.at ?_)
  refine wpAny_bind (wpAny_rule (wpAny_bind ?_))
  show wpAny _ _ (classData C >>= _) _ _ _
  refine wpAny_bind (l3.at ?_)
  simp only [if_pos c2]
  refine wpAny_pure ?_
  refine raise_attr hh h ?_
  rw [len_app, len_app, PyProof.Rows.ofString_length, PyProof.Rows.ofString_length]
  simp only [String.toList_append, List.length_append]
  have e1 : (toString "type object '").toList.length = 13 := by decide
  have e2 : (toString "' has no attribute '").toList.length = 20 := by decide
  have e3 : ("'" : String).toList.length = 1 := by decide
  have e4 : (toString cd.name.toString).toList.length = cd.name.toString.length := rfl
  show _ ≤ 16777216
  omega
/-- the question for a name that the class lacks is answered with none -/
theorem asked_missing {C : Addr} {name : Str} {tk : Tok} {Q : Option Value → Shared → Prop} (hh : A.handled = none) (X : K.In s.heap) (L : Lacks K C name) (hz : name.length ≤ 1000)
    (h : ∀ h' t', (∀ b o, s.heap.get? b = some o → h'.get? b = some o) → Q none { s with heap := h', toks := t' }) : wpAny (model prog w) A (getAttrBy? (.ref C) (.str name tk)) Q E s := by
  have hr := L.reads
  simp only [PySem.W.readsIn, Bool.and_eq_true, beq_iff_eq] at hr
  obtain ⟨⟨⟨⟨r1, r2⟩, r3⟩, r4⟩, r5⟩ := hr
  have ht : Looks (model prog w) s.heap (typeOf (.ref C)) (.type "type") := looks_typeIn X r2
  have l1 : Looks (model prog w) s.heap (typeLookup (.type "type") "__getattribute__") (some (.builtin "type.__getattribute__")) := looks_findIn X r3
  have ls : Looks (model prog w) s.heap (isSubtype (.type "type") (.type "type")) true := looks_subIn X r5
  unfold getAttrBy?
  refine wpAny_bind (wpAny_attempt ?_)
  unfold getAttrBy
  refine wpAny_holding (wpAny_bind (ht.here (wpAny_bind (l1.here ?_))))
  dsimp only
  rw [show (onTheHeap (.type "type") && Value.builtin "type.__getattribute__" == Value.builtin "object.__getattribute__") = false from rfl, if_neg (by decide)]
  unfold getAttrByItsOwn
  refine wpAny_bind (wpAny_pure (wpAny_bind (wpAny_attempt (wpAny_holding ?_))))
  unfold callGetattribute
  rw [show (false && onTheHeap (Value.builtin "type.__getattribute__")) = false from rfl, if_neg (by decide)]
  unfold boundAndCalled
  rw [PySem.W.KF.slot_tga.bind]
  refine wpAny_bind (wpAny_pure ?_)
  show wpAny _ _ (call (.builtin "type.__getattribute__") [.ref C, .str name tk]) _ _ _
  refine wpAny_call ?_
  refine codeAny_call_builtin PySem.W.KF.slot_tga.plain PySem.W.KF.entry_tga ?_
  refine @PySem.W.check_slot (model prog w) _ _ s "type.__getattribute__" "type" "__getattribute__" (.ref C) [.str name tk] [] _ (by decide +kernel) (by decide +kernel) (ht.andThen ls) (PySem.W.KF.args_tga (.ref C) (.str name tk)) ?_
  refine tga_missing (s := s) hh X L hz ?_
  intro h' t' e ne
  have X' : K.In h' := X.keeps ne.keeps
  have ty : (⟨h', s.gens, s.drawn, t', s.os⟩ : Shared).TypeIs (.ref e) "AttributeError" := by
    obtain ⟨ob, vs, a, b, _⟩ := ne.there
    exact ⟨ob, a, b⟩
  show wpAny _ _ (getattributeRaised _ _ _ _ _ _ _) _ _ _
  unfold getattributeRaised
  refine wpAny_bind (wpAny_isInstance ty sub_AttributeError ?_)
  rw [if_pos rfl]
  have l2 : Looks (model prog w) h' (typeLookup (.type "type") "__getattr__") none := looks_findIn X' L.hook
  refine wpAny_bind ?_
  show wpAny _ _ (typeLookup (.type "type") "__getattr__") _ _ _
  refine l2.at ?_
  unfold hookOrError
  dsimp only
  unfold attributeErrorLeaves
  rw [if_pos (show (!false) = true from rfl)]
  refine wpAny_bind (wpAny_throw ?_)
  refine wpAny_bind (wpAny_isInstance ty sub_AttributeError ?_)
  rw [if_pos rfl]
  exact wpAny_pure (h h' t' ne.keeps)
theorem instAt_keeps {h h' : Heap} {x C : Addr} {ox : Obj} {od : Option Obj} (I : PySem.W.InstAt h x ox C od) (k : ∀ b o, h.get? b = some o → h'.get? b = some o) : PySem.W.InstAt h' x ox C od := by
  obtain ⟨a, b, c, d⟩ := I
  refine ⟨k _ _ a, b, c, ?_⟩
  cases e : ox.dict with
  | none =>
    rw [e] at d
    cases od with
    | none => exact trivial
    | some o => exact False.elim d
  | some dx =>
    rw [e] at d
    cases od with
    | none => exact False.elim d
    | some o => exact k _ _ d
/-- what an own class must say that its instances may stand at an operator: nm, its def f, no reflected one -/
structure OpOf (K : Frag) (C : Addr) (nm : String) (f : Addr) : Prop where
  first : PySem.W.selfFirst K C = true
  at_ : PySem.W.findIn K (.ref C) (PySem.dunder nm) = some (some (.ref f))
  fn : PySem.W.isFn K (.ref f) = true
  refl : PySem.W.findIn K (.ref C) (dunderR nm) = some none
theorem differs_not {C D f g : Addr} {nm : String} {Q : Bool → Shared → Prop} (hh : A.handled = none) (X : K.In s.heap) (c : OpOf K C nm f) (d : OpOf K D nm g) (L : Lacks K D (dunderR nm)) (hz : (dunderR nm).length ≤ 1000)
    (h : ∀ h' t', (∀ b o, s.heap.get? b = some o → h'.get? b = some o) → Q false { s with heap := h', toks := t' }) : wpAny (model prog w) A (reflectedDiffers (.ref C) (.ref D) nm) Q E s := by
  have l1 : Looks (model prog w) s.heap (numberSlotInPython (.ref C) nm) true := PySem.W.ksp_inPy X c.at_ c.refl (.inl rfl)
  have l2 : Looks (model prog w) s.heap (numberSlotInPython (.ref D) nm) true := PySem.W.ksp_inPy X d.at_ d.refl (.inl rfl)
  unfold reflectedDiffers
  refine wpAny_bind (l1.here ?_)
  rw [if_neg (by decide)]
  refine wpAny_bind (l2.here ?_)
  rw [if_neg (by decide)]
  refine wpAny_bind (wpAny_mkStr ?_ (by show _ ≤ 16777216; omega))
  refine wpAny_bind (asked_missing hh (s := { s with toks := s.toks + 1 }) X L hz ?_)
  intro h' t' k
  exact wpAny_pure (h h' t' k)
/-- x op y, x and y of two own classes that have the operator by a def and no reflected one -/
theorem binop_two {op : Operator} {x y C D f g : Addr} {ox oy : Obj} {od oe : Option Obj} {b : Bool} {Q : Value → Shared → Prop} (hh : A.handled = none) (X : K.In s.heap) (I : PySem.W.InstAt s.heap x ox C od) (J : PySem.W.InstAt s.heap y oy D oe) (ne : C ≠ D)
    (c : OpOf K C op.info.2 f) (d : OpOf K D op.info.2 g) (sub : PySem.W.subIn K (.ref D) (.ref C) = some b) (L : b = true → Lacks K D (dunderR op.info.2)) (hz : (dunderR op.info.2).length ≤ 1000)
    (h : ∀ h' t', (∀ b o, s.heap.get? b = some o → h'.get? b = some o) → wpAny (model prog w) A (call (.ref f) [.ref x, .ref y]) (PySem.W.CmpBack Q) E { s with heap := h', toks := t' }) : wpAny (model prog w) A (binaryOp op (.ref x) (.ref y)) Q E s := by
  obtain ⟨cd, rest, hcd, hm⟩ := PySem.W.ksp_first c.first
  obtain ⟨ce, rest2, hce, hm2⟩ := PySem.W.ksp_first d.first
  rcases hi : op.info with ⟨sym, nm⟩
  rw [hi] at c d L hz
  dsimp only at c d L hz
  have hne : (Value.ref C == Value.ref D) = false := Bool.eq_false_iff.mpr fun q => ne (by cases beq_iff_eq.mp q; rfl)
  have l3 : Looks (model prog w) s.heap (fillsNumberSlot (.ref C) nm) true := PySem.W.fills_K X hcd hm c.at_
  have l4 : Looks (model prog w) s.heap (fillsNumberSlot (.ref D) nm) true := PySem.W.fills_K X hce hm2 d.at_
  have l5 : Looks (model prog w) s.heap (isSubtype (.ref D) (.ref C)) b := looks_subIn X sub
  have l6 : Looks (model prog w) s.heap (numberSlotInPython (.ref C) nm) true := PySem.W.ksp_inPy X c.at_ c.refl (.inl rfl)
  have l7 : Looks (model prog w) s.heap (numberSlotInPython (.ref D) nm) true := PySem.W.ksp_inPy X d.at_ d.refl (.inl rfl)
  simp only [binaryOp, hi]
  refine wpAny_holding (wpAny_bind ?_)
  unfold binaryOp1
  refine wpAny_bind (I.type.here (wpAny_bind (J.type.here (wpAny_bind (l3.here ?_)))))
  simp only [hne, Bool.false_eq_true, if_false]
  refine wpAny_bind (l4.here ?_)
  simp only [Bool.and_self, if_true]
  refine wpAny_bind (l5.here ?_)
  cases b with
  | false =>
    simp only [Bool.false_eq_true, if_false, Bool.not_false, Bool.and_self, if_true]
    refine wpAny_bind (l6.here ?_)
    simp only [if_true]
    refine wpAny_bind (l7.here ?_)
    simp only [Bool.not_true, Bool.false_eq_true, if_false]
    refine wpAny_bind (wpAny_mono (PySem.W.ksp_try X I c.at_ c.fn (h s.heap s.toks fun _ _ e => e)) ?_ fun _ _ e => e)
    rintro r s' ⟨v, rfl, q⟩
    exact wpAny_pure (wpAny_pure q)
  | true =>
    simp only [if_true]
    refine wpAny_bind (differs_not hh X c d (L rfl) hz ?_)
    intro h' t' k
    simp only [Bool.false_eq_true, if_false, Bool.not_false, Bool.and_self, if_true]
    refine wpAny_bind ((l6.keeps k).at ?_)
    simp only [if_true]
    refine wpAny_bind ((l7.keeps k).at ?_)
    simp only [Bool.not_true, Bool.false_eq_true, if_false]
    refine wpAny_bind (wpAny_mono (PySem.W.ksp_try (X.keeps k) (instAt_keeps I k) c.at_ c.fn (h h' t' k)) ?_ fun _ _ e => e)
    rintro r s' ⟨v, rfl, q⟩
    exact wpAny_pure (wpAny_pure q)
end
open He (ga ma eqO eqO_ok)
/-! ### lines at operators -/
/-- the operator nm of lines: one def f for all three classes -/
structure OpL (K : Frag) (nm : String) (f : Addr) : Prop where
  of : ∀ k, OpOf K (cA K k) nm f
  two : ∀ k j, k ≠ j → cA K k ≠ cA K j ∧ ∃ b, PySem.W.subIn K (.ref (cA K j)) (.ref (cA K k)) = some b ∧ (b = true → Lacks K (cA K j) (dunderR nm))
/-- line op line, the result an object -/
def rLop (K : Frag) (sp : Sp) (E : XK) : R2 := fun x y H Q => ∃ a k n b j m, x = .ref a ∧ y = .ref b ∧ LnAt K H a k n ∧ LnAt K H b j m ∧ sp [.ref a, .ref b] H (fun v H' => (∃ p, v = .ref p) ∧ Q v H') E
/-- line op number, the result an object -/
def rLnum (K : Frag) (sp : Sp) (E : XK) : R2 := fun x y H Q => ∃ a k n i, x = .ref a ∧ y = .int i ∧ LnAt K H a k n ∧ sp [.ref a, .int i] H (fun v H' => (∃ p, v = .ref p) ∧ Q v H') E
section
variable {X : Cx} {op : Operator} {k0 : Nat} {f : Addr} {fd : FuncData} {ps : List Str} {sp : Sp} {E : XK}
theorem ep_back {pins : List (Addr × Obj)} {σ : L2.St} {Q : VK} {v : Value} {s' : Shared} (h : EP X pins σ (fun v H' => (∃ p, v = .ref p) ∧ Q v H') v s') : PySem.W.CmpBack (EP X pins σ Q) v s' := by
  obtain ⟨y, H', I, r, ⟨p, e⟩, q⟩ := h
  subst e
  obtain rfl : v = Value.ref p := r
  exact ⟨.ref p, H', I, rfl, q⟩
theorem op_lop (hc : X.calm = true) (O : OpL X.K op.info.2 f) (hz : (dunderR op.info.2).length ≤ 1000) (F : FnOk X.prog X.w X.K X.mg X.base (L2.CX X.prog X.w) k0 f fd ps sp) (hr : Room k0 X.A) (hb : L2.Binds X.K fd ps []) (hx : Passes (L2.CX X.prog X.w) X E) : OpR X (binaryOp op) (rLop X.K sp E) := by
  intro pins s σ H x y v u Q I rx ry h
  obtain ⟨a, k, n, b, j, m, rfl, rfl, ⟨dx, ha⟩, ⟨dy, hb'⟩, q⟩ := h
  obtain rfl : v = Value.ref a := rx
  obtain rfl : u = Value.ref b := ry
  have hh : X.A.handled = none := I.ok.hd hc
  obtain ⟨mA, OA, _⟩ := ins_get I.hok ha
  obtain ⟨od, JA, _⟩ := OA.look
  obtain ⟨mB, OB, _⟩ := ins_get I.hok hb'
  obtain ⟨oe, JB, _⟩ := OB.look
  have run : ∀ s', Inv X pins σ H s' → wpAny (model X.prog X.w) X.A (call (.ref f) [.ref a, .ref b]) (PySem.W.CmpBack (EP X pins σ Q)) X.xe s' := by
    intro s' I'
    have w := run_fn (us := [.ref a, .ref b]) (vs := [.ref a, .ref b]) F hr hb .nil hx I' (.cons rfl (.cons rfl .nil)) (by rw [List.append_nil]; exact q)
    exact wpAny_mono w (fun _ _ z => ep_back z) fun _ _ z => z
  by_cases e : k = j
  · subst e
    obtain ⟨mm, fr⟩ := I.fr
    exact PySem.W.binop_K fr I.ok.mod.kin JA JB.type (O.of k).first (O.of k).at_ (O.of k).fn (run s I)
  · obtain ⟨ne, bb, sb, L⟩ := O.two k j e
    exact binop_two hh I.kIn JA JB ne (O.of k) (O.of j) sb L hz fun h' t' kp => run _ (I.kept kp)
theorem op_lnum {fo ro : Option Value} (O : OpL X.K op.info.2 f) (h1 : PySem.W.findIn X.K (.type "int") (PySem.dunder op.info.2) = some fo) (h2 : PySem.W.findIn X.K (.type "int") (dunderR op.info.2) = some ro) (hs : ∀ k, PySem.W.subIn X.K (.type "int") (.ref (cA X.K k)) = some false)
    (F : FnOk X.prog X.w X.K X.mg X.base (L2.CX X.prog X.w) k0 f fd ps sp) (hr : Room k0 X.A) (hb : L2.Binds X.K fd ps []) (hx : Passes (L2.CX X.prog X.w) X E) : OpR X (binaryOp op) (rLnum X.K sp E) := by
  intro pins s σ H x y v u Q I rx ry h
  obtain ⟨a, k, n, i, rfl, rfl, ⟨dx, ha⟩, q⟩ := h
  obtain rfl : v = Value.ref a := rx
  obtain ⟨t, rfl⟩ := ry
  obtain ⟨mA, OA, _⟩ := ins_get I.hok ha
  obtain ⟨od, JA, _⟩ := OA.look
  obtain ⟨mm, fr⟩ := I.fr
  refine PySem.W.ksp_binT fr I.ok.mod.kin JA rfl (O.of k).first (O.of k).at_ (O.of k).fn (O.of k).refl (.inl rfl) h1 h2 (hs k) ?_
  have w := run_fn (us := [.ref a, .int i t]) (vs := [.ref a, .int i]) F hr hb .nil hx I (.cons rfl (.cons ⟨t, rfl⟩ .nil)) (by rw [List.append_nil]; exact q)
  exact wpAny_mono w (fun _ _ z => ep_back z) fun _ _ z => z
end
/-! ### the checks of the top -/
def cOpOf (x : Str) (nm : String) (f : Frag → Addr) : Ck := fun K => PySem.W.selfFirst K (ga K x) && (eqO (PySem.W.findIn K (.ref (ga K x)) (PySem.dunder nm)) (some (some (.ref (f K)))) && (PySem.W.isFn K (.ref (f K)) && eqO (PySem.W.findIn K (.ref (ga K x)) (dunderR nm)) (some none)))
def cLacks (x : Str) (name : Str) : Ck := fun K => PySem.W.readsIn K (ga K x) (.type "type") && (eqO (PySem.W.findIn K (.ref (ga K x)) name) (some none) && (eqO (PySem.W.findIn K (.type "type") name) (some none) && (eqO (PySem.W.findIn K (.type "type") "__getattr__") (some none) &&
  (match PySem.W.clsIn K (ga K x) with | some cd => decide (cd.name.cps.foldl (fun k c => k + (Str.utf8Of c).length) 0 ≤ 100) && decide (cd.name.toString.length ≤ 1000) | none => false))))
def cTwo (x y : Str) (b : Bool) : Ck := fun K => decide (ga K x ≠ ga K y) && decide (PySem.W.subIn K (.ref (ga K y)) (.ref (ga K x)) = some b)
def cIntOp (x : Str) (nm : String) : Ck := fun K => (PySem.W.findIn K (.type "int") (PySem.dunder nm)).isSome && ((PySem.W.findIn K (.type "int") (dunderR nm)).isSome && decide (PySem.W.subIn K (.type "int") (.ref (ga K x)) = some false))
section
variable {K : Frag}
theorem opOf_of {x : Str} {nm : String} {f : Frag → Addr} (c : cOpOf x nm f K = true) : OpOf K (ga K x) nm (f K) := by
  obtain ⟨c1, c⟩ := Bool.and_eq_true_iff.mp c
  obtain ⟨c2, c⟩ := Bool.and_eq_true_iff.mp c
  obtain ⟨c3, c4⟩ := Bool.and_eq_true_iff.mp c
  exact ⟨c1, eqO_ok c2, c3, eqO_ok c4⟩
theorem lacks_of {x name : Str} (c : cLacks x name K = true) : Lacks K (ga K x) name := by
  obtain ⟨c1, c⟩ := Bool.and_eq_true_iff.mp c
  obtain ⟨c2, c⟩ := Bool.and_eq_true_iff.mp c
  obtain ⟨c3, c⟩ := Bool.and_eq_true_iff.mp c
  obtain ⟨c4, c⟩ := Bool.and_eq_true_iff.mp c
  refine ⟨c1, eqO_ok c2, eqO_ok c3, eqO_ok c4, ?_⟩
  cases e : PySem.W.clsIn K (ga K x) with
  | none => rw [e] at c; cases c
  | some cd =>
    rw [e] at c
    obtain ⟨d1, d2⟩ := Bool.and_eq_true_iff.mp c
    exact ⟨cd, rfl, of_decide_eq_true d1, of_decide_eq_true d2⟩
theorem two_of {x y : Str} {b : Bool} (c : cTwo x y b K = true) : ga K x ≠ ga K y ∧ PySem.W.subIn K (.ref (ga K y)) (.ref (ga K x)) = some b := by
  obtain ⟨c1, c2⟩ := Bool.and_eq_true_iff.mp c
  exact ⟨of_decide_eq_true c1, of_decide_eq_true c2⟩
theorem intOp_of {x : Str} {nm : String} (c : cIntOp x nm K = true) : ∃ fo ro, PySem.W.findIn K (.type "int") (PySem.dunder nm) = some fo ∧ PySem.W.findIn K (.type "int") (dunderR nm) = some ro ∧ PySem.W.subIn K (.type "int") (.ref (ga K x)) = some false := by
  obtain ⟨c1, c⟩ := Bool.and_eq_true_iff.mp c
  obtain ⟨c2, c3⟩ := Bool.and_eq_true_iff.mp c
  obtain ⟨fo, e1⟩ := Option.isSome_iff_exists.mp c1
  obtain ⟨ro, e2⟩ := Option.isSome_iff_exists.mp c2
  exact ⟨fo, ro, e1, e2, of_decide_eq_true c3⟩
end
end Fw

/-! Fw, part K: t[::2] of a tuple of three; == and != of lines. -/
namespace Fw
open PySem PySem.Spec PyProof.Rows L2
open PySem.W (Looks looks_findIn looks_clsIn looks_subIn looks_typeIn)
open He (ga ma eqO eqO_ok)
section
variable {prog : Program} {w : World} {A : Around} {E : Value → Shared → Prop} {s : Shared}
theorem sliceApplied_two {sl : Addr} {vl vu vs : Value} {Q : Int × Int × Nat → Shared → Prop} (hs : s.heap.IsSliceOf sl vl vu vs) (pl : IsPart vl none) (pu : IsPart vu none) (ps : IsPart vs (some 2))
    (h : Q (0, 2, 2) s) : wpAny (model prog w) A (Builtin.Slice.sliceApplied (.ref sl) (pure (3 : Int))) Q E s := by
  obtain ⟨os, hos, hcs, hds⟩ := id hs
  unfold Builtin.Slice.sliceApplied Builtin.Slice.sliceFields
  refine wpAny_bind (wpAny_bind (wpAny_field hos hds (x := vl) rfl (wpAny_bind (wpAny_field hos hds (x := vu) rfl (wpAny_bind (wpAny_field hos hds (x := vs) rfl (wpAny_pure ?_)))))))
  refine wpAny_bind (HT.slicePart_ ps ?_)
  show wpAny _ _ (if ((2 : Int) == 0) = true then _ else _) _ _ s
  rw [if_neg (by decide)]
  refine wpAny_bind (HT.slicePart_ pl (wpAny_bind (HT.slicePart_ pu (wpAny_bind (wpAny_pure ?_)))))
  exact wpAny_pure h
theorem getItem_tuple_two {t sl : Addr} {x0 x1 x2 : Value} {vl vu vs : Value} {Q : Value → Shared → Prop} (ht : IsTup s.heap t #[x0, x1, x2]) (hs : s.heap.IsSliceOf sl vl vu vs) (pl : IsPart vl none) (pu : IsPart vu none) (ps : IsPart vs (some 2))
    (h : Q (.ref s.heap.objs.size) { s with heap := s.heap.push { cls := .type "tuple", data := .seq #[x0, x2] } }) : wpAny (model prog w) A (getItem (.ref t) (.ref sl)) Q E s := by
  have htake : sizeOk (.seq #[x0, x2]) := by
    show (2 : Nat) ≤ sizeLine
    decide
  obtain ⟨os, hos, hcs, hds⟩ := id hs
  have hTs : s.TypeIs (.ref sl) "slice" := ⟨os, hos, hcs⟩
  unfold getItem
  try with_reducible refine wpAny_holding ?_
  first | refine wpAny_bind (wpAny_pure ?_) | skip
  refine wpAny_bind (wpAny_sequenceKey ht.typeIs (by decide) ?_)
  refine wpAny_bind (wpAny_callSpecial?_slot (name := Str.ofString "__getitem__") ht.typeIs PyProof.Rows.slot_tuple_getitem
    (wpAny_call_entry PyProof.Rows.slot_tuple_getitem ht.typeIs entry_tuple_getitem ?_ (args_tuple_getitem _ _)))
  show wpAny _ _ (Builtin.Tuple.tupleItemsOf (.ref t) >>= _) _ _ s
  refine wpAny_bind (tupleItemsOf_ ht ?_)
  refine wpAny_bind (wpAny_typeOf hTs ?_)
  rw [if_pos (by decide)]
  refine wpAny_bind (sliceApplied_two hs pl pu ps ?_)
  have e : ((List.range 2).filterMap fun (m : Nat) => (#[x0, x1, x2] : Array Value)[((0 : Int) + (m : Int) * 2).toNat]?).toArray = #[x0, x2] := rfl
  show wpAny _ _ (if ((0 : Int) == 0 && (2 : Int) == 1 && (2 == 3)) = true then _ else _) _ _ s
  rw [if_neg (by decide)]
  first
    | exact wpAny_bind (m := Builtin.Tuple.tupleExact _) (wpAny_newObj_type (wpAny_pure ⟨_, rfl, wpAny_pure h⟩) htake)
    | exact wpAny_bind (m := Builtin.Tuple.tupleExact _) (wpAny_newObj_type (wpAny_bind (wpAny_pure (wpAny_pure ⟨_, rfl, wpAny_pure h⟩))) htake)
    | exact wpAny_bind (wpAny_bind (m := Builtin.Tuple.tupleExact _) (wpAny_newObj_type (wpAny_pure (wpAny_pure ⟨_, rfl, wpAny_pure h⟩)) htake))
    | exact wpAny_bind (wpAny_bind (m := Builtin.Tuple.tupleExact _) (wpAny_newObj_type (wpAny_pure ⟨_, rfl, wpAny_pure h⟩) htake))
end
/-! ### t[::2] -/
def tTup2 (K : Frag) (te : TE) : TE := fun σ H Q => te σ H fun x H1 => ∃ a x0 x1 x2, x = .ref a ∧ SqT K H1 a [x0, x1, x2] ∧ ∀ p, H1 p = none → Q (.ref p) (upd H1 p (.tup [x0, x2]))
section
variable {X : Cx}
theorem pe_tup2 {e : Expr} {te : TE} {k : Nat} {p1 p3 pos : Pos} (he : PE X e te) : PE X (.Subscript e (.Slice none none (some (.Constant (.int 2) k p1)) p3) pos) (tTup2 X.K te) := by
  refine ⟨fun pins s σ H Q I h => ?_⟩
  refine Subscript_ (thn (he.run pins s σ H _ I h) fun v s1 ⟨x, H1, I1, r1, q1⟩ => ?_)
  obtain ⟨a, x0, x1, x2, ex, hx, q⟩ := q1
  subst ex
  cases r1
  have hst : PO X (some (.Constant (.int 2) k p1)) (tPart (tC (.int 2))) := po_some pe_int
  refine wpAny_Slice (thn (po_none.run pins s1 σ H1 (fun o H2 => o = none ∧ H2 = H1) I1 ⟨rfl, rfl⟩) fun vl s2 ⟨l, H2, I2, pl, el, e2⟩ => ?_)
  subst el e2
  refine thn (po_none.run pins s2 σ H2 (fun o H3 => o = none ∧ H3 = H2) I2 ⟨rfl, rfl⟩) fun vu s3 ⟨u, H3, I3, pu, eu, e3⟩ => ?_
  subst eu e3
  refine thn (hst.run pins s3 σ H3 (fun o H4 => o = some 2 ∧ H4 = H3) I3 ⟨2, rfl, rfl, rfl⟩) fun vs s4 ⟨o, H4, I4, ps, eo, e4⟩ => ?_
  subst eo e4
  have I5 : Inv X pins σ H4 { s4 with heap := s4.heap.push { cls := .type "slice", data := .fields #[vl, vu, vs] } } := I4.kept (t' := s4.toks) fun b ob q => Heap.get?_push_of_some _ q
  obtain ⟨its, r, ht, hz⟩ := I5.tuple hx
  obtain ⟨y0, y1, y2, ei, r0, r1, r2⟩ : ∃ y0 y1 y2, its = [y0, y1, y2] ∧ RelV x0 y0 ∧ RelV x1 y1 ∧ RelV x2 y2 := by
    cases r with
    | cons a0 r => cases r with
      | cons a1 r => cases r with
        | cons a2 r => cases r with
          | nil => exact ⟨_, _, _, rfl, a0, a1, a2⟩
  subst ei
  show wpAny (model X.prog X.w) X.A (subscriptTail e (.Slice none none (some (.Constant (.int 2) k p1)) p3) (.ref a) (.ref s4.heap.objs.size)) (EP X pins σ Q) X.xe { s4 with heap := s4.heap.push { cls := .type "slice", data := .fields #[vl, vu, vs] } }
  refine tail_any (ops := [.ref a, .ref s4.heap.objs.size]) ht.typeIs (PyProof.Rows.slot_tuple_getitem.lookup) ?_ (by with_unfolding_all rfl)
  refine getItem_tuple_two ht (Heap.IsSliceOf.new _ vl vu vs) pl pu ps ?_
  refine ⟨.ref _, _, I5.laid (t' := s4.toks) (o := .tup [x0, x2]) (fun b ob q => Heap.get?_push_of_some _ q) (Nat.le_refl _) ?_, rfl, q _ (I5.hok.fresh (Nat.le_refl _))⟩
  exact ⟨by show 2 ≤ sizeLine; decide, _, .cons r0 (.cons r2 .nil), IsTup.new _ _⟩
end
/-! ### == and != of an own class -/
structure EqOf (K : Frag) (C : Addr) (f : Addr) : Prop where
  eq : PySem.W.findIn K (.ref C) "__eq__" = some (some (.ref f))
  fn : PySem.W.isFn K (.ref f) = true
  ne : PySem.W.findIn K (.ref C) "__ne__" = some (some (.builtin "object.__ne__"))
  obj : PySem.W.subIn K (.ref C) (.type "object") = some true
section
variable {prog : Program} {w : World} {A : Around} {E : Value → Shared → Prop} {s : Shared} {K : Frag} {x C f : Addr} {ox : Obj} {od : Option Obj} {y : Value}
theorem eq_try {Q : Option Value → Shared → Prop} (X : K.In s.heap) (I : PySem.W.InstAt s.heap x ox C od) (c : EqOf K C f)
    (h : wpAny (model prog w) A (call (.ref f) [.ref x, y]) (fun v s' => ∃ b, v = .bool b ∧ Q (some (.bool b)) s') E s) : wpAny (model prog w) A (tryCompare (.ref x) "__eq__" y) Q E s := by
  unfold tryCompare
  refine wpAny_bind (PySem.W.ifBound_K X I c.eq c.fn (wpAny_mono h (fun v s' hv => ?_) fun _ _ e => e))
  obtain ⟨b, rfl, q⟩ := hv
  exact wpAny_pure q
theorem objNe_own {Q : Fin → Shared → Prop} (hu : A.units < cLine) (X : K.In s.heap) (I : PySem.W.InstAt s.heap x ox C od) (c : EqOf K C f)
    (h : wpAny (model prog w) A (call (.ref f) [.ref x, y]) (fun v s' => ∃ b, v = .bool b ∧ Q (.done (.ret (.bool (!b)))) s') E s) :
    wpAny (model prog w) A (Builtin.«object.__ne__» ⟨[.ref x, y], []⟩) Q E s := by
  unfold Builtin.«object.__ne__»
  repeat (first
    | with_reducible refine wpAny_cRoomFor hu ?_
    | (refine wpAny_bind (m := callSpecialIfBound? (.ref x) (Str.ofString "__eq__") [y])
        (PySem.W.ifBound_K X I c.eq c.fn (wpAny_mono h (fun r s' hr => by
          obtain ⟨b, rfl, hq⟩ := hr
          repeat (first | exact hq | exact wpAny_pure hq | exact wpAny_truthy_bool hq | (refine wpAny_bind (m := truthy (.bool _)) (wpAny_truthy_bool ?_)) | wp_step)) fun _ _ e => e)))
    | wp_step)
theorem ne_try {Q : Option Value → Shared → Prop} (hu : A.units + 1 < cLine) (X : K.In s.heap) (I : PySem.W.InstAt s.heap x ox C od) (c : EqOf K C f)
    (h : wpAny (model prog w) A.in1 (call (.ref f) [.ref x, y]) (fun v s' => ∃ b, v = .bool b ∧ Q (some (.bool (!b))) s') E s) : wpAny (model prog w) A (tryCompare (.ref x) "__ne__" y) Q E s := by
  unfold tryCompare callSpecialIfBound? bindSpecialIfBound?
  have hb : ∀ self, bindSpecial (.builtin "object.__ne__") self = pure (.builtin "object.__ne__", [self]) := PySem.F.slot_object_ne.bind
  refine wpAny_bind (wpAny_holding (wpAny_bind (wpAny_bind (wpAny_bind (I.type.here ((PySem.W.looks_findIn X c.ne).here ?_))))))
  refine wpAny_bind (wpAny_askSetting (wpAny_ite ?_))
  have lo : Looks (model prog w) s.heap (isInstance (.ref x) (.type "object")) true := I.type.andThen (looks_subIn X c.obj)
  have go : wpAny (model prog w) A (call (.builtin "object.__ne__") [.ref x, y]) (fun v s' => ∃ b, v = .bool (!b) ∧ Q (some (.bool (!b))) s') E s := by
    refine wpAny_call (codeAny_call_builtin PySem.F.slot_object_ne.plain PySem.F.cmpEntry_ne (PySem.W.check_slot PySem.F.cmpKind_ne PySem.F.cmpSplit_ne lo (PySem.F.cmpArgs_ne _ _) (objNe_own (A := A.in1) hu X I c (wpAny_mono h (fun v s' hv => ?_) fun _ _ e => e))))
    obtain ⟨b, rfl, q⟩ := hv
    exact ⟨b, rfl, b, rfl, q⟩
  have fin : wpAny (model prog w) A (call (.builtin "object.__ne__") ([.ref x] ++ [y]) >>= fun v => pure (some v)) (fun r s' => wpAny (model prog w) A (match r with | some .notImplemented | none => pure none | some v => pure (some v)) Q E s') E s := by
    refine wpAny_bind (wpAny_mono go (fun v s' hv => ?_) fun _ _ e => e)
    obtain ⟨b, rfl, q⟩ := hv
    exact wpAny_pure (wpAny_pure q)
  simp only [hb]
  split
  · exact wpAny_bind (wpAny_pure (wpAny_pure fin))
  · exact wpAny_tryCatch (wpAny_bind (wpAny_pure (wpAny_pure fin)))
end

section
variable {X : Cx} {n : Nat} {f : Addr} {fd : FuncData} {ps : List Str} {sp : Sp} {E : XK} {pins : List (Addr × Obj)} {σ : L2.St} {H : Hp} {s : Shared} {Q : VK} {us : List Value} {vs : List V}
/-- a def called from within a built-in one -/
theorem run_in1 (F : FnOk X.prog X.w X.K X.mg X.base (L2.CX X.prog X.w) n f fd ps sp) (hr : Room (n + 1) X.A) (hb : L2.Binds X.K fd ps []) (hx : Passes (L2.CX X.prog X.w) X E) (I : Inv X pins σ H s) (r : Vals vs us) (q : sp vs H Q E) :
    wpAny (model X.prog X.w) X.A.in1 (call (.ref f) us) (EP X pins σ Q) X.xe s := by
  have sb : Sub X n X.A.in1 := Sub.in1 ⟨hr, rfl⟩
  have e0 : Env0 X.prog X.w X.K X.mg X.base X.A.in1 X.stack s H := by
    have e := I.env0
    exact ⟨by rw [sb.fr]; exact e.frames, e.mod, e.bs, e.bsz, e.funs, e.frf, e.hok, e.bare⟩
  have hl := F.len _ _ _ _ q
  have hl2 : us.length = ps.length := by rw [← r.length]; exact hl
  refine wpAny_call (codeAny_mono (F.run X.A.in1 X.stack s H ⟨us, []⟩ us vs Q E sb.room e0 (by
    have := hb s us I.kIn (by simpa using hl2)
    simpa using this) r q) fun r s' hq => ?_)
  cases r with
  | error e => exact hx pins σ H s e s' I hq
  | ok fl =>
    cases fl with
    | ret w => exact I.after hq
    | next => exact False.elim hq
    | brk => exact False.elim hq
    | cont => exact False.elim hq
end
/-- the answer is True or False -/
def isB (Q : VK) : VK := fun v H' => (∃ b, v = .bl b) ∧ Q v H'
def notB (Q : VK) : VK := fun v H' => ∃ b, v = .bl b ∧ Q (.bl (!b)) H'
structure EqL (K : Frag) (f : Addr) : Prop where
  of : ∀ k, EqOf K (cA K k) f
  two : ∀ k j, k ≠ j → cA K k ≠ cA K j ∧ ∃ b, PySem.W.subIn K (.ref (cA K j)) (.ref (cA K k)) = some b
/-- a line and what stands right of it -/
def rEqL (K : Frag) (sp : Sp) (E : XK) (N : VK → VK) : R2 := fun x y H Q => ∃ a k n, x = .ref a ∧ LnAt K H a k n ∧
  ((∃ b j m, y = .ref b ∧ LnAt K H b j m ∧ sp [.ref a, .ref b] H (N Q) E ∧ sp [.ref b, .ref a] H (N Q) E) ∨
   (∃ T, TyX K H y (.type T) ∧ PySem.W.notFirst K (cA K k) (.type T) = true ∧ sp [.ref a, y] H (N Q) E))
section
variable {prog : Program} {w : World} {A : Around} {E : Value → Shared → Prop} {s : Shared} {K : Frag} {x y C D f : Addr} {ox oy : Obj} {od oe : Option Obj} {v tb : Value}
/-- x op v by x's own __eq__ or __ne__, none of v's ahead -/
theorem cmp_own {op : CmpOp} {nm : Str} {sym : String} (hi : cmpInfo op = (sym, nm, nm)) {Q : Value → Shared → Prop} (h1 : oneThing? op (.ref x) v = none) (hu : A.units < cLine) (I : PySem.W.InstAt s.heap x ox C od) (hb : Looks (model prog w) s.heap (typeOf v) tb)
    (X : K.In s.heap) (hn : tb = .ref C ∨ PySem.W.subIn K tb (.ref C) = some false)
    (h : wpAny (model prog w) A (tryCompare (.ref x) nm v) (fun r s' => ∃ b, r = some (.bool b) ∧ Q (.bool b) s') E s) : wpAny (model prog w) A (richCompare op (.ref x) v) Q E s := by
  unfold richCompare
  rw [h1, hi]
  refine wpAny_holding (wpAny_bind (wpAny_cRoomFor hu ?_))
  dsimp only
  refine wpAny_bind (I.type.here (wpAny_bind (hb.here ?_)))
  split
  · rename_i q
    have e : PySem.W.subIn K tb (.ref C) = some false := by
      rcases hn with e | e
      · rw [e] at q; simp at q
      · exact e
    refine wpAny_bind ((looks_subIn X e).here ?_)
    simp only [Bool.false_eq_true, if_false]
    refine wpAny_bind (wpAny_mono h (fun r s' z => ?_) fun _ _ e => e)
    obtain ⟨b, rfl, hq⟩ := z
    exact wpAny_pure hq
  · refine wpAny_bind (wpAny_pure ?_)
    simp only [Bool.false_eq_true, if_false]
    refine wpAny_bind (wpAny_mono h (fun r s' z => ?_) fun _ _ e => e)
    obtain ⟨b, rfl, hq⟩ := z
    exact wpAny_pure hq
/-- x op y, y's class below x's: y's own one is asked -/
theorem cmp_below {op : CmpOp} {nm : Str} {sym : String} (hi : cmpInfo op = (sym, nm, nm)) {Q : Value → Shared → Prop} (h1 : oneThing? op (.ref x) (.ref y) = none) (hu : A.units < cLine) (I : PySem.W.InstAt s.heap x ox C od) (J : PySem.W.InstAt s.heap y oy D oe)
    (X : K.In s.heap) (ne : C ≠ D) (sb : PySem.W.subIn K (.ref D) (.ref C) = some true)
    (h : wpAny (model prog w) A (tryCompare (.ref y) nm (.ref x)) (fun r s' => ∃ b, r = some (.bool b) ∧ Q (.bool b) s') E s) : wpAny (model prog w) A (richCompare op (.ref x) (.ref y)) Q E s := by
  unfold richCompare
  rw [h1, hi]
  refine wpAny_holding (wpAny_bind (wpAny_cRoomFor hu ?_))
  dsimp only
  refine wpAny_bind (I.type.here (wpAny_bind (J.type.here ?_)))
  have hne : (Value.ref C != Value.ref D) = true := by
    rw [bne_iff_ne]
    intro z
    cases z
    exact ne rfl
  rw [if_pos hne]
  refine wpAny_bind ((looks_subIn X sb).here ?_)
  simp only [if_true]
  refine wpAny_bind (wpAny_mono h (fun r s' z => ?_) fun _ _ e => e)
  obtain ⟨b, rfl, hq⟩ := z
  exact wpAny_bind (wpAny_rule (wpAny_pure hq))
end
/-- the heap behind the making of a line at x -/
abbrev mkH (K : Frag) (H : Hp) (x dx : Addr) (k : LK) (n : N3) : Hp := upd (upd (upd H dx (.own x)) x (.ins (cA K k) dx [])) x (.ins (cA K k) dx (lf n))
theorem mkH_same {K : Frag} {H : Hp} {x dx : Addr} {k : LK} {n : N3} (hx : H x = none) (hd : H dx = none) : Same H (mkH K H x dx k n) := mk_same hx hd
theorem mkH_at {K : Frag} {H : Hp} {x dx : Addr} {k : LK} {n : N3} : LnAt K (mkH K H x dx k n) x k n := ⟨dx, upd_same⟩

section
variable {X : Cx} {k0 : Nat} {f : Addr} {fd : FuncData} {ps : List Str} {sp : Sp} {E : XK}
theorem ep_isB {pins : List (Addr × Obj)} {σ : L2.St} {Q : VK} {v : Value} {s' : Shared} (h : EP X pins σ (isB Q) v s') : ∃ b, v = .bool b ∧ (∃ c, some (Value.bool b) = some (.bool c) ∧ EP X pins σ Q (.bool c) s') := by
  obtain ⟨y, H', I', r, ⟨b, rfl⟩, q⟩ := h
  obtain rfl : v = Value.bool b := r
  exact ⟨b, rfl, b, rfl, .bl b, H', I', rfl, q⟩
theorem ep_notB {pins : List (Addr × Obj)} {σ : L2.St} {Q : VK} {v : Value} {s' : Shared} (h : EP X pins σ (notB Q) v s') : ∃ b, v = .bool b ∧ (∃ c, some (Value.bool (!b)) = some (.bool c) ∧ EP X pins σ Q (.bool c) s') := by
  obtain ⟨y, H', I', r, b, rfl, q⟩ := h
  obtain rfl : v = Value.bool b := r
  exact ⟨b, rfl, !b, rfl, .bl (!b), H', I', rfl, q⟩
theorem op_cmpL {op : CmpOp} {nm : Str} {sym : String} {N : VK → VK} (hi : cmpInfo op = (sym, nm, nm)) (hc : ∀ a b, compareOp op a b = richCompare op a b) (O : EqL X.K f) (hu : X.A.units < cLine)
    (run : ∀ (pins : List (Addr × Obj)) (s : Shared) (σ : L2.St) (H : Hp) (a : Addr) (y : V) (u : Value) (C : Addr) (ox : Obj) (od : Option Obj) (Q : VK), Inv X pins σ H s → RelV y u → PySem.W.InstAt s.heap a ox C od → EqOf X.K C f → sp [.ref a, y] H (N Q) E →
      wpAny (model X.prog X.w) X.A (tryCompare (.ref a) nm u) (fun r s' => ∃ b, r = some (.bool b) ∧ EP X pins σ Q (.bool b) s') X.xe s) : OpR X (compareOp op) (rEqL X.K sp E N) := by
  intro pins s σ H x y v u Q I rx ry h
  obtain ⟨a, k, n, rfl, ⟨dx, ha⟩, h⟩ := h
  obtain rfl : v = Value.ref a := rx
  obtain ⟨mA, OA, _⟩ := ins_get I.hok ha
  obtain ⟨od, JA, _⟩ := OA.look
  rw [hc]
  have one : ∀ b, oneThing? op (.ref a) b = none := fun b => by simp only [oneThing_ref]
  rcases h with ⟨b, j, m, rfl, ⟨dy, hb'⟩, q1, q2⟩ | ⟨T, ty, nf, q⟩
  · obtain rfl : u = Value.ref b := ry
    obtain ⟨mB, OB, _⟩ := ins_get I.hok hb'
    obtain ⟨oe, JB, _⟩ := OB.look
    by_cases e : k = j
    · subst e
      exact cmp_own hi (one _) hu JA JB.type I.kIn (.inl rfl) (run pins s σ H a (.ref b) _ _ _ _ Q I rfl JA (O.of k) q1)
    · obtain ⟨ne, bb, sb⟩ := O.two k j e
      cases bb with
      | false => exact cmp_own hi (one _) hu JA JB.type I.kIn (.inr sb) (run pins s σ H a (.ref b) _ _ _ _ Q I rfl JA (O.of k) q1)
      | true => exact cmp_below hi (one _) hu JA JB I.kIn ne sb (run pins s σ H b (.ref a) _ _ _ _ Q I rfl JB (O.of j) q2)
  · obtain ⟨P, Zk, p, hx⟩ := L2.kit_of I ry ty
    have lk := Zk.ty (model X.prog X.w) s.heap I.kIn p
    refine cmp_own hi (one _) hu JA lk I.kIn ?_ (run pins s σ H a _ _ _ _ _ Q I ry JA (O.of k) q)
    rcases Bool.or_eq_true_iff.mp nf with e | e
    · exact .inl (beq_iff_eq.mp e)
    · exact .inr (beq_iff_eq.mp e)
theorem op_eqL (O : EqL X.K f) (F : FnOk X.prog X.w X.K X.mg X.base (L2.CX X.prog X.w) k0 f fd ps sp) (hr : Room (k0 + 1) X.A) (hb : L2.Binds X.K fd ps []) (hx : Passes (L2.CX X.prog X.w) X E) : OpR X (compareOp .Eq) (rEqL X.K sp E isB) := by
  refine op_cmpL (nm := "__eq__") (sym := "==") rfl (fun _ _ => rfl) O (Nat.lt_of_succ_lt (hu_of hr)) fun pins s σ H a y u C ox od Q I ry J c q => ?_
  refine eq_try I.kIn J c ?_
  have w := run_fn (us := [.ref a, u]) (vs := [.ref a, y]) F (hr.mono (Nat.le_succ _)) hb .nil hx I (.cons rfl (.cons ry .nil)) (by rw [List.append_nil]; exact q)
  exact wpAny_mono w (fun _ _ z => ep_isB z) fun _ _ z => z
theorem op_neL (O : EqL X.K f) (F : FnOk X.prog X.w X.K X.mg X.base (L2.CX X.prog X.w) k0 f fd ps sp) (hr : Room (k0 + 1) X.A) (hb : L2.Binds X.K fd ps []) (hx : Passes (L2.CX X.prog X.w) X E) : OpR X (compareOp .NotEq) (rEqL X.K sp E notB) := by
  refine op_cmpL (nm := "__ne__") (sym := "!=") rfl (fun _ _ => rfl) O (Nat.lt_of_succ_lt (hu_of hr)) fun pins s σ H a y u C ox od Q I ry J c q => ?_
  refine ne_try (hu_of hr) I.kIn J c ?_
  have w := run_in1 (us := [.ref a, u]) (vs := [.ref a, y]) F hr hb hx I (.cons rfl (.cons ry .nil)) q
  exact wpAny_mono w (fun _ _ z => ep_notB z) fun _ _ z => z
end
/-! ### the checks of the top -/
def cEqOf (x : Str) (f : Frag → Addr) : Ck := fun K => eqO (PySem.W.findIn K (.ref (ga K x)) "__eq__") (some (some (.ref (f K)))) && (PySem.W.isFn K (.ref (f K)) && (eqO (PySem.W.findIn K (.ref (ga K x)) "__ne__") (some (some (.builtin "object.__ne__"))) && decide (PySem.W.subIn K (.ref (ga K x)) (.type "object") = some true)))
theorem eqOf_of {K : Frag} {x : Str} {f : Frag → Addr} (c : cEqOf x f K = true) : EqOf K (ga K x) (f K) := by
  obtain ⟨c1, c⟩ := Bool.and_eq_true_iff.mp c
  obtain ⟨c2, c⟩ := Bool.and_eq_true_iff.mp c
  obtain ⟨c3, c4⟩ := Bool.and_eq_true_iff.mp c
  exact ⟨eqO_ok c1, c2, eqO_ok c3, of_decide_eq_true c4⟩
def cNf (x : Str) (T : String) : Ck := fun K => PySem.W.notFirst K (ga K x) (.type T)
end Fw

/-! Fw, part L: powers of great ints; repr of None or an int; t[::-1] of a tuple of three; the tape of draws. -/
namespace Fw
open PySem PySem.Spec PyProof.Rows L2
open He (ga ma eqO eqO_ok)
/-! ### a ** b of great ints -/
def CPowW (i j : Int) : Prop := 0 ≤ j ∧ j ≤ 1000 ∧ Sz 8000 i
theorem bits_le8 {b : Nat} {m : Int} (h : Sz b m) : Builtin.Int.intBits m ≤ b := by
  unfold Builtin.Int.intBits
  by_cases z : m = 0
  · subst z
    exact Nat.zero_le _
  · have q : m.natAbs ≠ 0 := by omega
    have l := (Nat.log2_lt q).mpr h
    split
    · exact Nat.zero_le _
    · omega
section
variable {X : Cx}
theorem op_powW : OpR X (binaryOp .Pow) (rI CPowW fun i j => .int (i ^ j.toNat)) := opI fun i j _ _ _ _ _ hc q => by
  obtain ⟨h0, h1, h2⟩ := hc
  refine pow_int h0 ?_ q
  have hb := bits_le8 h2
  have e : (Builtin.Int.intBits i : Int) * j ≤ 8000 * j := Int.mul_le_mul_of_nonneg_right (by omega) h0
  omega
theorem Sz.pow3 {a : Nat} {i : Int} (h : Sz a i) : Sz (a + a + a) (i ^ (3 : Int).toNat) := by
  have e : i ^ (3 : Int).toNat = i * i * i := by
    show i ^ 3 = _
    rw [Int.pow_succ, Int.pow_succ, Int.pow_succ, Int.pow_zero, Int.one_mul]
  rw [e]
  exact (h.mul h).mul h
/-- repr of None or an int -/
theorem call_repr_opt (hu : X.A.units + 64 < cLine) : CallR X (.builtin "repr") (fun xs H Q => ∃ i : Option Int, xs = [optV i] ∧ (∀ j, i = some j → j.natAbs.log2 < 1920) ∧ Q (.str (match i with | some j => Str.ofString (toString j) | none => "None")) H) := by
  intro pins s σ H xs us Q I r h
  obtain ⟨i, rfl, hl, q⟩ := h
  cases i with
  | some j =>
    exact SkE.call_repr_int pins s σ H _ us Q I r ⟨j, rfl, hl j rfl, q⟩
  | none =>
    obtain ⟨u, rfl, ru⟩ := vals1 r
    obtain rfl : u = Value.none := ru
    exact PySem.P.repr_of_none ⟨.str "None", H, I.tok _, ⟨_, rfl⟩, q⟩
end
section
variable {prog : Program} {w : World} {A : Around} {E : Value → Shared → Prop} {s : Shared}
theorem sliceApplied_back {sl : Addr} {vl vu vs : Value} {Q : Int × Int × Nat → Shared → Prop} (hs : s.heap.IsSliceOf sl vl vu vs) (pl : IsPart vl none) (pu : IsPart vu none) (ps : IsPart vs (some (-1)))
    (h : Q (2, -1, 3) s) : wpAny (model prog w) A (Builtin.Slice.sliceApplied (.ref sl) (pure (3 : Int))) Q E s := by
  obtain ⟨os, hos, hcs, hds⟩ := id hs
  unfold Builtin.Slice.sliceApplied Builtin.Slice.sliceFields
  refine wpAny_bind (wpAny_bind (wpAny_field hos hds (x := vl) rfl (wpAny_bind (wpAny_field hos hds (x := vu) rfl (wpAny_bind (wpAny_field hos hds (x := vs) rfl (wpAny_pure ?_)))))))
  refine wpAny_bind (HT.slicePart_ ps ?_)
  show wpAny _ _ (if ((-1 : Int) == 0) = true then _ else _) _ _ s
  rw [if_neg (by decide)]
  refine wpAny_bind (HT.slicePart_ pl (wpAny_bind (HT.slicePart_ pu (wpAny_bind (wpAny_pure ?_)))))
  exact wpAny_pure h
theorem getItem_tuple_back {t sl : Addr} {x0 x1 x2 : Value} {vl vu vs : Value} {Q : Value → Shared → Prop} (ht : IsTup s.heap t #[x0, x1, x2]) (hs : s.heap.IsSliceOf sl vl vu vs) (pl : IsPart vl none) (pu : IsPart vu none) (ps : IsPart vs (some (-1)))
    (h : Q (.ref s.heap.objs.size) { s with heap := s.heap.push { cls := .type "tuple", data := .seq #[x2, x1, x0] } }) : wpAny (model prog w) A (getItem (.ref t) (.ref sl)) Q E s := by
  have htake : sizeOk (.seq #[x2, x1, x0]) := by
    show (3 : Nat) ≤ sizeLine
    decide
  obtain ⟨os, hos, hcs, hds⟩ := id hs
  have hTs : s.TypeIs (.ref sl) "slice" := ⟨os, hos, hcs⟩
  unfold getItem
  try with_reducible refine wpAny_holding ?_
  first | refine wpAny_bind (wpAny_pure ?_) | skip
  refine wpAny_bind (wpAny_sequenceKey ht.typeIs (by decide) ?_)
  refine wpAny_bind (wpAny_callSpecial?_slot (name := Str.ofString "__getitem__") ht.typeIs PyProof.Rows.slot_tuple_getitem
    (wpAny_call_entry PyProof.Rows.slot_tuple_getitem ht.typeIs entry_tuple_getitem ?_ (args_tuple_getitem _ _)))
  show wpAny _ _ (Builtin.Tuple.tupleItemsOf (.ref t) >>= _) _ _ s
  refine wpAny_bind (tupleItemsOf_ ht ?_)
  refine wpAny_bind (wpAny_typeOf hTs ?_)
  rw [if_pos (by decide)]
  refine wpAny_bind (sliceApplied_back hs pl pu ps ?_)
  show wpAny _ _ (if ((2 : Int) == 0 && (-1 : Int) == 1 && (3 == 3)) = true then _ else _) _ _ s
  rw [if_neg (by decide)]
  first
    | exact wpAny_bind (m := Builtin.Tuple.tupleExact _) (wpAny_newObj_type (wpAny_pure ⟨_, rfl, wpAny_pure h⟩) htake)
    | exact wpAny_bind (m := Builtin.Tuple.tupleExact _) (wpAny_newObj_type (wpAny_bind (wpAny_pure (wpAny_pure ⟨_, rfl, wpAny_pure h⟩))) htake)
    | exact wpAny_bind (wpAny_bind (m := Builtin.Tuple.tupleExact _) (wpAny_newObj_type (wpAny_pure (wpAny_pure ⟨_, rfl, wpAny_pure h⟩)) htake))
    | exact wpAny_bind (wpAny_bind (m := Builtin.Tuple.tupleExact _) (wpAny_newObj_type (wpAny_pure ⟨_, rfl, wpAny_pure h⟩) htake))
end
/-! ### t[::-1], t of three items -/
def tTupR (K : Frag) (te : TE) : TE := fun σ H Q => te σ H fun x H1 => ∃ a x0 x1 x2, x = .ref a ∧ SqT K H1 a [x0, x1, x2] ∧ ∀ p, H1 p = none → Q (.ref p) (upd H1 p (.tup [x2, x1, x0]))
section
variable {X : Cx}
theorem pe_tupR {e : Expr} {te : TE} {k : Nat} {p1 p2 p3 pos : Pos} (he : PE X e te) : PE X (.Subscript e (.Slice none none (some (.UnaryOp .USub (.Constant (.int 1) k p1) p2)) p3) pos) (tTupR X.K te) := by
  refine ⟨fun pins s σ H Q I h => ?_⟩
  refine Subscript_ (thn (he.run pins s σ H _ I h) fun v s1 ⟨x, H1, I1, r1, q1⟩ => ?_)
  obtain ⟨a, x0, x1, x2, ex, hx, q⟩ := q1
  subst ex
  cases r1
  have hst : PO X (some (.UnaryOp .USub (.Constant (.int 1) k p1) p2)) (tPart (tUn (rU fun i => .int (-i)) (tC (.int 1)))) := po_some (pe_un un_neg pe_int)
  refine wpAny_Slice (thn (po_none.run pins s1 σ H1 (fun o H2 => o = none ∧ H2 = H1) I1 ⟨rfl, rfl⟩) fun vl s2 ⟨l, H2, I2, pl, el, e2⟩ => ?_)
  subst el e2
  refine thn (po_none.run pins s2 σ H2 (fun o H3 => o = none ∧ H3 = H2) I2 ⟨rfl, rfl⟩) fun vu s3 ⟨u, H3, I3, pu, eu, e3⟩ => ?_
  subst eu e3
  refine thn (hst.run pins s3 σ H3 (fun o H4 => o = some (-1) ∧ H4 = H3) I3 ⟨1, rfl, -1, rfl, rfl, rfl⟩) fun vs s4 ⟨o, H4, I4, ps, eo, e4⟩ => ?_
  subst eo e4
  have I5 : Inv X pins σ H4 { s4 with heap := s4.heap.push { cls := .type "slice", data := .fields #[vl, vu, vs] } } := I4.kept (t' := s4.toks) fun b ob q => Heap.get?_push_of_some _ q
  obtain ⟨its, r, ht, hz⟩ := I5.tuple hx
  obtain ⟨y0, y1, y2, ei, r0, r1, r2⟩ : ∃ y0 y1 y2, its = [y0, y1, y2] ∧ RelV x0 y0 ∧ RelV x1 y1 ∧ RelV x2 y2 := by
    cases r with
    | cons a0 r => cases r with
      | cons a1 r => cases r with
        | cons a2 r => cases r with
          | nil => exact ⟨_, _, _, rfl, a0, a1, a2⟩
  subst ei
  show wpAny (model X.prog X.w) X.A (subscriptTail e (.Slice none none (some (.UnaryOp .USub (.Constant (.int 1) k p1) p2)) p3) (.ref a) (.ref s4.heap.objs.size)) (EP X pins σ Q) X.xe { s4 with heap := s4.heap.push { cls := .type "slice", data := .fields #[vl, vu, vs] } }
  refine tail_any (ops := [.ref a, .ref s4.heap.objs.size]) ht.typeIs (PyProof.Rows.slot_tuple_getitem.lookup) ?_ (by with_unfolding_all rfl)
  refine getItem_tuple_back ht (Heap.IsSliceOf.new _ vl vu vs) pl pu ps ?_
  refine ⟨.ref _, _, I5.laid (t' := s4.toks) (o := .tup [x2, x1, x0]) (fun b ob q => Heap.get?_push_of_some _ q) (Nat.le_refl _) ?_, rfl, q _ (I5.hok.fresh (Nat.le_refl _))⟩
  exact ⟨by show 3 ≤ sizeLine; decide, _, .cons r2 (.cons r1 (.cons r0 .nil)), IsTup.new _ _⟩
end
/-! ### the tape: a list [digits, seed, count] -/
/-- N counts may still be made -/
def Tp (a : Addr) (N : Nat) (H : Hp) : Prop := ∃ (d m n : Int), H a = some (.lst [.int d, .int m, .int n]) ∧ 0 ≤ d ∧ 0 ≤ m ∧ m < 2 ^ 140 ∧ 0 ≤ n ∧ n + (N : Int) ≤ 2 ^ 40
theorem Tp.less {a : Addr} {N N' : Nat} {H : Hp} (h : Tp a N H) (l : N' ≤ N) : Tp a N' H := by
  obtain ⟨d, m, n, h1, h2, h3, h4, h5, h6⟩ := h
  exact ⟨d, m, n, h1, h2, h3, h4, h5, by omega⟩
theorem Tp.same {a : Addr} {N : Nat} {H H' : Hp} (h : Tp a N H) (s : Same H H') : Tp a N H' := by
  obtain ⟨d, m, n, h1, h2⟩ := h
  exact ⟨d, m, n, s _ _ h1, h2⟩
theorem Tp.out {a p : Addr} {N : Nat} {H : Hp} {o : HO} (h : Tp a N H) (e : H p = some o) (d : ∀ xs, o ≠ .lst xs) : ¬ fdM a p := by
  obtain ⟨x, m, n, h1, _⟩ := h
  intro z
  rw [show p = a from z, h1] at e
  cases e
  exact d _ rfl
theorem Tp.fresh {a p : Addr} {N : Nat} {H : Hp} (h : Tp a N H) (e : H p = none) : ¬ fdM a p := by
  obtain ⟨x, m, n, h1, _⟩ := h
  intro z
  rw [show p = a from z, h1] at e
  cases e
theorem Tp.line {K : Frag} {a p : Addr} {N : Nat} {H H' : Hp} {k : LK} {n : N3} (h : Tp a N H) (x : Ext (fdM a) H H') (e : LnAt K H p k n) : LnAt K H' p k n := let ⟨dx, e⟩ := e; ⟨dx, x _ _ (h.out e fun _ z => nomatch z) e⟩
theorem Tp.tup {a p : Addr} {N : Nat} {H H' : Hp} {xs : List V} (h : Tp a N H) (x : Ext (fdM a) H H') (e : H p = some (.tup xs)) : H' p = some (.tup xs) := x _ _ (h.out e fun _ z => nomatch z) e
/-- next(tape, many): some number below many -/
def spNext (K : Frag) : Sp := fun vs H Q _ => ∃ (a : Addr) (N : Nat) (m : Int), vs = [.ref a, .int m] ∧ Tp a (N + 1) H ∧ 1 ≤ m ∧ Sz 4000 m ∧
  ∀ (v : Int) (H' : Hp), 0 ≤ v → v < m → Ext (fdM a) H H' → Tp a N H' → Q (.int v) H'
/-- headways of which each one divides the next one, up to a number -/
structure ChL (lim : Int) (cs : List Int) : Prop where
  ne : cs ≠ []
  len : cs.length ≤ 10
  pos : ∀ c ∈ cs, 1 ≤ c ∧ c ≤ lim
  div : cs.Pairwise (fun x y => x ∣ y)
theorem ChL.fit {g : Int} {cs : List Int} (h : ChL g cs) {x y : Int} (hx : x ∈ cs) (hy : y ∈ cs) : x ∣ y ∨ y ∣ x := by
  obtain ⟨i, hi, rfl⟩ := List.mem_iff_getElem.mp hx
  obtain ⟨j, hj, rfl⟩ := List.mem_iff_getElem.mp hy
  have q := List.pairwise_iff_getElem.mp h.div
  by_cases c : i < j
  · exact .inl (q i j hi hj c)
  by_cases d : j < i
  · exact .inr (q j i hj hi d)
  · have e : i = j := by omega
    subst e
    exact .inl (Int.dvd_refl _)
theorem ChL.app {g : Int} {ds : List Int} {l m : Int} (h : ChL g (ds ++ [l])) (hd : ∀ x ∈ ds, x ∣ l) (hl : (ds ++ [l]).length ≤ 9) (h1 : 1 ≤ l * m) (h2 : l * m ≤ g) : ChL g ((ds ++ [l]) ++ [l * m]) ∧ ∀ x ∈ ds ++ [l], x ∣ l * m := by
  have hx : ∀ x ∈ ds ++ [l], x ∣ l * m := by
    intro x hx
    rcases List.mem_append.mp hx with q | q
    · exact Int.dvd_trans (hd x q) (Int.dvd_mul_right l m)
    · rw [List.mem_singleton.mp q]
      exact Int.dvd_mul_right l m
  refine ⟨⟨by simp, by rw [List.length_append]; simp; simp at hl; omega, ?_, ?_⟩, hx⟩
  · intro c hc
    rcases List.mem_append.mp hc with q | q
    · exact h.pos c q
    · rw [List.mem_singleton.mp q]
      exact ⟨h1, h2⟩
  · rw [List.pairwise_append]
    refine ⟨h.div, List.pairwise_singleton _ _, ?_⟩
    intro x hx' y hy
    rw [List.mem_singleton.mp hy]
    exact hx x hx'
/-- a list at p of tuples of the numbers ns -/
def RwAt (H : Hp) (p : Addr) (rs : List Addr) (ns : List N3) : Prop := H p = some (.lst (rs.map V.ref)) ∧ rs.length = ns.length ∧ ∀ (i : Nat) r n, rs[i]? = some r → ns[i]? = some n → T3 H r n
theorem RwAt.same {H H' : Hp} {p : Addr} {rs : List Addr} {ns : List N3} (h : RwAt H p rs ns) (s : Same H H') : RwAt H' p rs ns := ⟨s _ _ h.1, h.2.1, fun i r n a b => (h.2.2 i r n a b).same s⟩
end Fw

namespace Fw
/-- what two ways share: the goal after them, found by the first that comes to it (apply share) -/
theorem share {P G : Prop} (f : P → G) (p : P) : G := f p
/-- the same, where the ways bring their own value and heap; the first way must bring variables -/
theorem share2 {α β : Type} {P : α → β → Prop} {G : Prop} (R : α → β → Prop) (f : (∀ a b, R a b → P a b) → G) (p : ∀ a b, R a b → P a b) : G := f p
open PySem PySem.Spec PyProof.Rows L2
open He (ga)
/-- isinstance against a class of the program -/
def cKit (x y : Str) (b : Bool) : Ck := fun K => decide (PySem.W.kitOne K (.ref (ga K x)) (.ref (ga K y)) = some b)
theorem kit_of {K : Frag} {x y : Str} {b : Bool} (c : cKit x y b K = true) : PySem.W.kitOne K (.ref (ga K x)) (.ref (ga K y)) = some b := of_decide_eq_true c
/-- type(an instance) is asked for as for any object -/
def cTyp (x : Str) : Ck := fun K => He.eqO (PySem.W.findIn K (.ref (ga K x)) "__class__") (some (some (.builtin "object.__class__"))) && (He.eqO (PySem.W.specialIn K (.builtin "object.__class__") "__get__") (some (some (.builtin "getset_descriptor.__get__"))) &&
  (decide (PySem.W.takesIn K (.builtin "object.__class__") = some true) && decide (PySem.W.mroIn K (ga K x) (.type "object") = some true)))
structure Typ (K : Frag) (C : Addr) : Prop where
  ha : PySem.W.findIn K (.ref C) "__class__" = some (some (.builtin "object.__class__"))
  hn : PySem.W.specialIn K (.builtin "object.__class__") "__get__" = some (some (.builtin "getset_descriptor.__get__"))
  tk : PySem.W.takesIn K (.builtin "object.__class__") = some true
  hm : PySem.W.mroIn K C (.type "object") = some true
theorem typ_of {K : Frag} {x : Str} (c : cTyp x K = true) : Typ K (ga K x) := by
  obtain ⟨c1, c⟩ := Bool.and_eq_true_iff.mp c
  obtain ⟨c2, c⟩ := Bool.and_eq_true_iff.mp c
  obtain ⟨c3, c4⟩ := Bool.and_eq_true_iff.mp c
  exact ⟨He.eqO_ok c1, He.eqO_ok c2, of_decide_eq_true c3, of_decide_eq_true c4⟩
theorem Typ.line {K : Frag} {H : Hp} {a : Addr} {k : LK} {n : N3} (t : Typ K (cA K k)) (L : LnF K) (h : LnAt K H a k n) : TyX K H (.ref a) (.ref (cA K k)) := by
  obtain ⟨dx, e⟩ := h
  exact .base (.ins e (L.cls k) t.ha t.hn t.tk t.hm)
theorem kn_inj {j k : LK} (h : kn j = kn k) : j = k := by
  cases j <;> cases k <;> first | rfl | exact absurd h (by decide +kernel)
theorem kn_walk {k : LK} (h : V.str (kn k) = V.str ("walk" : Str)) : k = .walk := kn_inj (V.str.inj h)
theorem kn_stop {k : LK} (h : V.str (kn k) = V.str ("stop" : Str)) : k = .stop := kn_inj (V.str.inj h)
end Fw

namespace My
open PySem PySem.Spec PyProof.Rows L2 Fw
open He (ga ma)
abbrev PP : Program := PySem.Challenge.pw_onwardlines_k33_great_lines_compared
def top (i : Nat) : Stmt := PySem.Challenge.pw_onwardlines_k33_great_lines_compared.main.body.getD i (.Pass ⟨0, 0, 0, 0⟩)
abbrev s_is_integer : Stmt := top 15
abbrev s_are_numbers : Stmt := top 16
abbrev s_Line_init : Stmt := inClass (top 19) 1
abbrev s_Walk_init : Stmt := inClass (top 20) 1
abbrev s_Stop_init : Stmt := inClass (top 21) 1
abbrev s_Line_every : Stmt := inClass (top 19) 2
abbrev s_Line_at : Stmt := inClass (top 19) 3
abbrev s_Line_ride : Stmt := inClass (top 19) 4
abbrev s__law_tape : Stmt := top 23
abbrev s__law_next : Stmt := top 24
abbrev s__law_chain : Stmt := top 25
abbrev s__law_rows : Stmt := top 26
abbrev s__law_line : Stmt := top 27
abbrev s__law_two : Stmt := top 28
abbrev s_Pair_init : Stmt := inClass (top 7) 0
abbrev s_Pair_count_from : Stmt := inClass (top 7) 1
abbrev s_Pair_least : Stmt := inClass (top 7) 2
abbrev s_first_within : Stmt := top 8
abbrev s_Pair_first_from : Stmt := inClass (top 7) 3
abbrev s_Pair_first_below : Stmt := inClass (top 7) 4
abbrev s_differences : Stmt := top 9
abbrev s_worst_start : Stmt := top 10
abbrev s_count_starts : Stmt := top 11
abbrev s_first_earlier : Stmt := top 12
abbrev s__law_lead : Stmt := top 29
abbrev s__law_many_from : Stmt := top 30
abbrev s__law_early : Stmt := top 31
abbrev s__law_right : Stmt := top 32
abbrev s_law : Stmt := top 33
theorem sc_is_integer : FnScope ["thing"] ["thing"] (defScope s_is_integer) := ⟨rfl, rfl, rfl, by decide +kernel, rfl, by decide +kernel, by decide +kernel⟩
theorem sc_are_numbers : FnScope ["every", "at", "ride"] ["every", "at", "ride"] (defScope s_are_numbers) := ⟨rfl, rfl, rfl, by decide +kernel, rfl, by decide +kernel, by decide +kernel⟩
theorem sc_Line_init : FnScope ["self", "every", "at", "ride"] ["self", "every", "at", "ride"] (defScope s_Line_init) := ⟨rfl, rfl, rfl, by decide +kernel, rfl, by decide +kernel, by decide +kernel⟩
theorem sc_Walk_init : SupScope ["self", "ride"] ["self", "ride"] (defScope s_Walk_init) := ⟨rfl, rfl, rfl, by decide +kernel, rfl, by decide +kernel, by decide +kernel, by decide +kernel, rfl, rfl⟩
theorem sc_Stop_init : SupScope ["self", "every", "at"] ["self", "every", "at"] (defScope s_Stop_init) := ⟨rfl, rfl, rfl, by decide +kernel, rfl, by decide +kernel, by decide +kernel, by decide +kernel, rfl, rfl⟩
theorem sc_Line_every : FnScope ["self"] ["self"] (defScope s_Line_every) := ⟨rfl, rfl, rfl, by decide +kernel, rfl, by decide +kernel, by decide +kernel⟩
theorem sc_Line_at : FnScope ["self"] ["self"] (defScope s_Line_at) := ⟨rfl, rfl, rfl, by decide +kernel, rfl, by decide +kernel, by decide +kernel⟩
theorem sc_Line_ride : FnScope ["self"] ["self"] (defScope s_Line_ride) := ⟨rfl, rfl, rfl, by decide +kernel, rfl, by decide +kernel, by decide +kernel⟩
theorem sc__law_tape : FnScope ["script", "k", "cell"] ["script", "k"] (defScope s__law_tape) := ⟨rfl, rfl, rfl, by decide +kernel, rfl, by decide +kernel, by decide +kernel⟩
theorem sc__law_next : FnScope ["tape", "many", "digit", "mixed"] ["tape", "many"] (defScope s__law_next) := ⟨rfl, rfl, rfl, by decide +kernel, rfl, by decide +kernel, by decide +kernel⟩
theorem sc__law_chain : FnScope ["tape", "most", "found", "turn", "factor"] ["tape", "most"] (defScope s__law_chain) := ⟨rfl, rfl, rfl, by decide +kernel, rfl, by decide +kernel, by decide +kernel⟩
theorem sc__law_rows : FnScope ["tape", "many", "most", "chain", "found", "turn", "headway", "ride"] ["tape", "many", "most"] (defScope s__law_rows) := ⟨rfl, rfl, rfl, by decide +kernel, rfl, by decide +kernel, by decide +kernel⟩
theorem sc__law_line : FnScope ["row"] ["row"] (defScope s__law_line) := ⟨rfl, rfl, rfl, by decide +kernel, rfl, by decide +kernel, by decide +kernel⟩
theorem sc__law_two : FnScope ["tape", "most", "rows", "one", "other", "near"] ["tape", "most"] (defScope s__law_two) := ⟨rfl, rfl, rfl, by decide +kernel, rfl, by decide +kernel, by decide +kernel⟩
theorem sc_Pair_init : FnScope ["self", "one", "other", "lesser", "greater", "fine", "coarse"] ["self", "one", "other"] (defScope s_Pair_init) := ⟨rfl, rfl, rfl, by decide +kernel, rfl, by decide +kernel, by decide +kernel⟩
theorem sc_Pair_count_from : FnScope ["self", "value", "steps"] ["self", "value"] (defScope s_Pair_count_from) := ⟨rfl, rfl, rfl, by decide +kernel, rfl, by decide +kernel, by decide +kernel⟩
theorem sc_Pair_least : FnScope ["self"] ["self"] (defScope s_Pair_least) := ⟨rfl, rfl, rfl, by decide +kernel, rfl, by decide +kernel, by decide +kernel⟩
theorem sc_first_within : FnScope ["first", "many", "modulus", "time", "passed"] ["first", "many", "modulus", "time"] (defScope s_first_within) := ⟨rfl, rfl, rfl, by decide +kernel, rfl, by decide +kernel, by decide +kernel⟩
theorem sc_Pair_first_from : FnScope ["self", "value", "time", "many"] ["self", "value", "time"] (defScope s_Pair_first_from) := ⟨rfl, rfl, rfl, by decide +kernel, rfl, by decide +kernel, by decide +kernel⟩
theorem sc_Pair_first_below : FnScope ["self", "value", "time"] ["self", "value", "time"] (defScope s_Pair_first_below) := ⟨rfl, rfl, rfl, by decide +kernel, rfl, by decide +kernel, by decide +kernel⟩
theorem sc_differences : FnScope ["one", "other", "pair", "least", "most", "step"] ["one", "other"] (defScope s_differences) := ⟨rfl, rfl, rfl, by decide +kernel, rfl, by decide +kernel, by decide +kernel⟩
theorem sc_worst_start : FnScope ["one", "other", "pair"] ["one", "other"] (defScope s_worst_start) := ⟨rfl, rfl, rfl, by decide +kernel, rfl, by decide +kernel, by decide +kernel⟩
theorem sc_count_starts : FnScope ["one", "other", "pair", "above", "from_zero", "below", "equal"] ["one", "other"] (defScope s_count_starts) := ⟨rfl, rfl, rfl, by decide +kernel, rfl, by decide +kernel, by decide +kernel⟩
theorem sc_first_earlier : FnScope ["one", "other", "time", "pair"] ["one", "other", "time"] (defScope s_first_earlier) := ⟨rfl, rfl, rfl, by decide +kernel, rfl, by decide +kernel, by decide +kernel⟩
theorem sc__law_lead : FnScope ["first", "second", "start", "wait"] ["first", "second", "start"] (defScope s__law_lead) := ⟨rfl, rfl, rfl, by decide +kernel, rfl, by decide +kernel, by decide +kernel⟩
theorem sc__law_many_from : FnScope ["first", "second", "value", "low", "high", "anchor", "half"] ["first", "second", "value"] (defScope s__law_many_from) := ⟨rfl, rfl, rfl, by decide +kernel, rfl, by decide +kernel, by decide +kernel⟩
theorem sc__law_early : FnScope ["case", "begin", "fine", "coarse", "is_first", "many", "low", "size", "passed"] ["case", "begin"] (defScope s__law_early) := ⟨rfl, rfl, rfl, by decide +kernel, rfl, by decide +kernel, by decide +kernel⟩
theorem sc__law_right : FnScope ["tape", "first", "second", "one", "other", "is_first", "fine", "coarse", "ends", "step", "worst", "some", "above", "from_zero", "counts", "begin", "due"] ["tape", "first", "second"] (defScope s__law_right) := ⟨rfl, rfl, rfl, by decide +kernel, rfl, by decide +kernel, by decide +kernel⟩
theorem sc_law : FnScope ["script", "k", "tape", "turn", "first", "second", "one", "other"] ["script"] (defScope s_law) := ⟨rfl, rfl, rfl, by decide +kernel, rfl, by decide +kernel, by decide +kernel⟩
def cks : List Ck := ([cFree "abs", cFree "bool", cFree "int", cFree "isinstance", cFree "len", cFree "max", cFree "min", cFree "range", cFree "repr", cFree "sorted", cGlo "is_integer", cGlo "are_numbers", cGlo "_law_tape", cGlo "_law_next", cGlo "_law_chain", cGlo "_law_rows", cGlo "_law_line", cGlo "_law_two", cGlo "first_within", cGlo "differences", cGlo "worst_start", cGlo "count_starts", cGlo "first_earlier", cGlo "_law_lead", cGlo "_law_many_from", cGlo "_law_early", cGlo "_law_right", cGlo "law", cGlo "Line", cCls "Line"] : List Ck) ++ ([cMkr "Line", cGlo "Walk", cCls "Walk", cMkr "Walk", cGlo "Stop", cCls "Stop", cMkr "Stop", cNoat "Line" "held_every", cNoat "Walk" "held_every", cNoat "Stop" "held_every", cNoat "Line" "held_at", cNoat "Walk" "held_at", cNoat "Stop" "held_at", cNoat "Line" "held_ride", cNoat "Walk" "held_ride", cNoat "Stop" "held_ride", cProp "Line" "at", cProp "Walk" "at", cSameP "Walk" "Line" "at", cProp "Stop" "at", cSameP "Stop" "Line" "at", cProp "Line" "every", cProp "Walk" "every", cSameP "Walk" "Line" "every", cProp "Stop" "every", cSameP "Stop" "Line" "every", cProp "Line" "ride", cProp "Walk" "ride", cSameP "Walk" "Line" "ride", cProp "Stop" "ride"] : List Ck) ++ ([cSameP "Stop" "Line" "ride", cSup "Walk" "Line" "/claim/cut.py", cSup "Stop" "Line" "/claim/cut.py", cGlo "Pair", cCls "Pair", cMkr "Pair", cNoat "Pair" "is_finer", cNoat "Pair" "lesser", cNoat "Pair" "greater", cNoat "Pair" "anchor", cNoat "Pair" "shift", cNoat "Pair" "most", cMeth "Pair" "count_from", cMeth "Pair" "first_below", cMeth "Pair" "first_from", cMeth "Pair" "least"] : List Ck)
def fns : List DefM := ([⟨fun K => ga K "is_integer", "is_integer", "is_integer", s_is_integer, []⟩, ⟨fun K => ga K "are_numbers", "are_numbers", "are_numbers", s_are_numbers, []⟩, ⟨fun K => ma K (ga K "Line") "__init__", "__init__", "Line.__init__", s_Line_init, []⟩, ⟨fun K => ma K (ga K "Walk") "__init__", "__init__", "Walk.__init__", s_Walk_init, ["__class__"]⟩, ⟨fun K => ma K (ga K "Stop") "__init__", "__init__", "Stop.__init__", s_Stop_init, ["__class__"]⟩, ⟨fun K => prA K (ga K "Line") "every", "every", "Line.every", s_Line_every, []⟩, ⟨fun K => prA K (ga K "Line") "at", "at", "Line.at", s_Line_at, []⟩, ⟨fun K => prA K (ga K "Line") "ride", "ride", "Line.ride", s_Line_ride, []⟩, ⟨fun K => ga K "_law_tape", "_law_tape", "_law_tape", s__law_tape, []⟩, ⟨fun K => ga K "_law_next", "_law_next", "_law_next", s__law_next, []⟩, ⟨fun K => ga K "_law_chain", "_law_chain", "_law_chain", s__law_chain, []⟩, ⟨fun K => ga K "_law_rows", "_law_rows", "_law_rows", s__law_rows, []⟩, ⟨fun K => ga K "_law_line", "_law_line", "_law_line", s__law_line, []⟩, ⟨fun K => ga K "_law_two", "_law_two", "_law_two", s__law_two, []⟩, ⟨fun K => ma K (ga K "Pair") "__init__", "__init__", "Pair.__init__", s_Pair_init, []⟩] : List DefM) ++ ([⟨fun K => ma K (ga K "Pair") "count_from", "count_from", "Pair.count_from", s_Pair_count_from, []⟩, ⟨fun K => ma K (ga K "Pair") "least", "least", "Pair.least", s_Pair_least, []⟩, ⟨fun K => ga K "first_within", "first_within", "first_within", s_first_within, []⟩, ⟨fun K => ma K (ga K "Pair") "first_from", "first_from", "Pair.first_from", s_Pair_first_from, []⟩, ⟨fun K => ma K (ga K "Pair") "first_below", "first_below", "Pair.first_below", s_Pair_first_below, []⟩, ⟨fun K => ga K "differences", "differences", "differences", s_differences, []⟩, ⟨fun K => ga K "worst_start", "worst_start", "worst_start", s_worst_start, []⟩, ⟨fun K => ga K "count_starts", "count_starts", "count_starts", s_count_starts, []⟩, ⟨fun K => ga K "first_earlier", "first_earlier", "first_earlier", s_first_earlier, []⟩, ⟨fun K => ga K "_law_lead", "_law_lead", "_law_lead", s__law_lead, []⟩, ⟨fun K => ga K "_law_many_from", "_law_many_from", "_law_many_from", s__law_many_from, []⟩, ⟨fun K => ga K "_law_early", "_law_early", "_law_early", s__law_early, []⟩, ⟨fun K => ga K "_law_right", "_law_right", "_law_right", s__law_right, []⟩, ⟨fun K => ga K "law", "law", "law", s_law, []⟩] : List DefM)
section
variable {K : Frag} {mg : Str → Option Value}
theorem n_abs (Z : Zs cks fns K mg) : mg "abs" = none := Z.free (Z.c 0)
theorem n_bool (Z : Zs cks fns K mg) : mg "bool" = none := Z.free (Z.c 1)
theorem n_int (Z : Zs cks fns K mg) : mg "int" = none := Z.free (Z.c 2)
theorem n_isinstance (Z : Zs cks fns K mg) : mg "isinstance" = none := Z.free (Z.c 3)
theorem n_len (Z : Zs cks fns K mg) : mg "len" = none := Z.free (Z.c 4)
theorem n_max (Z : Zs cks fns K mg) : mg "max" = none := Z.free (Z.c 5)
theorem n_min (Z : Zs cks fns K mg) : mg "min" = none := Z.free (Z.c 6)
theorem n_range (Z : Zs cks fns K mg) : mg "range" = none := Z.free (Z.c 7)
theorem n_repr (Z : Zs cks fns K mg) : mg "repr" = none := Z.free (Z.c 8)
theorem n_sorted (Z : Zs cks fns K mg) : mg "sorted" = none := Z.free (Z.c 9)
theorem g_is_integer (Z : Zs cks fns K mg) : mg "is_integer" = some (.ref (ga K "is_integer")) := Z.glo (Z.c 10)
theorem u_is_integer (Z : Zs cks fns K mg) : Fun K "is_integer" "is_integer" s_is_integer (ga K "is_integer") (fdAt K (ga K "is_integer")) := Z.f 0
theorem b_is_integer (Z : Zs cks fns K mg) : L2.Binds K (fdAt K (ga K "is_integer")) ["thing"] [] := (u_is_integer Z).binds (ps := ["thing"]) fun _ _ _ _ _ _ us hl => match us, hl with | [_], _ => rfl
theorem g_are_numbers (Z : Zs cks fns K mg) : mg "are_numbers" = some (.ref (ga K "are_numbers")) := Z.glo (Z.c 11)
theorem u_are_numbers (Z : Zs cks fns K mg) : Fun K "are_numbers" "are_numbers" s_are_numbers (ga K "are_numbers") (fdAt K (ga K "are_numbers")) := Z.f 1
theorem b_are_numbers (Z : Zs cks fns K mg) : L2.Binds K (fdAt K (ga K "are_numbers")) ["every", "at", "ride"] [] := (u_are_numbers Z).binds (ps := ["every", "at", "ride"]) fun _ _ _ _ _ _ us hl => match us, hl with | [_, _, _], _ => rfl
theorem u_Line_init (Z : Zs cks fns K mg) : Fun K "__init__" "Line.__init__" s_Line_init (ma K (ga K "Line") "__init__") (fdAt K (ma K (ga K "Line") "__init__")) := Z.f 2
theorem b_Line_init (Z : Zs cks fns K mg) : L2.Binds K (fdAt K (ma K (ga K "Line") "__init__")) ["self", "every", "at", "ride"] [] := (u_Line_init Z).binds (ps := ["self", "every", "at", "ride"]) fun _ _ _ _ _ _ us hl => match us, hl with | [_, _, _, _], _ => rfl
theorem u_Walk_init (Z : Zs cks fns K mg) : FunC K "__init__" "Walk.__init__" "__class__" s_Walk_init (ma K (ga K "Walk") "__init__") := Z.fc 3
theorem b_Walk_init (Z : Zs cks fns K mg) : L2.Binds K (fdAt K (ma K (ga K "Walk") "__init__")) ["self", "ride"] [] := FunC.binds (ps := ["self", "ride"]) (u_Walk_init Z) fun _ _ _ _ _ _ _ us hl => match us, hl with | [_, _], _ => rfl
theorem u_Stop_init (Z : Zs cks fns K mg) : FunC K "__init__" "Stop.__init__" "__class__" s_Stop_init (ma K (ga K "Stop") "__init__") := Z.fc 4
theorem b_Stop_init (Z : Zs cks fns K mg) : L2.Binds K (fdAt K (ma K (ga K "Stop") "__init__")) ["self", "every", "at"] [] := FunC.binds (ps := ["self", "every", "at"]) (u_Stop_init Z) fun _ _ _ _ _ _ _ us hl => match us, hl with | [_, _, _], _ => rfl
theorem u_Line_every (Z : Zs cks fns K mg) : Fun K "every" "Line.every" s_Line_every (prA K (ga K "Line") "every") (fdAt K (prA K (ga K "Line") "every")) := Z.f 5
theorem b_Line_every (Z : Zs cks fns K mg) : L2.Binds K (fdAt K (prA K (ga K "Line") "every")) ["self"] [] := (u_Line_every Z).binds (ps := ["self"]) fun _ _ _ _ _ _ us hl => match us, hl with | [_], _ => rfl
theorem u_Line_at (Z : Zs cks fns K mg) : Fun K "at" "Line.at" s_Line_at (prA K (ga K "Line") "at") (fdAt K (prA K (ga K "Line") "at")) := Z.f 6
theorem b_Line_at (Z : Zs cks fns K mg) : L2.Binds K (fdAt K (prA K (ga K "Line") "at")) ["self"] [] := (u_Line_at Z).binds (ps := ["self"]) fun _ _ _ _ _ _ us hl => match us, hl with | [_], _ => rfl
theorem u_Line_ride (Z : Zs cks fns K mg) : Fun K "ride" "Line.ride" s_Line_ride (prA K (ga K "Line") "ride") (fdAt K (prA K (ga K "Line") "ride")) := Z.f 7
theorem b_Line_ride (Z : Zs cks fns K mg) : L2.Binds K (fdAt K (prA K (ga K "Line") "ride")) ["self"] [] := (u_Line_ride Z).binds (ps := ["self"]) fun _ _ _ _ _ _ us hl => match us, hl with | [_], _ => rfl
theorem g__law_tape (Z : Zs cks fns K mg) : mg "_law_tape" = some (.ref (ga K "_law_tape")) := Z.glo (Z.c 12)
theorem u__law_tape (Z : Zs cks fns K mg) : Fun K "_law_tape" "_law_tape" s__law_tape (ga K "_law_tape") (fdAt K (ga K "_law_tape")) := Z.f 8
theorem b__law_tape (Z : Zs cks fns K mg) : L2.Binds K (fdAt K (ga K "_law_tape")) ["script", "k"] [] := (u__law_tape Z).binds (ps := ["script", "k"]) fun _ _ _ _ _ _ us hl => match us, hl with | [_, _], _ => rfl
theorem g__law_next (Z : Zs cks fns K mg) : mg "_law_next" = some (.ref (ga K "_law_next")) := Z.glo (Z.c 13)
theorem u__law_next (Z : Zs cks fns K mg) : Fun K "_law_next" "_law_next" s__law_next (ga K "_law_next") (fdAt K (ga K "_law_next")) := Z.f 9
theorem b__law_next (Z : Zs cks fns K mg) : L2.Binds K (fdAt K (ga K "_law_next")) ["tape", "many"] [] := (u__law_next Z).binds (ps := ["tape", "many"]) fun _ _ _ _ _ _ us hl => match us, hl with | [_, _], _ => rfl
theorem g__law_chain (Z : Zs cks fns K mg) : mg "_law_chain" = some (.ref (ga K "_law_chain")) := Z.glo (Z.c 14)
theorem u__law_chain (Z : Zs cks fns K mg) : Fun K "_law_chain" "_law_chain" s__law_chain (ga K "_law_chain") (fdAt K (ga K "_law_chain")) := Z.f 10
theorem b__law_chain (Z : Zs cks fns K mg) : L2.Binds K (fdAt K (ga K "_law_chain")) ["tape", "most"] [] := (u__law_chain Z).binds (ps := ["tape", "most"]) fun _ _ _ _ _ _ us hl => match us, hl with | [_, _], _ => rfl
theorem g__law_rows (Z : Zs cks fns K mg) : mg "_law_rows" = some (.ref (ga K "_law_rows")) := Z.glo (Z.c 15)
theorem u__law_rows (Z : Zs cks fns K mg) : Fun K "_law_rows" "_law_rows" s__law_rows (ga K "_law_rows") (fdAt K (ga K "_law_rows")) := Z.f 11
theorem b__law_rows (Z : Zs cks fns K mg) : L2.Binds K (fdAt K (ga K "_law_rows")) ["tape", "many", "most"] [] := (u__law_rows Z).binds (ps := ["tape", "many", "most"]) fun _ _ _ _ _ _ us hl => match us, hl with | [_, _, _], _ => rfl
theorem g__law_line (Z : Zs cks fns K mg) : mg "_law_line" = some (.ref (ga K "_law_line")) := Z.glo (Z.c 16)
theorem u__law_line (Z : Zs cks fns K mg) : Fun K "_law_line" "_law_line" s__law_line (ga K "_law_line") (fdAt K (ga K "_law_line")) := Z.f 12
theorem b__law_line (Z : Zs cks fns K mg) : L2.Binds K (fdAt K (ga K "_law_line")) ["row"] [] := (u__law_line Z).binds (ps := ["row"]) fun _ _ _ _ _ _ us hl => match us, hl with | [_], _ => rfl
theorem g__law_two (Z : Zs cks fns K mg) : mg "_law_two" = some (.ref (ga K "_law_two")) := Z.glo (Z.c 17)
theorem u__law_two (Z : Zs cks fns K mg) : Fun K "_law_two" "_law_two" s__law_two (ga K "_law_two") (fdAt K (ga K "_law_two")) := Z.f 13
theorem b__law_two (Z : Zs cks fns K mg) : L2.Binds K (fdAt K (ga K "_law_two")) ["tape", "most"] [] := (u__law_two Z).binds (ps := ["tape", "most"]) fun _ _ _ _ _ _ us hl => match us, hl with | [_, _], _ => rfl
theorem u_Pair_init (Z : Zs cks fns K mg) : Fun K "__init__" "Pair.__init__" s_Pair_init (ma K (ga K "Pair") "__init__") (fdAt K (ma K (ga K "Pair") "__init__")) := Z.f 14
theorem b_Pair_init (Z : Zs cks fns K mg) : L2.Binds K (fdAt K (ma K (ga K "Pair") "__init__")) ["self", "one", "other"] [] := (u_Pair_init Z).binds (ps := ["self", "one", "other"]) fun _ _ _ _ _ _ us hl => match us, hl with | [_, _, _], _ => rfl
theorem u_Pair_count_from (Z : Zs cks fns K mg) : Fun K "count_from" "Pair.count_from" s_Pair_count_from (ma K (ga K "Pair") "count_from") (fdAt K (ma K (ga K "Pair") "count_from")) := Z.f 15
theorem b_Pair_count_from (Z : Zs cks fns K mg) : L2.Binds K (fdAt K (ma K (ga K "Pair") "count_from")) ["self", "value"] [] := (u_Pair_count_from Z).binds (ps := ["self", "value"]) fun _ _ _ _ _ _ us hl => match us, hl with | [_, _], _ => rfl
theorem u_Pair_least (Z : Zs cks fns K mg) : Fun K "least" "Pair.least" s_Pair_least (ma K (ga K "Pair") "least") (fdAt K (ma K (ga K "Pair") "least")) := Z.f 16
theorem b_Pair_least (Z : Zs cks fns K mg) : L2.Binds K (fdAt K (ma K (ga K "Pair") "least")) ["self"] [] := (u_Pair_least Z).binds (ps := ["self"]) fun _ _ _ _ _ _ us hl => match us, hl with | [_], _ => rfl
theorem g_first_within (Z : Zs cks fns K mg) : mg "first_within" = some (.ref (ga K "first_within")) := Z.glo (Z.c 18)
theorem u_first_within (Z : Zs cks fns K mg) : Fun K "first_within" "first_within" s_first_within (ga K "first_within") (fdAt K (ga K "first_within")) := Z.f 17
theorem b_first_within (Z : Zs cks fns K mg) : L2.Binds K (fdAt K (ga K "first_within")) ["first", "many", "modulus", "time"] [] := (u_first_within Z).binds (ps := ["first", "many", "modulus", "time"]) fun _ _ _ _ _ _ us hl => match us, hl with | [_, _, _, _], _ => rfl
theorem u_Pair_first_from (Z : Zs cks fns K mg) : Fun K "first_from" "Pair.first_from" s_Pair_first_from (ma K (ga K "Pair") "first_from") (fdAt K (ma K (ga K "Pair") "first_from")) := Z.f 18
theorem b_Pair_first_from (Z : Zs cks fns K mg) : L2.Binds K (fdAt K (ma K (ga K "Pair") "first_from")) ["self", "value", "time"] [] := (u_Pair_first_from Z).binds (ps := ["self", "value", "time"]) fun _ _ _ _ _ _ us hl => match us, hl with | [_, _, _], _ => rfl
theorem u_Pair_first_below (Z : Zs cks fns K mg) : Fun K "first_below" "Pair.first_below" s_Pair_first_below (ma K (ga K "Pair") "first_below") (fdAt K (ma K (ga K "Pair") "first_below")) := Z.f 19
theorem b_Pair_first_below (Z : Zs cks fns K mg) : L2.Binds K (fdAt K (ma K (ga K "Pair") "first_below")) ["self", "value", "time"] [] := (u_Pair_first_below Z).binds (ps := ["self", "value", "time"]) fun _ _ _ _ _ _ us hl => match us, hl with | [_, _, _], _ => rfl
theorem g_differences (Z : Zs cks fns K mg) : mg "differences" = some (.ref (ga K "differences")) := Z.glo (Z.c 19)
theorem u_differences (Z : Zs cks fns K mg) : Fun K "differences" "differences" s_differences (ga K "differences") (fdAt K (ga K "differences")) := Z.f 20
theorem b_differences (Z : Zs cks fns K mg) : L2.Binds K (fdAt K (ga K "differences")) ["one", "other"] [] := (u_differences Z).binds (ps := ["one", "other"]) fun _ _ _ _ _ _ us hl => match us, hl with | [_, _], _ => rfl
theorem g_worst_start (Z : Zs cks fns K mg) : mg "worst_start" = some (.ref (ga K "worst_start")) := Z.glo (Z.c 20)
theorem u_worst_start (Z : Zs cks fns K mg) : Fun K "worst_start" "worst_start" s_worst_start (ga K "worst_start") (fdAt K (ga K "worst_start")) := Z.f 21
theorem b_worst_start (Z : Zs cks fns K mg) : L2.Binds K (fdAt K (ga K "worst_start")) ["one", "other"] [] := (u_worst_start Z).binds (ps := ["one", "other"]) fun _ _ _ _ _ _ us hl => match us, hl with | [_, _], _ => rfl
theorem g_count_starts (Z : Zs cks fns K mg) : mg "count_starts" = some (.ref (ga K "count_starts")) := Z.glo (Z.c 21)
theorem u_count_starts (Z : Zs cks fns K mg) : Fun K "count_starts" "count_starts" s_count_starts (ga K "count_starts") (fdAt K (ga K "count_starts")) := Z.f 22
theorem b_count_starts (Z : Zs cks fns K mg) : L2.Binds K (fdAt K (ga K "count_starts")) ["one", "other"] [] := (u_count_starts Z).binds (ps := ["one", "other"]) fun _ _ _ _ _ _ us hl => match us, hl with | [_, _], _ => rfl
theorem g_first_earlier (Z : Zs cks fns K mg) : mg "first_earlier" = some (.ref (ga K "first_earlier")) := Z.glo (Z.c 22)
theorem u_first_earlier (Z : Zs cks fns K mg) : Fun K "first_earlier" "first_earlier" s_first_earlier (ga K "first_earlier") (fdAt K (ga K "first_earlier")) := Z.f 23
theorem b_first_earlier (Z : Zs cks fns K mg) : L2.Binds K (fdAt K (ga K "first_earlier")) ["one", "other", "time"] [] := (u_first_earlier Z).binds (ps := ["one", "other", "time"]) fun _ _ _ _ _ _ us hl => match us, hl with | [_, _, _], _ => rfl
theorem g__law_lead (Z : Zs cks fns K mg) : mg "_law_lead" = some (.ref (ga K "_law_lead")) := Z.glo (Z.c 23)
theorem u__law_lead (Z : Zs cks fns K mg) : Fun K "_law_lead" "_law_lead" s__law_lead (ga K "_law_lead") (fdAt K (ga K "_law_lead")) := Z.f 24
theorem b__law_lead (Z : Zs cks fns K mg) : L2.Binds K (fdAt K (ga K "_law_lead")) ["first", "second", "start"] [] := (u__law_lead Z).binds (ps := ["first", "second", "start"]) fun _ _ _ _ _ _ us hl => match us, hl with | [_, _, _], _ => rfl
theorem g__law_many_from (Z : Zs cks fns K mg) : mg "_law_many_from" = some (.ref (ga K "_law_many_from")) := Z.glo (Z.c 24)
theorem u__law_many_from (Z : Zs cks fns K mg) : Fun K "_law_many_from" "_law_many_from" s__law_many_from (ga K "_law_many_from") (fdAt K (ga K "_law_many_from")) := Z.f 25
theorem b__law_many_from (Z : Zs cks fns K mg) : L2.Binds K (fdAt K (ga K "_law_many_from")) ["first", "second", "value"] [] := (u__law_many_from Z).binds (ps := ["first", "second", "value"]) fun _ _ _ _ _ _ us hl => match us, hl with | [_, _, _], _ => rfl
theorem g__law_early (Z : Zs cks fns K mg) : mg "_law_early" = some (.ref (ga K "_law_early")) := Z.glo (Z.c 25)
theorem u__law_early (Z : Zs cks fns K mg) : Fun K "_law_early" "_law_early" s__law_early (ga K "_law_early") (fdAt K (ga K "_law_early")) := Z.f 26
theorem b__law_early (Z : Zs cks fns K mg) : L2.Binds K (fdAt K (ga K "_law_early")) ["case", "begin"] [] := (u__law_early Z).binds (ps := ["case", "begin"]) fun _ _ _ _ _ _ us hl => match us, hl with | [_, _], _ => rfl
theorem g__law_right (Z : Zs cks fns K mg) : mg "_law_right" = some (.ref (ga K "_law_right")) := Z.glo (Z.c 26)
theorem u__law_right (Z : Zs cks fns K mg) : Fun K "_law_right" "_law_right" s__law_right (ga K "_law_right") (fdAt K (ga K "_law_right")) := Z.f 27
theorem b__law_right (Z : Zs cks fns K mg) : L2.Binds K (fdAt K (ga K "_law_right")) ["tape", "first", "second"] [] := (u__law_right Z).binds (ps := ["tape", "first", "second"]) fun _ _ _ _ _ _ us hl => match us, hl with | [_, _, _], _ => rfl
theorem g_law (Z : Zs cks fns K mg) : mg "law" = some (.ref (ga K "law")) := Z.glo (Z.c 27)
theorem u_law (Z : Zs cks fns K mg) : Fun K "law" "law" s_law (ga K "law") (fdAt K (ga K "law")) := Z.f 28
theorem b_law (Z : Zs cks fns K mg) : L2.Binds K (fdAt K (ga K "law")) ["script"] [] := (u_law Z).binds (ps := ["script"]) fun _ _ _ _ _ _ us hl => match us, hl with | [_], _ => rfl
theorem lnF (Z : Zs cks fns K mg) : LnF K := ⟨fun k => match k with | .line => cls_of (Z.c 29) | .walk => cls_of (Z.c 32) | .stop => cls_of (Z.c 35), fun k => match k with | .line => noat_of (Z.c 37) | .walk => noat_of (Z.c 38) | .stop => noat_of (Z.c 39), fun k => match k with | .line => noat_of (Z.c 40) | .walk => noat_of (Z.c 41) | .stop => noat_of (Z.c 42), fun k => match k with | .line => noat_of (Z.c 43) | .walk => noat_of (Z.c 44) | .stop => noat_of (Z.c 45)⟩
theorem g_Line (Z : Zs cks fns K mg) : mg "Line" = some (.ref (ga K "Line")) := Z.glo (Z.c 28)
theorem M_Line (Z : Zs cks fns K mg) : Mk K (ga K "Line") (ma K (ga K "Line") "__init__") := mkr_of (Z.c 30)
theorem g_Walk (Z : Zs cks fns K mg) : mg "Walk" = some (.ref (ga K "Walk")) := Z.glo (Z.c 31)
theorem M_Walk (Z : Zs cks fns K mg) : Mk K (ga K "Walk") (ma K (ga K "Walk") "__init__") := mkr_of (Z.c 33)
theorem g_Stop (Z : Zs cks fns K mg) : mg "Stop" = some (.ref (ga K "Stop")) := Z.glo (Z.c 34)
theorem M_Stop (Z : Zs cks fns K mg) : Mk K (ga K "Stop") (ma K (ga K "Stop") "__init__") := mkr_of (Z.c 36)
theorem hp_at (Z : Zs cks fns K mg) : ∀ k, ∃ p, PropOf K (cA K k) "at" p (prA K (ga K "Line") "at") := fun k => match k with | .line => ⟨_, prop_of (Z.c 46)⟩ | .walk => ⟨_, by have h := prop_of (Z.c 47); rw [show prA K (ga K "Walk") "at" = prA K (ga K "Line") "at" from of_decide_eq_true (Z.c 48)] at h; exact h⟩ | .stop => ⟨_, by have h := prop_of (Z.c 49); rw [show prA K (ga K "Stop") "at" = prA K (ga K "Line") "at" from of_decide_eq_true (Z.c 50)] at h; exact h⟩
theorem hp_every (Z : Zs cks fns K mg) : ∀ k, ∃ p, PropOf K (cA K k) "every" p (prA K (ga K "Line") "every") := fun k => match k with | .line => ⟨_, prop_of (Z.c 51)⟩ | .walk => ⟨_, by have h := prop_of (Z.c 52); rw [show prA K (ga K "Walk") "every" = prA K (ga K "Line") "every" from of_decide_eq_true (Z.c 53)] at h; exact h⟩ | .stop => ⟨_, by have h := prop_of (Z.c 54); rw [show prA K (ga K "Stop") "every" = prA K (ga K "Line") "every" from of_decide_eq_true (Z.c 55)] at h; exact h⟩
theorem hp_ride (Z : Zs cks fns K mg) : ∀ k, ∃ p, PropOf K (cA K k) "ride" p (prA K (ga K "Line") "ride") := fun k => match k with | .line => ⟨_, prop_of (Z.c 56)⟩ | .walk => ⟨_, by have h := prop_of (Z.c 57); rw [show prA K (ga K "Walk") "ride" = prA K (ga K "Line") "ride" from of_decide_eq_true (Z.c 58)] at h; exact h⟩ | .stop => ⟨_, by have h := prop_of (Z.c 59); rw [show prA K (ga K "Stop") "ride" = prA K (ga K "Line") "ride" from of_decide_eq_true (Z.c 60)] at h; exact h⟩
theorem sup_Walk (Z : Zs cks fns K mg) : supB K (ma K (ga K "Walk") "__init__") (ga K "Walk") (ma K (ga K "Line") "__init__") "/claim/cut.py" = true := Z.c 61
theorem sup_Stop (Z : Zs cks fns K mg) : supB K (ma K (ga K "Stop") "__init__") (ga K "Stop") (ma K (ga K "Line") "__init__") "/claim/cut.py" = true := Z.c 62
theorem g_Pair (Z : Zs cks fns K mg) : mg "Pair" = some (.ref (ga K "Pair")) := Z.glo (Z.c 63)
theorem c_Pair (Z : Zs cks fns K mg) : Cls K (ga K "Pair") := cls_of (Z.c 64)
theorem M_Pair (Z : Zs cks fns K mg) : Mk K (ga K "Pair") (ma K (ga K "Pair") "__init__") := mkr_of (Z.c 65)
theorem na_Pair_is_finer (Z : Zs cks fns K mg) : NoAttr K (ga K "Pair") "is_finer" := noat_of (Z.c 66)
theorem na_Pair_lesser (Z : Zs cks fns K mg) : NoAttr K (ga K "Pair") "lesser" := noat_of (Z.c 67)
theorem na_Pair_greater (Z : Zs cks fns K mg) : NoAttr K (ga K "Pair") "greater" := noat_of (Z.c 68)
theorem na_Pair_anchor (Z : Zs cks fns K mg) : NoAttr K (ga K "Pair") "anchor" := noat_of (Z.c 69)
theorem na_Pair_shift (Z : Zs cks fns K mg) : NoAttr K (ga K "Pair") "shift" := noat_of (Z.c 70)
theorem na_Pair_most (Z : Zs cks fns K mg) : NoAttr K (ga K "Pair") "most" := noat_of (Z.c 71)
theorem hm_Pair_count_from (Z : Zs cks fns K mg) : Meth K (ga K "Pair") "count_from" (ma K (ga K "Pair") "count_from") := meth_of (Z.c 72)
theorem hm_Pair_first_below (Z : Zs cks fns K mg) : Meth K (ga K "Pair") "first_below" (ma K (ga K "Pair") "first_below") := meth_of (Z.c 73)
theorem hm_Pair_first_from (Z : Zs cks fns K mg) : Meth K (ga K "Pair") "first_from" (ma K (ga K "Pair") "first_from") := meth_of (Z.c 74)
theorem hm_Pair_least (Z : Zs cks fns K mg) : Meth K (ga K "Pair") "least" (ma K (ga K "Pair") "least") := meth_of (Z.c 75)
end
abbrev R : PySem.W.OpenRow := PySem.W.OpenLaw.row PySem.Challenge.rw_onwardlines_k33_great_lines_compared
abbrev hk : PySem.W.Hook := hookM 6 cks fns
def ob (s : PySem.W.SharedT) : AlM := obsMG 6 cks fns (HandSHeadRun.getT s)
theorem ob_eq (s : PySem.W.SharedT) : ob s = hk.obs s.abs := obsMG_eq (HandSHeadRun.getT_eq s)
def loose : List PySem.Str := (["_wall", "HeadwayError", "InvalidLine", "InvalidNumber", "NotFitting", "Pair", "first_within", "differences", "worst_start", "count_starts", "first_earlier", "MOST_ROUNDS", "is_integer", "are_numbers", "fit", "taken_after", "Line", "Walk", "Stop", "_law_tape", "_law_next", "_law_chain", "_law_rows", "_law_line", "_law_two", "_law_lead", "_law_many_from", "_law_early", "_law_right"] : List PySem.Str)
set_option maxHeartbeats 0 in
theorem run (w : World) : HandSHeadRun.RunEq R (PySem.W.view R.prog [33]) hk ob 20000 loose w := by
  intro os
  kernel_rfl
section
variable {w : World} {K : Frag} {mg : Str → Option Value} {base : Heap}
def sp_is_integer (K : Frag) : Sp := fun vs H Q E => ∃ (x : V) (t : Value) (b1 : Bool) (b2 : Bool), vs = [x] ∧ TyX K H x t ∧ PySem.W.kitOne K t (.type "int") = some b1 ∧ PySem.W.kitOne K t (.type "bool") = some b2 ∧ Q (.bl (b1 && !b2)) H
theorem ok_is_integer (Z : Zs cks fns K mg) : FnOk PP w K mg base (L2.CX PP w) 1 (ga K "is_integer") (fdAt K (ga K "is_integer")) ["thing"] (sp_is_integer K) := by
  refine L2.Fun.okX (u_is_integer Z) sc_is_integer (fun vs H Q E h => ?_) (fun cdv A outer s H vs Q E hr h => ?_)
  · obtain ⟨_, _, _, _, rfl, _⟩ := h
    rfl
  · obtain ⟨x, t, b1, b2, rfl, ⟨ht, h1, h2, hq⟩⟩ := h
    refine ⟨_, (pss_one (ps_ret (pe_and (pe_callB call_isi rfl (n_isinstance Z) (by decide +kernel) (pa_cons (pv 0) (pa_cons (pe_bltn (v := .ty "int") (u := .type "int") rfl (n_int Z) (by decide +kernel) rfl) pa_nil))) (pe_one (pe_not (pe_callB call_isi rfl (n_isinstance Z) (by decide +kernel) (pa_cons (pv 0) (pa_cons (pe_bltn (v := .ty "bool") (u := .type "bool") rfl (n_bool Z) (by decide +kernel) rfl) pa_nil)))))))), ?_⟩
    refine ⟨x, rfl, x, .ty "int", t, .type "int", b1, rfl, .ty _, ht, h1, b1, rfl, ?_⟩
    cases b1 with
    | true => exact iteT ⟨_, rfl, _, _, _, _, b2, rfl, .ty _, ht, h2, _, rfl, hq⟩
    | false => exact iteF hq
def sp_are_numbers (K : Frag) : Sp := fun vs H Q E => ∃ (n : N3), vs = [.int n.e, .int n.a, .int n.r] ∧ n.ok ∧ Q (.bl true) H
theorem ok_are_numbers (Z : Zs cks fns K mg) : FnOk PP w K mg base (L2.CX PP w) 2 (ga K "are_numbers") (fdAt K (ga K "are_numbers")) ["every", "at", "ride"] (sp_are_numbers K) := by
  refine L2.Fun.okX (u_are_numbers Z) sc_are_numbers (fun vs H Q E h => ?_) (fun cdv A outer s H vs Q E hr h => ?_)
  · obtain ⟨_, rfl, _⟩ := h
    rfl
  · obtain ⟨n, rfl, ⟨⟨h1, h2, h3, h4⟩, hq⟩⟩ := h
    refine ⟨_, (pss_cons (ps_if (PW.pt (pw_or (pt_not (pt_val (pe_call (ok_is_integer Z) (hr.mono (by decide)) rfl (g_is_integer Z) (u_is_integer Z).kp (b_is_integer Z) .nil passL (pa_cons (pv 0) pa_nil)))) (pw_or (pt_not (pt_val (pe_call (ok_is_integer Z) (hr.mono (by decide)) rfl (g_is_integer Z) (u_is_integer Z).kp (b_is_integer Z) .nil passL (pa_cons (pv 1) pa_nil)))) (pw_or1 (pt_not (pt_val (pe_call (ok_is_integer Z) (hr.mono (by decide)) rfl (g_is_integer Z) (u_is_integer Z).kp (b_is_integer Z) .nil passL (pa_cons (pv 2) pa_nil))))))))
        (pss_one (ps_ret pe_bl))
        pss_nil)
      (pss_one (ps_ret (pe_and (pe_cmpR op_ge (pv 0) pe_int (nomark _)) (pe_and (pe_chain op_le op_lt pe_int (pv 1) (pv 0)) (pe_one (pe_cmpR op_ge (pv 2) pe_int (nomark _)))))))), ?_⟩
    refine ⟨_, rfl, ⟨_, _, true, false, rfl, .base (.int _), kit_ty (by decide +kernel), kit_ty (by decide +kernel), _, rfl, iteF ?_⟩⟩
    refine ⟨_, rfl, ⟨_, _, true, false, rfl, .base (.int _), kit_ty (by decide +kernel), kit_ty (by decide +kernel), _, rfl, iteF ?_⟩⟩
    refine ⟨_, rfl, ⟨_, _, true, false, rfl, .base (.int _), kit_ty (by decide +kernel), kit_ty (by decide +kernel), _, rfl, iteF ?_⟩⟩
    refine ⟨_, rfl, _, _, rfl, rfl, _, rfl, ifT h1 ?_⟩
    refine ⟨_, rfl, _, _, rfl, rfl, _, rfl, ifT h2 ⟨_, rfl, _, _, rfl, rfl, _, rfl, ifT h3 ?_⟩⟩
    exact ⟨_, rfl, _, _, rfl, rfl, qT h4 hq⟩
theorem lf_len1 {v : V} : (putF "held_every" v []).length < 1000 := by
  have h := length_putF "held_every" v []
  have e : ([] : List (Str × V)).length = 0 := rfl
  omega
theorem lf_len2 {v u : V} : (putF "held_at" u (putF "held_every" v [])).length < 1000 := by
  have h := length_putF "held_every" v []
  have g := length_putF "held_at" u (putF "held_every" v [])
  have e : ([] : List (Str × V)).length = 0 := rfl
  omega
def sp_Line_init (K : Frag) : Sp := fun vs H Q E => ∃ (k : LK) (p : Addr) (dx : Addr) (n : N3), vs = [.ref p, .int n.e, .int n.a, .int n.r] ∧ n.ok ∧ H p = some (.ins (cA K k) dx []) ∧ Q .non (upd H p (.ins (cA K k) dx (lf n)))
theorem ok_Line_init (Z : Zs cks fns K mg) : FnOk PP w K mg base (L2.CX PP w) 3 (ma K (ga K "Line") "__init__") (fdAt K (ma K (ga K "Line") "__init__")) ["self", "every", "at", "ride"] (sp_Line_init K) := by
  refine L2.Fun.okX (u_Line_init Z) sc_Line_init (fun vs H Q E h => ?_) (fun cdv A outer s H vs Q E hr h => ?_)
  · obtain ⟨_, _, _, _, rfl, _⟩ := h
    rfl
  · obtain ⟨k, p, dx, n, rfl, ⟨hok, hp, hq⟩⟩ := h
    refine ⟨_, (pss_cons (ps_if (pt_not (pt_val (pe_call (ok_are_numbers Z) (hr.mono (by decide)) rfl (g_are_numbers Z) (u_are_numbers Z).kp (b_are_numbers Z) .nil passL (pa_cons (pv 1) (pa_cons (pv 2) (pa_cons (pv 3) pa_nil))))))
        (pss_one ps_never)
        pss_nil)
      (pss_cons (ps_fld (pv 0) (pv 1) rfl)
      (pss_cons (ps_fld (pv 0) (pv 2) rfl)
      (pss_one (ps_fld (pv 0) (pv 3) rfl))))), ?_⟩
    refine ⟨_, rfl, _, rfl, _, rfl, ⟨n, rfl, hok, _, rfl, iteF ?_⟩⟩
    refine ⟨_, rfl, _, rfl, p, _, dx, [], rfl, hp, (lnF Z).cls k, (lnF Z).nE k, (by decide), ?_⟩
    refine ⟨_, rfl, _, rfl, p, _, dx, _, rfl, upd_same, (lnF Z).cls k, (lnF Z).nA k, lf_len1, ?_⟩
    refine ⟨_, rfl, _, rfl, p, _, dx, _, rfl, upd_same, (lnF Z).cls k, (lnF Z).nR k, lf_len2, ?_⟩
    rw [upd_upd, upd_upd]
    exact hq
def sp_Walk_init (K : Frag) : Sp := fun vs H Q E => ∃ (p : Addr) (dx : Addr) (r : Int), vs = [.ref p, .int r] ∧ 0 ≤ r ∧ H p = some (.ins (cA K .walk) dx []) ∧ Q .non (upd H p (.ins (cA K .walk) dx (lf ⟨1, 0, r⟩)))
theorem ok_Walk_init (Z : Zs cks fns K mg) : FnOk PP w K mg base (L2.CX PP w) 4 (ma K (ga K "Walk") "__init__") (fdAt K (ma K (ga K "Walk") "__init__")) ["self", "ride"] (sp_Walk_init K) :=
  fn_super (z := "/claim/cut.py") (D := ga K "Walk") (u_Walk_init Z) sc_Walk_init (sup_Walk Z) (by decide +kernel) (by decide +kernel) rfl rfl rfl (ok_Line_init Z) (b_Line_init Z)
    (fun vs H Q E h => by obtain ⟨p, dx, r, rfl, _⟩ := h; rfl) (fun cdv cc A outer s H E => pa_cons pe_int (pa_cons pe_int (pa_cons (pv 1) pa_nil))) (fun _ => rfl) (fun _ => rfl) (fun _ => rfl)
    (fun vs H Q E h => by
      obtain ⟨p, dx, r, rfl, h0, hp, hq⟩ := h
      exact ⟨p, dx, [], rfl, hp, _, rfl, ⟨.walk, p, dx, ⟨1, 0, r⟩, rfl, ⟨Int.le_refl 1, Int.le_refl 0, (by show (0 : Int) < 1; decide), h0⟩, hp, hq⟩⟩)
def sp_Stop_init (K : Frag) : Sp := fun vs H Q E => ∃ (p : Addr) (dx : Addr) (e : Int) (l : Int), vs = [.ref p, .int e, .int l] ∧ 1 ≤ e ∧ 0 ≤ l ∧ l < e ∧ H p = some (.ins (cA K .stop) dx []) ∧ Q .non (upd H p (.ins (cA K .stop) dx (lf ⟨e, l, 0⟩)))
theorem ok_Stop_init (Z : Zs cks fns K mg) : FnOk PP w K mg base (L2.CX PP w) 4 (ma K (ga K "Stop") "__init__") (fdAt K (ma K (ga K "Stop") "__init__")) ["self", "every", "at"] (sp_Stop_init K) :=
  fn_super (z := "/claim/cut.py") (D := ga K "Stop") (u_Stop_init Z) sc_Stop_init (sup_Stop Z) (by decide +kernel) (by decide +kernel) rfl rfl rfl (ok_Line_init Z) (b_Line_init Z)
    (fun vs H Q E h => by obtain ⟨p, dx, e, l, rfl, _⟩ := h; rfl) (fun cdv cc A outer s H E => pa_cons (pv 1) (pa_cons (pv 2) (pa_cons pe_int pa_nil))) (fun _ => rfl) (fun _ => rfl) (fun _ => rfl)
    (fun vs H Q E h => by
      obtain ⟨p, dx, e, l, rfl, h1, h2, h3, hp, hq⟩ := h
      exact ⟨p, dx, [], rfl, hp, _, rfl, _, rfl, ⟨.stop, p, dx, ⟨e, l, 0⟩, rfl, ⟨h1, h2, h3, Int.le_refl 0⟩, hp, hq⟩⟩)
abbrev sp_Line_every : Frag → Sp := fun K => getSp (ga K "Line") "held_every"
theorem ok_Line_every (Z : Zs cks fns K mg) : ∀ k, FnOk PP w K mg base (L2.CX PP w) 1 (prA K (ga K "Line") "every") (fdAt K (prA K (ga K "Line") "every")) ["self"] (getSp (cA K k) "held_every") := fun k => ok_getter (u_Line_every Z) sc_Line_every rfl rfl ((lnF Z).cls k) ((lnF Z).nE k)
abbrev sp_Line_at : Frag → Sp := fun K => getSp (ga K "Line") "held_at"
theorem ok_Line_at (Z : Zs cks fns K mg) : ∀ k, FnOk PP w K mg base (L2.CX PP w) 1 (prA K (ga K "Line") "at") (fdAt K (prA K (ga K "Line") "at")) ["self"] (getSp (cA K k) "held_at") := fun k => ok_getter (u_Line_at Z) sc_Line_at rfl rfl ((lnF Z).cls k) ((lnF Z).nA k)
abbrev sp_Line_ride : Frag → Sp := fun K => getSp (ga K "Line") "held_ride"
theorem ok_Line_ride (Z : Zs cks fns K mg) : ∀ k, FnOk PP w K mg base (L2.CX PP w) 1 (prA K (ga K "Line") "ride") (fdAt K (prA K (ga K "Line") "ride")) ["self"] (getSp (cA K k) "held_ride") := fun k => ok_getter (u_Line_ride Z) sc_Line_ride rfl rfl ((lnF Z).cls k) ((lnF Z).nR k)
end
section
variable {w : World} {K : Frag} {mg : Str → Option Value} {base : Heap}
def sp__law_tape (K : Frag) : Sp := fun vs H Q E => ∃ (a : Addr) (ns : List Int) (k : Int), vs = [.ref a, .int k] ∧ SqL K H a (ns.map V.int) ∧ 0 ≤ k ∧ k ≤ 63 ∧ ∀ (p : Addr) (H' : Hp), Same H H' → H p = none → Tp p (2 ^ 39) H' → Q (.ref p) H'
theorem ok__law_tape (Z : Zs cks fns K mg) : FnOk PP w K mg base (L2.CX PP w) 1 (ga K "_law_tape") (fdAt K (ga K "_law_tape")) ["script", "k"] (sp__law_tape K) := by
  refine L2.Fun.okX (u__law_tape Z) sc__law_tape (fun vs H Q E h => ?_) (fun cdv A outer s H vs Q E hr h => ?_)
  · obtain ⟨_, _, _, rfl, _⟩ := h
    rfl
  · obtain ⟨a, ns, k, rfl, ⟨hS, hk, hk2, hq⟩⟩ := h
    refine ⟨_, (pss_cons (ps_set (i := 2) sc__law_tape.nd rfl (Or.inl rfl) (pe_ifExp (pt_cmpR op_lt (pv 1) (pe_callB call_len_seq rfl (n_len Z) (by decide +kernel) (pa_cons (pv 0) pa_nil)) (nomark _)) (pe_callB call_abs rfl (n_abs Z) (by decide +kernel) (pa_cons (pe_ix ix_list (pv 0) (pv 1) (fun _ _ => rfl)) pa_nil)) pe_int))
      (pss_one (ps_ret (pe_lst (pa_cons (pe_callB (call_max2 rfl) rfl (n_max Z) (by decide +kernel) (pa_cons pe_int (pa_cons (pe_op op_sub (pv 2) (pe_op op_pow pe_int pe_int)) pa_nil))) (pa_cons (pe_op op_add (pe_op op_mul (pe_op op_mod (pv 2) (pe_op op_add (pe_op op_pow pe_int pe_int) pe_int)) pe_int) (pv 1)) (pa_cons pe_int pa_nil))))))), ?_⟩
    apply share2 (fun (c : Int) (H1 : Hp) => 0 ≤ c ∧ H1 = H)
    · intro rest
      refine ⟨_, rfl, _, rfl, a, _, rfl, .inl hS, _, _, rfl, rfl, _, rfl, ifD (fun c => ?_) (fun c => ?_)⟩
      · rw [List.length_map] at c
        obtain ⟨z, hz, _⟩ := at_ints ns hk c
        refine ⟨_, rfl, _, rfl, a, _, k, _, rfl, rfl, hS, hz, _, rfl, ?_⟩
        obtain ⟨w, hw⟩ : ∃ w, w = if z < 0 then -z else z := ⟨_, rfl⟩
        rw [← hw]
        exact rest w H ⟨by rw [hw]; split <;> omega, rfl⟩
      · exact rest 0 H ⟨Int.le_refl 0, rfl⟩
    rintro c H1 ⟨c0, rfl⟩
    refine ⟨_, rfl, _, _, rfl, rfl, ⟨by decide, by decide, by decide⟩, _, _, rfl, rfl, _, _, rfl, ?_⟩
    have p38 : (0 : Int) < 10 ^ (38 : Int).toNat + 133 := by decide +kernel
    refine ⟨_, rfl, _, _, rfl, rfl, ⟨by decide, by decide, by decide⟩, _, _, rfl, rfl, _, _, rfl, rfl, p38, _, _, rfl, rfl, Or.inr ⟨by decide, by decide⟩, _, rfl, _, _, rfl, rfl, (by show 3 ≤ sizeLine; decide), fun p hp => ?_⟩
    have m0 := Int.emod_nonneg c (show (10 : Int) ^ (38 : Int).toNat + 133 ≠ 0 by omega)
    have m1 := Int.emod_lt_of_pos c p38
    have b : ((10 : Int) ^ (38 : Int).toNat + 133) * 89 + 63 < 2 ^ 140 := by decide +kernel
    refine hq p _ (Same.new hp) hp ⟨_, _, _, upd_same, ?_, by omega, by omega, by decide, by decide⟩
    split <;> omega
abbrev sp__law_next : Frag → Sp := spNext
theorem ok__law_next (Z : Zs cks fns K mg) : FnOk PP w K mg base (L2.CX PP w) 1 (ga K "_law_next") (fdAt K (ga K "_law_next")) ["tape", "many"] (sp__law_next K) := by
  refine L2.Fun.okX (u__law_next Z) sc__law_next (fun vs H Q E h => ?_) (fun cdv A outer s H vs Q E hr h => ?_)
  · obtain ⟨_, _, _, rfl, _⟩ := h
    rfl
  · obtain ⟨a, N, m, rfl, ⟨hT, hm, hs, hq⟩⟩ := h
    refine ⟨_, (pss_cons (ps_if (pt_cmpR op_gt (pe_ix ix_list (pv 0) pe_int (fun _ _ => rfl)) pe_int (nomark _))
        (pss_cons (ps_set (i := 2) sc__law_next.nd rfl (Or.inl rfl) (pe_op op_mod (pe_ix ix_list (pv 0) pe_int (fun _ _ => rfl)) (pv 1)))
      (pss_cons (ps_asg (pe_op op_fdivW (pe_ix ix_list (pv 0) pe_int (fun _ _ => rfl)) (pv 1)) (pg_sub (pv 0) pe_int set_list))
      (pss_one (ps_ret (pv 2)))))
        pss_nil)
      (pss_cons (ps_asg (pe_op op_add (pe_ix ix_list (pv 0) pe_int (fun _ _ => rfl)) pe_int) (pg_sub (pv 0) pe_int set_list))
      (pss_cons (ps_set (i := 3) sc__law_next.nd rfl (Or.inl rfl) (pe_op op_mod (pe_op op_powW (pe_op op_add (pe_ix ix_list (pv 0) pe_int (fun _ _ => rfl)) (pe_op op_mul pe_int (pe_ix ix_list (pv 0) pe_int (fun _ _ => rfl)))) pe_int) (pe_op op_add (pe_op op_pow pe_int pe_int) pe_int)))
      (pss_cons (ps_set (i := 3) sc__law_next.nd rfl (Or.inl rfl) (pe_op op_mod (pe_op op_powW (pe_op op_add (pv 3) (pe_op op_mul pe_int (pe_ix ix_list (pv 0) pe_int (fun _ _ => rfl)))) pe_int) (pe_op op_add (pe_op op_pow pe_int pe_int) pe_int)))
      (pss_one (ps_ret (pe_op op_mod (pe_op op_fdivW (pv 3) pe_int) (pv 1)))))))), ?_⟩
    obtain ⟨d, m0, n, h1, h2, h3, h4, h5, h6⟩ := hT
    refine ⟨_, rfl, a, _, 0, _, rfl, rfl, SqL.of h1, at0, _, _, rfl, rfl, _, rfl, ifD (fun c => ?_) (fun c => ?_)⟩
    · refine ⟨_, rfl, a, _, 0, _, rfl, rfl, SqL.of h1, at0, _, rfl, _, _, rfl, rfl, (by show 0 < m; omega), ?_⟩
      refine ⟨_, rfl, a, _, 0, _, rfl, rfl, SqL.of h1, at0, _, rfl, _, _, rfl, rfl, hs.div (by omega) (by decide) (by decide), ?_⟩
      refine ⟨_, rfl, a, _, 0, 0, rfl, rfl, h1, rfl, ?_⟩
      refine ⟨_, rfl, hq _ _ (Int.emod_nonneg _ (by omega)) (Int.emod_lt_of_pos _ (by omega)) (fun b o nb e => by rw [upd_ne nb]; exact e) ⟨_, m0, n, upd_same, ?_, h3, h4, h5, by omega⟩⟩
      exact Int.ediv_nonneg h2 (by omega)
    have d0 : d = 0 := by omega
    subst d0
    have sn1 : Sz 41 (n + 1) := Sz.n40 (by omega) (by omega)
    have sm : Sz 140 m0 := Sz.of (by omega) h4
    refine ⟨_, rfl, a, _, 2, _, rfl, rfl, SqL.of h1, rfl, _, _, rfl, rfl, _, rfl, a, _, 2, 2, rfl, rfl, h1, rfl, ?_⟩
    have e2 : (upd H a (.lst [.int 0, .int m0, .int (n + 1)])) a = some (.lst [.int 0, .int m0, .int (n + 1)]) := upd_same
    have x2 : Ext (fdM a) H (upd H a (.lst [.int 0, .int m0, .int (n + 1)])) := fun b o nb e => by rw [upd_ne nb]; exact e
    have p57 : (0 : Int) < 10 ^ (64 : Int).toNat + 57 := by decide +kernel
    have p9 : (0 : Int) < 10 ^ (64 : Int).toNat + 9 := by decide +kernel
    have w1 : CPowW (m0 + 2147483659 * (n + 1)) 3 := ⟨by decide, by decide, Sz.mono (a := 141) (Sz.add sm (Sz.mono (a := 73) (Sz.mul (a := 32) (b := 41) (Sz.of (by decide) (by decide)) sn1) (by decide))) (by decide)⟩
    refine ⟨_, rfl, a, _, 1, _, rfl, rfl, SqL.of e2, rfl, _, rfl, a, _, 2, _, rfl, rfl, SqL.of e2, rfl, _, _, rfl, rfl, Or.inl ⟨by decide, by decide⟩, _, _, rfl, rfl, _, _, rfl, rfl, w1, _, _, rfl, rfl, ⟨by decide, by decide, by decide⟩, _, _, rfl, rfl, _, _, rfl, rfl, p57, ?_⟩
    have a0 := Int.emod_nonneg ((m0 + 2147483659 * (n + 1)) ^ (3 : Int).toNat) (show (10 : Int) ^ (64 : Int).toNat + 57 ≠ 0 by omega)
    have a1 := Int.emod_lt_of_pos ((m0 + 2147483659 * (n + 1)) ^ (3 : Int).toNat) p57
    have smx : Sz 220 ((m0 + 2147483659 * (n + 1)) ^ (3 : Int).toNat % (10 ^ (64 : Int).toNat + 57)) := Sz.le a0 (Int.le_of_lt a1) (Sz.of (by decide +kernel) (by decide +kernel))
    have w2 : CPowW ((m0 + 2147483659 * (n + 1)) ^ (3 : Int).toNat % (10 ^ (64 : Int).toNat + 57) + 1000000087 * (n + 1)) 3 := ⟨by decide, by decide, Sz.mono (a := 221) (Sz.add smx (Sz.mono (a := 71) (Sz.mul (a := 30) (b := 41) (Sz.of (by decide) (by decide)) sn1) (by decide))) (by decide)⟩
    refine ⟨_, rfl, _, rfl, a, _, 2, _, rfl, rfl, SqL.of e2, rfl, _, _, rfl, rfl, Or.inl ⟨by decide, by decide⟩, _, _, rfl, rfl, _, _, rfl, rfl, w2, _, _, rfl, rfl, ⟨by decide, by decide, by decide⟩, _, _, rfl, rfl, _, _, rfl, rfl, p9, ?_⟩
    have s15 : Sz 15 (32749 : Int) := Sz.of (by decide) (by decide)
    refine ⟨_, rfl, _, _, rfl, rfl, s15.div (by decide) (by decide) (by decide), _, rfl, _, _, rfl, rfl, (by show 0 < m; omega), ?_⟩
    exact hq _ _ (Int.emod_nonneg _ (by omega)) (Int.emod_lt_of_pos _ (by omega)) x2 ⟨0, m0, n + 1, e2, Int.le_refl 0, h3, h4, by omega, by omega⟩
end
section
variable {w : World} {K : Frag} {mg : Str → Option Value} {base : Heap}
def sp__law_chain (K : Frag) : Sp := fun vs H Q E => ∃ (a : Addr) (N : Nat) (L : Int), vs = [.ref a, .int L] ∧ Tp a (N + 15) H ∧ 1 ≤ L ∧ L ≤ 10 ^ 60 ∧ ∀ (p : Addr) (cs : List Int) (H' : Hp), ChL L cs → Ext (fdM a) H H' → H p = none → H' p = some (.lst (cs.map V.int)) → Tp a N H' → Q (.ref p) H'
theorem ok__law_chain (Z : Zs cks fns K mg) : FnOk PP w K mg base (L2.CX PP w) 2 (ga K "_law_chain") (fdAt K (ga K "_law_chain")) ["tape", "most"] (sp__law_chain K) := by
  refine L2.Fun.okX (u__law_chain Z) sc__law_chain (fun vs H Q E h => ?_) (fun cdv A outer s H vs Q E hr h => ?_)
  · obtain ⟨_, _, _, rfl, _⟩ := h
    rfl
  · obtain ⟨a, N, L, rfl, ⟨hT, hL1, hL2, hq⟩⟩ := h
    refine ⟨_, (pss_cons (ps_set (i := 2) sc__law_chain.nd rfl (Or.inl rfl) (pe_lst (pa_cons (pe_ix ix_list (pe_lst (pa_cons pe_int (pa_cons (pe_op op_add pe_int (pe_call (ok__law_next Z) (hr.mono (by decide)) rfl (g__law_next Z) (u__law_next Z).kp (b__law_next Z) .nil passL (pa_cons (pv 0) (pa_cons pe_int pa_nil)))) (pa_cons (pe_op op_add pe_int (pe_call (ok__law_next Z) (hr.mono (by decide)) rfl (g__law_next Z) (u__law_next Z).kp (b__law_next Z) .nil passL (pa_cons (pv 0) (pa_cons (pv 1) pa_nil)))) pa_nil)))) (pe_call (ok__law_next Z) (hr.mono (by decide)) rfl (g__law_next Z) (u__law_next Z).kp (b__law_next Z) .nil passL (pa_cons (pv 0) (pa_cons pe_int pa_nil))) (fun _ _ => rfl)) pa_nil)))
      (pss_cons (ps_asg (pe_callB (call_min2 rfl) rfl (n_min Z) (by decide +kernel) (pa_cons (pe_ix ix_list (pv 2) pe_int (fun _ _ => rfl)) (pa_cons (pv 1) pa_nil))) (pg_sub (pv 2) pe_int set_list))
      (C8.pss_cut (ps_for (passes_of rfl) rfl (pi_range1 rfl (n_range Z) (pa_cons pe_int pa_nil)) (pg_name (i := 3) sc__law_chain.nd rfl (Or.inl rfl))
        (pss_cons (ps_set (i := 4) sc__law_chain.nd rfl (Or.inl rfl) (pe_ix ix_list (pe_lst (pa_cons pe_int (pa_cons pe_int (pa_cons pe_int (pa_cons pe_int (pa_cons pe_int (pa_cons (pe_op op_add pe_int (pe_call (ok__law_next Z) (hr.mono (by decide)) rfl (g__law_next Z) (u__law_next Z).kp (b__law_next Z) .nil passL (pa_cons (pv 0) (pa_cons (pe_callB (call_max2 rfl) rfl (n_max Z) (by decide +kernel) (pa_cons pe_int (pa_cons (pe_op op_fdivW (pv 1) (pe_ix ix_list (pv 2) (pe_un un_neg pe_int) (fun _ _ => rfl))) pa_nil))) pa_nil)))) pa_nil))))))) (pe_call (ok__law_next Z) (hr.mono (by decide)) rfl (g__law_next Z) (u__law_next Z).kp (b__law_next Z) .nil passL (pa_cons (pv 0) (pa_cons pe_int pa_nil))) (fun _ _ => rfl)))
      (pss_one (ps_if (pt_cmpR op_le (pe_op op_mulW (pe_ix ix_list (pv 2) (pe_un un_neg pe_int) (fun _ _ => rfl)) (pv 4)) (pv 1) (nomark _))
        (pss_one (ps_expr (pe_bm PySem.F.plainAttrs_list PySem.F.slot_list_append PySem.F.type_list_append mt_append (pv 2) (pa_cons (pe_op op_mulW (pe_ix ix_list (pv 2) (pe_un un_neg pe_int) (fun _ _ => rfl)) (pv 4)) pa_nil))))
        pss_nil))))
      (pss_one (ps_ret (pv 2)))))), ?_⟩
    have sc : ∀ z : Int, 1 ≤ z → z ≤ 10 ^ 62 → Sz 4000 z := fun z z0 z1 => Sz.mono (a := 210) (Sz.le (by omega) z1 (Sz.of (by decide +kernel) (by decide +kernel))) (by decide)
    refine ⟨_, rfl, ⟨a, N + 14, 6, rfl, hT, by decide, sc _ (by decide) (by decide +kernel), fun v0 H0 g0 l0 x0 t0 => ⟨_, _, rfl, rfl, ?_⟩⟩⟩
    refine ⟨_, rfl, _, rfl, ⟨a, N + 13, L, rfl, t0, hL1, sc _ hL1 (by omega), fun v1 H1 g1 l1 x1 t1 => ⟨_, _, rfl, rfl, (by show 3 ≤ sizeLine; decide), fun p1 hp1 => ?_⟩⟩⟩
    refine ⟨_, rfl, ⟨a, N + 12, 3, rfl, t1.same (Same.new hp1), by decide, sc _ (by decide) (by decide +kernel), fun v2 H2 g2 l2 x2 t2 => ?_⟩⟩
    have e2 : H2 p1 = some (.lst (([1, 1 + v0, 1 + v1] : List Int).map V.int)) := x2 p1 _ (t1.fresh hp1) upd_same
    obtain ⟨f1, ha, hm⟩ := at_ints [1, 1 + v0, 1 + v1] g2 l2
    have hf : 1 ≤ f1 := by
      simp only [List.mem_cons, List.not_mem_nil, or_false] at hm
      rcases hm with e | e | e <;> omega
    refine ⟨p1, _, v2, _, rfl, rfl, SqL.of e2, ha, (by show 1 ≤ sizeLine; decide), fun p hp => ?_⟩
    have y2 : Ext (fdM a) H H2 := x0.trans (x1.trans ((Ext.new hp1).trans x2))
    have hp0 : H p = none := y2.back (t2.fresh hp) hp
    refine ⟨_, rfl, p, _, 0, _, rfl, rfl, SqL.of upd_same, at0, _, rfl, _, _, rfl, ?_⟩
    refine ⟨_, rfl, p, _, 0, 0, rfl, rfl, upd_same, rfl, ?_⟩
    have np : ¬ fdM a p := t2.fresh hp
    have x3 : Ext (fdM a) H (upd (upd H2 p (.lst [.int f1])) p (.lst [.int (if L < f1 then L else f1)])) := fun b o nb e => by
      have q := y2 b o nb e
      rw [upd_ne (ne_of_none q hp), upd_ne (ne_of_none q hp)]
      exact q
    have e3 : (upd (upd H2 p (.lst [.int f1])) p (.lst [.int (if L < f1 then L else f1)])) p = some (.lst ((([] : List Int) ++ [if L < f1 then L else f1]).map V.int)) := upd_same
    have t3 : Tp a (N + 12) (upd (upd H2 p (.lst [.int f1])) p (.lst [.int (if L < f1 then L else f1)])) := by
      obtain ⟨d', m', n', q1, q2⟩ := t2
      have nap : a ≠ p := fun z => np z.symm
      exact ⟨d', m', n', by rw [upd_ne nap, upd_ne nap]; exact q1, q2⟩
    have hf2 : 1 ≤ (if L < f1 then L else f1) ∧ (if L < f1 then L else f1) ≤ L := by split <;> omega
    change (tSeq _ _) _ _ (upd (upd H2 p (.lst [.int f1])) p (.lst [.int (if L < f1 then L else f1)]))
    revert x3 e3 t3 hf2
    generalize (if L < f1 then L else f1) = f2
    generalize upd (upd H2 p (.lst [.int f1])) p (.lst [.int f2]) = H3
    intro x3 e3 t3 hf2
    refine ⟨fun σ H4 => ∃ cs, ChL L cs ∧ Ext (fdM a) H H4 ∧ H4 p = some (.lst (cs.map V.int)) ∧ Tp a N H4 ∧ ∃ z3 z4, σ = [some (.ref a), some (.int L), some (.ref p), z3, z4], ?_, ?_⟩
    · refine ⟨_, rfl, by decide, by decide, ?_⟩
      refine for_range (lo := 0) (n := 6) (fun i σ H4 => ∃ (ds : List Int) (l : Int), (ds ++ [l]).length ≤ i + 1 ∧ ChL L (ds ++ [l]) ∧ (∀ x ∈ ds, x ∣ l) ∧ Ext (fdM a) H H4 ∧ H4 p = some (.lst ((ds ++ [l]).map V.int)) ∧ Tp a (N + (12 - 2 * i)) H4 ∧ ∃ z3 z4, σ = [some (.ref a), some (.int L), some (.ref p), z3, z4])
        ⟨[], f2, Nat.le_refl _, ⟨by simp, (by show 1 ≤ 10; decide), fun c hc => ?_, List.pairwise_singleton _ _⟩, (fun x hx => nomatch hx), x3, e3, t3, none, none, rfl⟩ ?_ ?_
      · rw [List.mem_singleton.mp hc]
        exact hf2
      · rintro i σ H4 hi ⟨ds, l, hlen, hc, hd, x4, e4, t4, z3, z4, rfl⟩
        rw [show N + (12 - 2 * i) = (N + (12 - 2 * (i + 1))) + 1 + 1 by omega] at t4
        generalize hM : N + (12 - 2 * (i + 1)) = M at *
        have hl := hc.pos l (by simp)
        have al : ∀ Hx : Hp, atI ((ds ++ [l]).map V.int) (-1) = some (.int l) := fun _ => by
          rw [List.map_append]
          exact atI_last _ _
        have sl : Sz 220 l := Sz.le (by omega) (show l ≤ 10 ^ 60 by omega) (Sz.of (by decide +kernel) (by decide +kernel))
        have q0 : 0 ≤ L / l := Int.ediv_nonneg (by omega) (by omega)
        have q1 : L / l ≤ L := Int.ediv_le_self _ (by omega)
        have hmx : 1 ≤ (if L / l > 1 then L / l else 1) ∧ (if L / l > 1 then L / l else 1) ≤ L := by split <;> omega
        refine ⟨_, rfl, _, rfl, _, rfl, _, rfl, p, _, -1, _, rfl, rfl, SqL.of e4, al H4, _, _, rfl, rfl, sl.div (by omega) (by decide) (by decide), _, _, rfl, ?_⟩
        revert hmx
        generalize (if L / l > 1 then L / l else 1) = mx
        intro hmx
        refine ⟨a, M + 1, mx, rfl, t4, hmx.1, sc _ hmx.1 (by omega), fun v5 H5 g5 l5 x5 t5 => ⟨_, _, rfl, rfl, (by show 6 ≤ sizeLine; decide), fun p5 hp5 => ?_⟩⟩
        refine ⟨_, rfl, ⟨a, M, 6, rfl, t5.same (Same.new hp5), by decide, sc _ (by decide) (by decide +kernel), fun v6 H6 g6 l6 x6 t6 => ?_⟩⟩
        have e6 : H6 p5 = some (.lst (([1, 2, 3, 4, 5, 1 + v5] : List Int).map V.int)) := x6 p5 _ (t5.fresh hp5) upd_same
        obtain ⟨m, ha2, hm2⟩ := at_ints [1, 2, 3, 4, 5, 1 + v5] g6 l6
        have hb : 1 ≤ m ∧ m ≤ 10 ^ 60 + 5 := by
          simp only [List.mem_cons, List.not_mem_nil, or_false] at hm2
          rcases hm2 with e | e | e | e | e | e <;> omega
        refine ⟨p5, _, v6, _, rfl, rfl, SqL.of e6, ha2, ?_⟩
        have e7 : H6 p = some (.lst ((ds ++ [l]).map V.int)) := x6 _ _ np (by rw [upd_ne (ne_of_none (x5 _ _ np e4) hp5)]; exact x5 _ _ np e4)
        have y6 : Ext (fdM a) H4 H6 := x5.trans ((Ext.new hp5).trans x6)
        have smm : Sz 220 m := Sz.le (by omega) hb.2 (Sz.of (by decide +kernel) (by decide +kernel))
        have pos : 1 ≤ l * m := by
          have q : 1 * 1 ≤ l * m := Int.mul_le_mul hl.1 hb.1 (by decide) (by omega)
          omega
        refine ⟨_, rfl, _, rfl, p, _, -1, _, rfl, rfl, SqL.of e7, al H6, _, rfl, _, _, rfl, rfl, sl.cmul smm (by decide) (by decide) (by decide), _, rfl, _, _, rfl, rfl, _, rfl, ifD (fun c => ?_) (fun c => ?_)⟩
        · refine ⟨_, rfl, Or.inl ⟨rfl, _, SqL.of e7⟩, _, rfl, _, rfl, p, _, -1, _, rfl, rfl, SqL.of e7, al H6, _, rfl, _, _, rfl, rfl, sl.cmul smm (by decide) (by decide) (by decide), ?_⟩
          refine ⟨p, _, _, rfl, rfl, e7, ?_, ?_⟩
          · rw [List.length_map]
            exact Nat.lt_of_le_of_lt (show (ds ++ [l]).length ≤ 10 by omega) (by decide)
          · have q := hc.app hd (by omega) pos c
            refine ⟨ds ++ [l], l * m, by rw [List.length_append]; simp; simp at hlen; omega, q.1, q.2, fun b o nb eb => ?_, ?_, ?_, _, _, rfl⟩
            · have nb2 : b ≠ p := fun z => by
                rw [z, hp0] at eb
                cases eb
              rw [upd_ne nb2]
              exact y6 _ _ nb (x4 b o nb eb)
            · rw [upd_same, (List.map_append : List.map V.int ((ds ++ [l]) ++ [l * m]) = List.map V.int (ds ++ [l]) ++ List.map V.int [l * m])]
              rfl
            · obtain ⟨d', m', n', h1, h2⟩ := t6
              have nap : a ≠ p := fun z => np z.symm
              exact ⟨d', m', n', by rw [upd_ne nap]; exact h1, h2⟩
        · exact ⟨ds, l, by omega, hc, hd, x4.trans y6, e7, t6, _, _, rfl⟩
      · rintro σ H4 ⟨ds, l, _, hc, hd, x4, e4, t4, z3, z4, rfl⟩
        exact ⟨_, hc, x4, e4, t4.less (by omega), _, _, rfl⟩
    rintro σ H4 ⟨cs, hc, x4, e4, t4, z3, z4, rfl⟩
    exact ⟨_, rfl, hq p cs H4 hc x4 hp0 e4 t4⟩
end
section
variable {w : World} {K : Frag} {mg : Str → Option Value} {base : Heap}
def sp__law_rows (K : Frag) : Sp := fun vs H Q E => ∃ (a : Addr) (N : Nat) (mny : Nat) (L : Int), vs = [.ref a, .int (mny : Nat), .int L] ∧ Tp a (N + 15 + 8 * mny) H ∧ mny ≤ 100 ∧ 1 ≤ L ∧ L ≤ 10 ^ 60 ∧ ∀ (p : Addr) (rs : List Addr) (ns : List N3) (cs : List Int) (H' : Hp), ChL L cs → ns.length = mny → (∀ n ∈ ns, n.ok ∧ (n.e ∈ cs ∨ n.e = 1) ∧ n.e ≤ L ∧ n.r ≤ 20 + 3 * L) → Ext (fdM a) H H' → H p = none → RwAt H' p rs ns → Tp a N H' → Q (.ref p) H'
theorem ok__law_rows (Z : Zs cks fns K mg) : FnOk PP w K mg base (L2.CX PP w) 3 (ga K "_law_rows") (fdAt K (ga K "_law_rows")) ["tape", "many", "most"] (sp__law_rows K) := by
  refine L2.Fun.okX (u__law_rows Z) sc__law_rows (fun vs H Q E h => ?_) (fun cdv A outer s H vs Q E hr h => ?_)
  · obtain ⟨_, _, _, _, rfl, _⟩ := h
    rfl
  · obtain ⟨a, N, mny, L, rfl, ⟨hT, hmy, hL1, hL2, hq⟩⟩ := h
    refine ⟨_, (pss_cons (ps_par (i := 3) (j := 4) rfl sc__law_rows.nd rfl rfl (by decide) rfl rfl (pa_cons (pe_call (ok__law_chain Z) (hr.mono (by decide)) rfl (g__law_chain Z) (u__law_chain Z).kp (b__law_chain Z) .nil passL (pa_cons (pv 0) (pa_cons (pv 2) pa_nil))) (pa_cons (pe_lst pa_nil) pa_nil)) rfl)
      (C8.pss_cut (ps_for (passes_of rfl) rfl (pi_range1 rfl (n_range Z) (pa_cons (pv 1) pa_nil)) (pg_name (i := 5) sc__law_rows.nd rfl (Or.inl rfl))
        (pss_cons (ps_set (i := 6) sc__law_rows.nd rfl (Or.inl rfl) (pe_ix ix_list (pe_lst (pa_cons (pe_ix ix_list (pv 3) (pe_call (ok__law_next Z) (hr.mono (by decide)) rfl (g__law_next Z) (u__law_next Z).kp (b__law_next Z) .nil passL (pa_cons (pv 0) (pa_cons (pe_callB call_len_seq rfl (n_len Z) (by decide +kernel) (pa_cons (pv 3) pa_nil)) pa_nil))) (fun _ _ => rfl)) (pa_cons (pe_ix ix_list (pv 3) (pe_un un_neg pe_int) (fun _ _ => rfl)) (pa_cons pe_int pa_nil)))) (pe_callB (call_min2 rfl) rfl (n_min Z) (by decide +kernel) (pa_cons pe_int (pa_cons (pe_op op_fdivW (pe_call (ok__law_next Z) (hr.mono (by decide)) rfl (g__law_next Z) (u__law_next Z).kp (b__law_next Z) .nil passL (pa_cons (pv 0) (pa_cons pe_int pa_nil))) pe_int) pa_nil))) (fun _ _ => rfl)))
      (pss_cons (ps_set (i := 7) sc__law_rows.nd rfl (Or.inl rfl) (pe_ix ix_list (pe_lst (pa_cons pe_int (pa_cons (pe_call (ok__law_next Z) (hr.mono (by decide)) rfl (g__law_next Z) (u__law_next Z).kp (b__law_next Z) .nil passL (pa_cons (pv 0) (pa_cons pe_int pa_nil))) (pa_cons (pe_call (ok__law_next Z) (hr.mono (by decide)) rfl (g__law_next Z) (u__law_next Z).kp (b__law_next Z) .nil passL (pa_cons (pv 0) (pa_cons (pe_op op_mul pe_int (pv 6)) pa_nil))) (pa_cons (pe_op op_mulW (pv 6) (pe_call (ok__law_next Z) (hr.mono (by decide)) rfl (g__law_next Z) (u__law_next Z).kp (b__law_next Z) .nil passL (pa_cons (pv 0) (pa_cons pe_int pa_nil)))) pa_nil))))) (pe_call (ok__law_next Z) (hr.mono (by decide)) rfl (g__law_next Z) (u__law_next Z).kp (b__law_next Z) .nil passL (pa_cons (pv 0) (pa_cons pe_int pa_nil))) (fun _ _ => rfl)))
      (pss_one (ps_expr (pe_bm PySem.F.plainAttrs_list PySem.F.slot_list_append PySem.F.type_list_append mt_append (pv 4) (pa_cons (pe_tup (pa_cons (pv 6) (pa_cons (pe_call (ok__law_next Z) (hr.mono (by decide)) rfl (g__law_next Z) (u__law_next Z).kp (b__law_next Z) .nil passL (pa_cons (pv 0) (pa_cons (pv 6) pa_nil))) (pa_cons (pv 7) pa_nil)))) pa_nil)))))))
      (pss_one (ps_ret (pv 4))))), ?_⟩
    have sc : ∀ z : Int, 1 ≤ z → z ≤ 10 ^ 62 → Sz 4000 z := fun z z0 z1 => Sz.mono (a := 210) (Sz.le (by omega) z1 (Sz.of (by decide +kernel) (by decide +kernel))) (by decide)
    rw [show N + 15 + 8 * mny = (N + 8 * mny) + 15 by omega] at hT
    refine ⟨_, rfl, _, rfl, ⟨a, N + 8 * mny, L, rfl, hT, hL1, hL2, fun pc cs H1 hc x1 npc e1 t1 => ⟨(by show 0 ≤ sizeLine; decide), fun pf hpf => ⟨_, _, rfl, ?_⟩⟩⟩⟩
    have ncf : ¬ fdM a pc := hT.fresh npc
    have nff : ¬ fdM a pf := t1.fresh hpf
    have hpf0 : H pf = none := x1.back nff hpf
    have npf : pc ≠ pf := ne_of_none e1 hpf
    obtain ⟨ds, l, hcs⟩ : ∃ ds l, cs = ds ++ [l] := ⟨cs.dropLast, cs.getLast hc.ne, (List.dropLast_concat_getLast hc.ne).symm⟩
    have hclen : 1 ≤ cs.length := by rw [hcs]; simp
    have hcl2 := hc.len
    refine ⟨fun σ H2 => ∃ rs ns z5 z6 z7, σ = [some (.ref a), some (.int (mny : Nat)), some (.int L), some (.ref pc), some (.ref pf), z5, z6, z7] ∧ ns.length = mny ∧ (∀ n ∈ ns, n.ok ∧ (n.e ∈ cs ∨ n.e = 1) ∧ n.e ≤ L ∧ n.r ≤ 20 + 3 * L) ∧ Ext (fdM a) H H2 ∧ RwAt H2 pf rs ns ∧ Tp a N H2, ?_, ?_⟩
    · refine ⟨_, rfl, _, rfl, by omega, by omega, ?_⟩
      refine for_range (lo := 0) (n := mny) (fun i σ H2 => ∃ rs ns z5 z6 z7, σ = [some (.ref a), some (.int (mny : Nat)), some (.int L), some (.ref pc), some (.ref pf), z5, z6, z7] ∧ ns.length = i ∧ (∀ n ∈ ns, n.ok ∧ (n.e ∈ cs ∨ n.e = 1) ∧ n.e ≤ L ∧ n.r ≤ 20 + 3 * L) ∧ Ext (fdM a) H H2 ∧ H2 pc = some (.lst (cs.map V.int)) ∧ RwAt H2 pf rs ns ∧ Tp a (N + 8 * (mny - i)) H2)
        ⟨[], [], none, none, none, rfl, rfl, (fun n h => nomatch h), x1.trans (Ext.new hpf), by rw [upd_ne npf]; exact e1, ⟨upd_same, rfl, fun i r n h => by simp at h⟩, (t1.same (Same.new hpf)).less (by omega)⟩ ?_ ?_
      · rintro i σ H2 hi ⟨rs, ns, z5, z6, z7, rfl, hlen, hall, x2, e2, ⟨rw1, rw2, rw3⟩, t2⟩
        rw [show N + 8 * (mny - i) = (N + 8 * (mny - (i + 1))) + 8 by omega] at t2
        generalize hM : N + 8 * (mny - (i + 1)) = M at *
        -- the headway
        refine ⟨_, rfl, _, rfl, _, rfl, pc, _, rfl, .inl (SqL.of e2), ?_⟩
        rw [List.length_map]
        refine ⟨a, M + 7, (cs.length : Nat), rfl, t2, by omega, sc _ (by omega) (Int.le_trans (show ((cs.length : Nat) : Int) ≤ 10 by omega) (by decide +kernel)), fun v3 H3 g3 l3 x3 t3 => ?_⟩
        obtain ⟨c3, ha3, hm3⟩ := at_ints cs g3 l3
        have e3 : H3 pc = some (.lst (cs.map V.int)) := x3 _ _ ncf e2
        have al : atI (cs.map V.int) (-1) = some (.int l) := by
          rw [hcs, List.map_append]
          exact atI_last _ _
        have hml : l ∈ cs := by rw [hcs]; simp
        refine ⟨pc, _, v3, _, rfl, rfl, SqL.of e3, ha3, _, rfl, _, rfl, pc, _, -1, _, rfl, rfl, SqL.of e3, al, (by show 3 ≤ sizeLine; decide), fun p3 hp3 => ?_⟩
        have n3 : ¬ fdM a p3 := t3.fresh hp3
        refine ⟨_, rfl, ⟨a, M + 6, 5, rfl, t3.same (Same.new hp3), by decide, sc _ (by decide) (by decide +kernel), fun v4 H4 g4 l4 x4 t4 => ⟨_, _, rfl, rfl, (Sz.of (b := 10) (by decide) (by decide)).div (by decide) (by decide) (by decide), _, _, rfl, ?_⟩⟩⟩
        have e4 : H4 p3 = some (.lst (([c3, l, 1] : List Int).map V.int)) := x4 _ _ n3 upd_same
        obtain ⟨w, ha4, hm4⟩ := at_ints [c3, l, 1] (v := if v4 / 2 < 2 then v4 / 2 else 2) (by split <;> omega) (by show _ < (3 : Int); split <;> omega)
        refine ⟨p3, _, _, _, rfl, rfl, SqL.of e4, ha4, ?_⟩
        have hw : (w ∈ cs ∨ w = 1) ∧ 1 ≤ w ∧ w ≤ L := by
          simp only [List.mem_cons, List.not_mem_nil, or_false] at hm4
          rcases hm4 with e | e | e
          · rw [e]; exact ⟨.inl hm3, hc.pos _ hm3⟩
          · rw [e]; exact ⟨.inl hml, hc.pos _ hml⟩
          · exact ⟨.inr e, by omega⟩
        have y4 : Ext (fdM a) H2 H4 := x3.trans ((Ext.new hp3).trans x4)
        -- the ride
        refine ⟨_, rfl, ⟨a, M + 5, 20, rfl, t4, by decide, sc _ (by decide) (by decide +kernel), fun v5 H5 g5 l5 x5 t5 => ?_⟩⟩
        have sw : Sz 220 w := Sz.le (by omega) (show w ≤ 10 ^ 60 by omega) (Sz.of (by decide +kernel) (by decide +kernel))
        refine ⟨_, rfl, _, rfl, _, _, rfl, rfl, .inl ⟨by decide, by decide⟩, ⟨a, M + 4, 3 * w, rfl, t5, by omega, sc _ (by omega) (by omega), fun v6 H6 g6 l6 x6 t6 => ?_⟩⟩
        refine ⟨_, rfl, _, rfl, ⟨a, M + 3, 4, rfl, t6, by decide, sc _ (by decide) (by decide +kernel), fun v7 H7 g7 l7 x7 t7 => ⟨_, _, rfl, rfl, sw.cmul (b := 10) (Sz.of (by omega) (by omega)) (by decide) (by decide) (by decide), (by show 4 ≤ sizeLine; decide), fun p7 hp7 => ?_⟩⟩⟩
        refine ⟨_, rfl, ⟨a, M + 2, 4, rfl, t7.same (Same.new hp7), by decide, sc _ (by decide) (by decide +kernel), fun v8 H8 g8 l8 x8 t8 => ?_⟩⟩
        have e8 : H8 p7 = some (.lst (([0, v5, v6, w * v7] : List Int).map V.int)) := x8 _ _ (t7.fresh hp7) upd_same
        obtain ⟨r, ha8, hm8⟩ := at_ints [0, v5, v6, w * v7] g8 l8
        refine ⟨p7, _, v8, _, rfl, rfl, SqL.of e8, ha8, ?_⟩
        have hwv : 0 ≤ w * v7 ∧ w * v7 ≤ 3 * w := by
          refine ⟨Int.mul_nonneg (by omega) g7, ?_⟩
          rw [Int.mul_comm]
          exact Int.mul_le_mul_of_nonneg_right (by omega) (by omega)
        have hr8 : 0 ≤ r ∧ r ≤ 20 + 3 * L := by
          simp only [List.mem_cons, List.not_mem_nil, or_false] at hm8
          rcases hm8 with e | e | e | e <;> omega
        have y8 : Ext (fdM a) H2 H8 := y4.trans (x5.trans (x6.trans (x7.trans ((Ext.new hp7).trans x8))))
        have rw8 : H8 pf = some (.lst (rs.map V.ref)) := y8 _ _ nff rw1
        refine ⟨_, rfl, Or.inl ⟨rfl, _, SqL.of rw8⟩, _, rfl, _, rfl, _, rfl, ⟨a, M + 1, w, rfl, t8, hw.2.1, sc _ hw.2.1 (by omega), fun v9 H9 g9 l9 x9 t9 => ⟨_, rfl, (by show 3 ≤ sizeLine; decide), fun p9 hp9 => ?_⟩⟩⟩
        have y9 : Ext (fdM a) H2 (upd H9 p9 (.tup [.int w, .int v9, .int r])) := y8.trans (x9.trans (Ext.new hp9))
        have rw9 : (upd H9 p9 (.tup [.int w, .int v9, .int r])) pf = some (.lst (rs.map V.ref)) := y9 _ _ nff rw1
        have t9' := t9.same (Same.new (o := .tup [.int w, .int v9, .int r]) hp9)
        refine ⟨pf, _, _, rfl, rfl, rw9, ?_, ?_⟩
        · rw [List.length_map, rw2, hlen]
          exact Nat.lt_of_le_of_lt (show i ≤ 100 by omega) (by decide)
        have okn : N3.ok ⟨w, v9, r⟩ := ⟨hw.2.1, g9, l9, hr8.1⟩
        have stay : ∀ b o, b ≠ pf → (upd H9 p9 (.tup [.int w, .int v9, .int r])) b = some o → (upd (upd H9 p9 (.tup [.int w, .int v9, .int r])) pf (.lst (rs.map V.ref ++ [.ref p9]))) b = some o := fun b o nb e => by rw [upd_ne nb]; exact e
        have ntup : ∀ b n, T3 (upd H9 p9 (.tup [.int w, .int v9, .int r])) b n → b ≠ pf := fun b n h => ne_of (show (upd H9 p9 _) b = _ from h) rw9 (by intro w; cases w)
        refine ⟨rs ++ [p9], ns ++ [⟨w, v9, r⟩], _, _, _, rfl, by simp [hlen], ?_, ?_, ?_, ⟨?_, by simp [rw2], ?_⟩, ?_⟩
        · intro n hn
          rcases List.mem_append.mp hn with h | h
          · exact hall n h
          · rw [List.mem_singleton.mp h]
            exact ⟨okn, hw.1, hw.2.2, hr8.2⟩
        · intro b o nb e
          have nb2 : b ≠ pf := fun z => by rw [z, hpf0] at e; cases e
          exact stay _ _ nb2 (y9 _ _ nb (x2 _ _ nb e))
        · exact stay _ _ npf (y9 _ _ ncf e2)
        · rw [upd_same, List.map_append]
          rfl
        · intro m q n hq hn
          by_cases c : m < i
          · rw [List.getElem?_append_left (by omega)] at hq hn
            have h := rw3 m q n hq hn
            have nq : ¬ fdM a q := t2.out (show H2 q = _ from h) fun _ z => nomatch z
            have h2 : T3 (upd H9 p9 (.tup [.int w, .int v9, .int r])) q n := y9 _ _ nq h
            exact stay _ _ (ntup _ _ h2) h2
          · have hmi : m = i := by
              have := (List.getElem?_eq_some_iff.mp hn).1
              simp at this
              omega
            subst hmi
            rw [List.getElem?_append_right (by omega), rw2, hlen, Nat.sub_self] at hq
            rw [List.getElem?_append_right (by omega), hlen, Nat.sub_self] at hn
            obtain rfl := Option.some.inj hq
            obtain rfl := Option.some.inj hn
            have h2 : T3 (upd H9 p9 (.tup [.int w, .int v9, .int r])) p9 ⟨w, v9, r⟩ := upd_same
            exact stay _ _ (ntup _ _ h2) h2
        · obtain ⟨d', m', n', q1, q2⟩ := t9'
          have nap : a ≠ pf := fun z => nff z.symm
          exact Tp.less ⟨d', m', n', by rw [upd_ne nap]; exact q1, q2⟩ (by omega)
      · rintro σ H2 ⟨rs, ns, z5, z6, z7, rfl, hlen, hall, x2, e2, rr, t2⟩
        exact ⟨rs, ns, _, _, _, rfl, hlen, hall, x2, rr, t2.less (by omega)⟩
    rintro σ H2 ⟨rs, ns, z5, z6, z7, rfl, hlen, hall, x2, rr, t2⟩
    exact ⟨_, rfl, hq pf rs ns cs H2 hc hlen hall x2 hpf0 rr t2⟩
end
section
variable {w : World} {K : Frag} {mg : Str → Option Value} {base : Heap}
def sp__law_line (K : Frag) : Sp := fun vs H Q E => ∃ (p : Addr) (n : N3), vs = [.ref p] ∧ T3 H p n ∧ n.ok ∧ ∀ (q : Addr) (k : LK) (H' : Hp), Same H H' → H q = none → LnAt K H' q k n → Q (.ref q) H'
theorem ok__law_line (Z : Zs cks fns K mg) : FnOk PP w K mg base (L2.CX PP w) 6 (ga K "_law_line") (fdAt K (ga K "_law_line")) ["row"] (sp__law_line K) := by
  refine L2.Fun.okX (u__law_line Z) sc__law_line (fun vs H Q E h => ?_) (fun cdv A outer s H vs Q E hr h => ?_)
  · obtain ⟨_, _, rfl, _⟩ := h
    rfl
  · obtain ⟨p, n, rfl, ⟨hT, ok, hq⟩⟩ := h
    refine ⟨_, (pss_cons (ps_if (PW.pt (pw_and (pt_cmpR op_eq (pe_ix ix_tup (pv 0) pe_int (fun _ _ => rfl)) pe_int (nomark _)) (pw_and1 (pt_cmpR op_gt (pe_ix ix_tup (pv 0) pe_int (fun _ _ => rfl)) pe_int (nomark _)))))
        (pss_one (ps_ret (pe_make (M_Walk Z) (ok_Walk_init Z) (hr.mono (by decide)) rfl (g_Walk Z) (b_Walk_init Z) .nil passL (pa_cons (pe_ix ix_tup (pv 0) pe_int (fun _ _ => rfl)) pa_nil))))
        pss_nil)
      (pss_one (ps_ret (pe_ifExp (PW.pt (pw_and (pt_cmpR op_eq (pe_ix ix_tup (pv 0) pe_int (fun _ _ => rfl)) pe_int (nomark _)) (pw_and1 (pt_cmpR op_gt (pe_ix ix_tup (pv 0) pe_int (fun _ _ => rfl)) pe_int (nomark _))))) (pe_make (M_Stop Z) (ok_Stop_init Z) (hr.mono (by decide)) rfl (g_Stop Z) (b_Stop_init Z) .nil passL (pa_cons (pe_ix ix_tup (pv 0) pe_int (fun _ _ => rfl)) (pa_cons (pe_ix ix_tup (pv 0) pe_int (fun _ _ => rfl)) pa_nil))) (pe_make (M_Line Z) (ok_Line_init Z) (hr.mono (by decide)) rfl (g_Line Z) (b_Line_init Z) .nil passL (pa_cons (pe_ix ix_tup (pv 0) pe_int (fun _ _ => rfl)) (pa_cons (pe_ix ix_tup (pv 0) pe_int (fun _ _ => rfl)) (pa_cons (pe_ix ix_tup (pv 0) pe_int (fun _ _ => rfl)) pa_nil)))))))), ?_⟩
    obtain ⟨e, l, r⟩ := n
    obtain ⟨h1, h2, h3, h4⟩ := id ok
    have h1 : 1 ≤ e := h1
    have h2 : 0 ≤ l := h2
    have h3 : l < e := h3
    have h4 : 0 ≤ r := h4
    have last : ∀ D : Ends, D.rt = Q → (tRet (tMake (ga K "Line") (sp_Line_init K) [] E0 (tCons (tOp (rIxT K) (tVar 0) (L2.tC (.int 0))) (tCons (tOp (rIxT K) (tVar 0) (L2.tC (.int 1))) (tCons (tOp (rIxT K) (tVar 0) (L2.tC (.int 2))) tNil))))) D [some (.ref p)] H := by
      intro D hD
      refine ⟨_, rfl, p, _, 0, _, rfl, rfl, SqT.of hT, at0, _, rfl, p, _, 1, _, rfl, rfl, SqT.of hT, rfl, _, rfl, p, _, 2, _, rfl, rfl, SqT.of hT, rfl, fun x dx hx hd hne => ?_⟩
      refine ⟨.line, x, dx, ⟨e, l, r⟩, rfl, ok, upd_same, rfl, ?_⟩
      rw [hD]
      exact hq x .line _ (mk_same hx hd) hx ⟨dx, upd_same⟩
    have rest : ∀ D : Ends, D.rt = Q → True := fun _ _ => trivial
    refine ⟨_, rfl, p, _, 0, _, rfl, rfl, SqT.of hT, at0, rfl, _, rfl, ifD (fun c => ?_) (fun c => ?_)⟩
    · refine ⟨_, rfl, p, _, 2, _, rfl, rfl, SqT.of hT, rfl, _, _, rfl, rfl, _, rfl, ifD (fun d => ?_) (fun d => ?_)⟩
      · have e1 : e = 1 := V.int.inj c
        have l0 : l = 0 := by omega
        subst e1 l0
        refine ⟨_, rfl, p, _, 2, _, rfl, rfl, SqT.of hT, rfl, fun x dx hx hd hne => ?_⟩
        exact ⟨x, dx, r, rfl, h4, upd_same, rfl, hq x .walk _ (mk_same hx hd) hx ⟨dx, upd_same⟩⟩
      · refine ⟨_, rfl, p, _, 2, _, rfl, rfl, SqT.of hT, rfl, rfl, _, rfl, ifD (fun c2 => ?_) (fun c2 => ?_)⟩
        · have r0 : r = 0 := V.int.inj c2
          subst r0
          refine ⟨_, rfl, p, _, 1, _, rfl, rfl, SqT.of hT, rfl, _, _, rfl, rfl, _, rfl, ifD (fun d2 => ?_) (fun d2 => ?_)⟩
          · refine ⟨_, rfl, p, _, 0, _, rfl, rfl, SqT.of hT, at0, _, rfl, p, _, 1, _, rfl, rfl, SqT.of hT, rfl, fun x dx hx hd hne => ?_⟩
            exact ⟨x, dx, e, l, rfl, h1, h2, h3, upd_same, rfl, hq x .stop _ (mk_same hx hd) hx ⟨dx, upd_same⟩⟩
          · exact last _ rfl
        · exact last _ rfl
    · refine ⟨_, rfl, p, _, 2, _, rfl, rfl, SqT.of hT, rfl, rfl, _, rfl, ifD (fun c2 => ?_) (fun c2 => ?_)⟩
      · have r0 : r = 0 := V.int.inj c2
        subst r0
        refine ⟨_, rfl, p, _, 1, _, rfl, rfl, SqT.of hT, rfl, _, _, rfl, rfl, _, rfl, ifD (fun d2 => ?_) (fun d2 => ?_)⟩
        · refine ⟨_, rfl, p, _, 0, _, rfl, rfl, SqT.of hT, at0, _, rfl, p, _, 1, _, rfl, rfl, SqT.of hT, rfl, fun x dx hx hd hne => ?_⟩
          exact ⟨x, dx, e, l, rfl, h1, h2, h3, upd_same, rfl, hq x .stop _ (mk_same hx hd) hx ⟨dx, upd_same⟩⟩
        · exact last _ rfl
      · exact last _ rfl
def sp__law_two (K : Frag) : Sp := fun vs H Q E => ∃ (a : Addr) (N : Nat) (L : Int), vs = [.ref a, .int L] ∧ Tp a (N + 35) H ∧ 1 ≤ L ∧ L ≤ 10 ^ 58 ∧ ∀ (q p1 p2 : Addr) (x y : N3) (H' : Hp), x.ok → y.ok → (x.e ∣ y.e ∨ y.e ∣ x.e) → x.e ≤ L → y.e ≤ L → x.r ≤ 20 + 3 * L → y.r ≤ 20 + 6 * L → Ext (fdM a) H H' → H' q = some (.tup [.ref p1, .ref p2]) → T3 H' p1 x → T3 H' p2 y → Tp a N H' → Q (.ref q) H'
theorem ok__law_two (Z : Zs cks fns K mg) : FnOk PP w K mg base (L2.CX PP w) 4 (ga K "_law_two") (fdAt K (ga K "_law_two")) ["tape", "most"] (sp__law_two K) := by
  refine L2.Fun.okX (u__law_two Z) sc__law_two (fun vs H Q E h => ?_) (fun cdv A outer s H vs Q E hr h => ?_)
  · obtain ⟨_, _, _, rfl, _⟩ := h
    rfl
  · obtain ⟨a, N, L, rfl, ⟨hT, hL1, hL2, hq⟩⟩ := h
    refine ⟨_, (pss_cons (ps_set (i := 2) sc__law_two.nd rfl (Or.inl rfl) (pe_call (ok__law_rows Z) (hr.mono (by decide)) rfl (g__law_rows Z) (u__law_rows Z).kp (b__law_rows Z) .nil passL (pa_cons (pv 0) (pa_cons pe_int (pa_cons (pv 1) pa_nil)))))
      (pss_cons (ps_par (i := 3) (j := 4) rfl sc__law_two.nd rfl rfl (by decide) rfl rfl (pa_cons (pe_ix ix_list (pv 2) pe_int (fun _ _ => rfl)) (pa_cons (pe_ix ix_list (pv 2) pe_int (fun _ _ => rfl)) pa_nil)) rfl)
      (pss_cons (ps_set (i := 5) sc__law_two.nd rfl (Or.inl rfl) (pe_op op_add (pe_ix ix_tup (pv 3) pe_int (fun _ _ => rfl)) (pe_ix ix_list (pe_lst (pa_cons pe_int (pa_cons (pe_call (ok__law_next Z) (hr.mono (by decide)) rfl (g__law_next Z) (u__law_next Z).kp (b__law_next Z) .nil passL (pa_cons (pv 0) (pa_cons (pe_op op_mul pe_int (pe_ix ix_tup (pv 3) pe_int (fun _ _ => rfl))) pa_nil))) (pa_cons (pe_call (ok__law_next Z) (hr.mono (by decide)) rfl (g__law_next Z) (u__law_next Z).kp (b__law_next Z) .nil passL (pa_cons (pv 0) (pa_cons (pe_op op_mul pe_int (pe_ix ix_tup (pv 4) pe_int (fun _ _ => rfl))) pa_nil))) (pa_cons (pe_ix ix_tup (pv 4) pe_int (fun _ _ => rfl)) pa_nil))))) (pe_call (ok__law_next Z) (hr.mono (by decide)) rfl (g__law_next Z) (u__law_next Z).kp (b__law_next Z) .nil passL (pa_cons (pv 0) (pa_cons pe_int pa_nil))) (fun _ _ => rfl))))
      (pss_one (ps_ret (pe_tup (pa_cons (pv 3) (pa_cons (pe_tup (pa_cons (pe_ix ix_tup (pv 4) pe_int (fun _ _ => rfl)) (pa_cons (pe_ix ix_tup (pv 4) pe_int (fun _ _ => rfl)) (pa_cons (pe_ix ix_list (pe_lst (pa_cons (pv 5) (pa_cons (pe_ix ix_tup (pv 4) pe_int (fun _ _ => rfl)) pa_nil))) (pe_call (ok__law_next Z) (hr.mono (by decide)) rfl (g__law_next Z) (u__law_next Z).kp (b__law_next Z) .nil passL (pa_cons (pv 0) (pa_cons pe_int pa_nil))) (fun _ _ => rfl)) pa_nil)))) pa_nil)))))))), ?_⟩
    have sc : ∀ z : Int, 1 ≤ z → z ≤ 10 ^ 62 → Sz 4000 z := fun z z0 z1 => Sz.mono (a := 210) (Sz.le (by omega) z1 (Sz.of (by decide +kernel) (by decide +kernel))) (by decide)
    rw [show N + 35 = (N + 4) + 15 + 8 * 2 by omega] at hT
    refine ⟨_, rfl, _, rfl, ⟨a, N + 4, 2, L, rfl, hT, by decide, hL1, by omega, fun p rs ns cs H1 hc hlen hall x1 np rr t1 => ?_⟩⟩
    obtain ⟨x, y, rfl⟩ : ∃ x y, ns = [x, y] := by
      match ns, hlen with
      | [x, y], _ => exact ⟨x, y, rfl⟩
    obtain ⟨rr1, rr2, rr3⟩ := rr
    obtain ⟨p1, p2, rfl⟩ : ∃ x y, rs = [x, y] := by
      match rs, rr2 with
      | [x, y], _ => exact ⟨x, y, rfl⟩
    have T1 := rr3 0 p1 x rfl rfl
    have T2 := rr3 1 p2 y rfl rfl
    obtain ⟨ox, cx, ex, rx⟩ := hall x (by simp)
    obtain ⟨oy, cy, ey, ry⟩ := hall y (by simp)
    have fit : x.e ∣ y.e ∨ y.e ∣ x.e := by
      rcases cx with a | a
      · rcases cy with b | b
        · exact hc.fit a b
        · rw [b]; exact .inr (Int.one_dvd _)
      · rw [a]; exact .inl (Int.one_dvd _)
    have x11 := ox.1
    have y11 := oy.1
    have x14 := ox.2.2.2
    have y14 := oy.2.2.2
    refine ⟨_, rfl, p, _, 0, _, rfl, rfl, SqL.of rr1, at0, _, rfl, p, _, 1, _, rfl, rfl, SqL.of rr1, rfl, _, _, rfl, ?_⟩
    refine ⟨_, rfl, p1, _, 2, _, rfl, rfl, SqT.of T1, rfl, ?_⟩
    refine ⟨_, rfl, _, rfl, p1, _, 0, _, rfl, rfl, SqT.of T1, at0, _, _, rfl, rfl, .inl ⟨by decide, by decide⟩, ⟨a, N + 3, 3 * x.e, rfl, t1, by omega, sc _ (by omega) (by omega), fun v2 H2 g2 l2 x2 t2 => ?_⟩⟩
    have T22 := t1.tup x2 T2
    refine ⟨_, rfl, _, rfl, p2, _, 0, _, rfl, rfl, SqT.of T22, at0, _, _, rfl, rfl, .inl ⟨by decide, by decide⟩, ⟨a, N + 2, 3 * y.e, rfl, t2, by omega, sc _ (by omega) (by omega), fun v3 H3 g3 l3 x3 t3 => ?_⟩⟩
    have T23 : T3 H3 p2 y := t2.tup x3 T22
    refine ⟨_, rfl, p2, _, 0, _, rfl, rfl, SqT.of T23, at0, (by show 4 ≤ sizeLine; decide), fun p3 hp3 => ?_⟩
    refine ⟨_, rfl, ⟨a, N + 1, 4, rfl, t3.same (Same.new hp3), by decide, sc _ (by decide) (by decide +kernel), fun v4 H4 g4 l4 x4 t4 => ?_⟩⟩
    have e4 : H4 p3 = some (.lst (([0, v2, v3, y.e] : List Int).map V.int)) := x4 _ _ (t3.fresh hp3) upd_same
    obtain ⟨d, ha4, hm4⟩ := at_ints [0, v2, v3, y.e] g4 l4
    have hd4 : 0 ≤ d ∧ d ≤ 3 * L := by
      simp only [List.mem_cons, List.not_mem_nil, or_false] at hm4
      rcases hm4 with e | e | e | e <;> omega
    refine ⟨p3, _, v4, _, rfl, rfl, SqL.of e4, ha4, _, _, rfl, rfl, ?_⟩
    have y4 : Ext (fdM a) H1 H4 := x2.trans (x3.trans ((Ext.new hp3).trans x4))
    have T24 : T3 H4 p2 y := t1.tup y4 T2
    refine ⟨_, rfl, _, rfl, p2, _, 0, _, rfl, rfl, SqT.of T24, at0, _, rfl, p2, _, 1, _, rfl, rfl, SqT.of T24, rfl, _, rfl, _, rfl, p2, _, 2, _, rfl, rfl, SqT.of T24, rfl, (by show 2 ≤ sizeLine; decide), fun p5 hp5 => ?_⟩
    refine ⟨_, rfl, ⟨a, N, 2, rfl, t4.same (Same.new hp5), by decide, sc _ (by decide) (by decide +kernel), fun v6 H6 g6 l6 x6 t6 => ?_⟩⟩
    have e6 : H6 p5 = some (.lst (([x.r + d, y.r] : List Int).map V.int)) := x6 _ _ (t4.fresh hp5) upd_same
    obtain ⟨r, ha6, hm6⟩ := at_ints [x.r + d, y.r] g6 l6
    have hr6 : 0 ≤ r ∧ r ≤ 20 + 6 * L := by
      simp only [List.mem_cons, List.not_mem_nil, or_false] at hm6
      rcases hm6 with e | e <;> omega
    refine ⟨p5, _, v6, _, rfl, rfl, SqL.of e6, ha6, (by show 3 ≤ sizeLine; decide), fun p7 hp7 => ⟨(by show 2 ≤ sizeLine; decide), fun p8 hp8 => ?_⟩⟩
    have y8 : Ext (fdM a) H1 (upd (upd H6 p7 (.tup [.int y.e, .int y.a, .int r])) p8 (.tup [.ref p1, .ref p7])) := y4.trans ((Ext.new hp5).trans (x6.trans ((Ext.new hp7).trans (Ext.new hp8))))
    exact hq p8 p1 p7 x ⟨y.e, y.a, r⟩ _ ox ⟨oy.1, oy.2.1, oy.2.2.1, hr6.1⟩ fit ex ey rx hr6.2 (x1.trans y8) upd_same (t1.tup y8 T1) (Same.new hp8 _ _ upd_same) ((t6.same (Same.new hp7)).same (Same.new hp8))
end
section
variable {w : World} {K : Frag} {mg : Str → Option Value} {base : Heap}
/-! two lines compared: f the finer one, c the coarser one -/
def shN (f c : N3) : Int := (f.a - c.a) % f.e
def moN (f c : N3) : Int := f.r - c.r + shN f c
def dlt (f c : N3) (t : Int) : Int := (f.a - t) % f.e + f.r - (c.a - t) % c.e - c.r
def hN (c : N3) (t : Int) : Int := (c.a - t) % c.e
theorem dlt_h {f c : N3} (of : f.ok) (oc : c.ok) (hd : f.e ∣ c.e) (t : Int) : dlt f c t = moN f c - f.e * ((shN f c + hN c t) / f.e) := by
  have f1 := of.1
  have c1 := oc.1
  obtain ⟨k, ek⟩ := hd
  have e1 := Int.emod_add_mul_ediv (c.a - t) c.e
  have e2 := Int.emod_add_mul_ediv (f.a - c.a) f.e
  have e3 : (f.a - t) % f.e = (shN f c + hN c t) % f.e := by
    unfold shN hN
    rw [show f.a - t = ((f.a - c.a) % f.e + (c.a - t) % c.e) + f.e * ((f.a - c.a) / f.e + k * ((c.a - t) / c.e)) by
      rw [Int.mul_add, ← Int.mul_assoc, ← ek]
      omega]
    exact Int.add_mul_emod_self_left ..
  have e4 := Int.emod_add_mul_ediv (shN f c + hN c t) f.e
  unfold dlt
  rw [e3]
  have : hN c t = (c.a - t) % c.e := rfl
  unfold moN
  omega
theorem h_in {c : N3} (oc : c.ok) (t : Int) : 0 ≤ hN c t ∧ hN c t < c.e := by
  have c1 := oc.1
  exact ⟨Int.emod_nonneg _ (by omega), Int.emod_lt_of_pos _ (by omega)⟩
theorem sh_in {f c : N3} (of : f.ok) : 0 ≤ shN f c ∧ shN f c < f.e := by
  have f1 := of.1
  exact ⟨Int.emod_nonneg _ (by omega), Int.emod_lt_of_pos _ (by omega)⟩
/-- for how many starts up to the anchor the difference is at least v -/
def cntN (f c : N3) (v : Int) : Int :=
  if (moN f c - v) / f.e ≥ 0 then (if (if f.e * ((moN f c - v) / f.e + 1) - shN f c < c.e then f.e * ((moN f c - v) / f.e + 1) - shN f c else c.e) > 0 then (if f.e * ((moN f c - v) / f.e + 1) - shN f c < c.e then f.e * ((moN f c - v) / f.e + 1) - shN f c else c.e) else 0) else 0
theorem cnt_in {f c : N3} (oc : c.ok) (v : Int) : 0 ≤ cntN f c v ∧ cntN f c v ≤ c.e := by
  have c1 := oc.1
  unfold cntN
  split
  · split
    · split <;> omega
    · omega
  · omega
theorem mul_lt_iff {e a b : Int} (he : 0 < e) : a < e * (b + 1) ↔ a / e ≤ b := by
  constructor
  · intro h
    have : a / e < b + 1 := Int.ediv_lt_of_lt_mul he (by rw [Int.mul_comm]; exact h)
    omega
  · intro h
    have e1 := Int.emod_add_mul_ediv a e
    have e2 := Int.emod_lt_of_pos a he
    have := Int.mul_le_mul_of_nonneg_left h (show 0 ≤ e by omega)
    rw [Int.mul_add, Int.mul_one]
    omega
theorem mul_le_iff {e a b : Int} (he : 0 < e) : e * b ≤ a ↔ b ≤ a / e := by
  constructor
  · intro h
    exact Int.le_ediv_of_mul_le he (by rw [Int.mul_comm]; exact h)
  · intro h
    have e1 := Int.emod_add_mul_ediv a e
    have e2 := Int.emod_nonneg a (show e ≠ 0 by omega)
    have := Int.mul_le_mul_of_nonneg_left h (show 0 ≤ e by omega)
    omega
theorem cnt_h {f c : N3} (of : f.ok) (oc : c.ok) (hd : f.e ∣ c.e) (v : Int) (t : Int) : v ≤ dlt f c t ↔ hN c t < cntN f c v := by
  have f1 := of.1
  have h := h_in oc t
  have sh := sh_in (c := c) of
  rw [dlt_h of oc hd]
  have a1 : v ≤ moN f c - f.e * ((shN f c + hN c t) / f.e) ↔ (shN f c + hN c t) / f.e ≤ (moN f c - v) / f.e := by
    rw [← mul_le_iff (e := f.e) (by omega)]
    constructor <;> intro q <;> omega
  rw [a1, ← mul_lt_iff (e := f.e) (by omega)]
  have q0 : 0 ≤ (shN f c + hN c t) / f.e := Int.ediv_nonneg (by omega) (by omega)
  unfold cntN
  generalize (moN f c - v) / f.e = st at *
  generalize hX : f.e * (st + 1) - shN f c = X
  by_cases s0 : st ≥ 0
  · rw [if_pos s0]
    split
    · split <;> omega
    · split at * <;> omega
  · rw [if_neg s0]
    have : f.e * (st + 1) ≤ 0 := Int.mul_nonpos_of_nonneg_of_nonpos (by omega) (by omega)
    omega
def leN (f c : N3) : Int := moN f c - (c.e + shN f c - 1) / f.e * f.e
theorem dlt_le {f c : N3} (of : f.ok) (oc : c.ok) (hd : f.e ∣ c.e) (t : Int) : leN f c ≤ dlt f c t ∧ dlt f c t ≤ moN f c := by
  have f1 := of.1
  have h := h_in oc t
  have sh := sh_in (c := c) of
  rw [dlt_h of oc hd]
  unfold leN
  have q0 : 0 ≤ (shN f c + hN c t) / f.e := Int.ediv_nonneg (by omega) (by omega)
  have q1 : (shN f c + hN c t) / f.e ≤ (c.e + shN f c - 1) / f.e := Int.ediv_le_ediv (by omega) (by omega)
  have m0 : 0 ≤ f.e * ((shN f c + hN c t) / f.e) := Int.mul_nonneg (by omega) q0
  have m1 := Int.mul_le_mul_of_nonneg_left q1 (show 0 ≤ f.e by omega)
  rw [Int.mul_comm ((c.e + shN f c - 1) / f.e)]
  omega
theorem dlt_top {f c : N3} (of : f.ok) (oc : c.ok) (hd : f.e ∣ c.e) : dlt f c c.a = moN f c := by
  have f1 := of.1
  have sh := sh_in (c := c) of
  rw [dlt_h of oc hd]
  have : hN c c.a = 0 := by unfold hN; rw [Int.sub_self, Int.zero_emod]
  rw [this, Int.add_zero, Int.ediv_eq_zero_of_lt sh.1 sh.2, Int.mul_zero]
  omega
theorem h_behind {c : N3} (oc : c.ok) : hN c (c.a + 1) = c.e - 1 := by
  have c1 := oc.1
  unfold hN
  rw [show c.a - (c.a + 1) = (c.e - 1) + c.e * (-1) by omega, Int.add_mul_emod_self_left, Int.emod_eq_of_lt (by omega) (by omega)]
theorem dlt_low {f c : N3} (of : f.ok) (oc : c.ok) (hd : f.e ∣ c.e) : dlt f c (c.a + 1) = leN f c := by
  rw [dlt_h of oc hd, h_behind oc]
  unfold leN
  rw [Int.mul_comm f.e, show shN f c + (c.e - 1) = c.e + shN f c - 1 by omega]
/-- the first number from t on in a stretch of many that comes again after a modulus -/
def fwN (first many modulus t : Int) : Option Int := if many = 0 then none else if (t - first) % modulus < many then some t else some (t + modulus - (t - first) % modulus)
theorem fw_is {first many m t : Int} (hm : 0 < m) (h0 : 0 ≤ many) : (fwN first many m t = none ∧ many = 0) ∨ (∃ s, fwN first many m t = some s ∧ 0 < many ∧ t ≤ s ∧ s < t + m ∧ (s - first) % m < many ∧ ∀ u, t ≤ u → u < s → ¬ (u - first) % m < many) := by
  unfold fwN
  by_cases z : many = 0
  · rw [if_pos z]
    exact .inl ⟨rfl, z⟩
  · rw [if_neg z]
    have p0 := Int.emod_nonneg (t - first) (show m ≠ 0 by omega)
    have p1 := Int.emod_lt_of_pos (t - first) hm
    have pe := Int.emod_add_mul_ediv (t - first) m
    refine .inr ?_
    by_cases c : (t - first) % m < many
    · rw [if_pos c]
      exact ⟨t, rfl, by omega, by omega, by omega, c, fun u h1 h2 => absurd h1 (by omega)⟩
    · rw [if_neg c]
      refine ⟨_, rfl, by omega, by omega, by omega, ?_, fun u h1 h2 => ?_⟩
      · rw [show t + m - (t - first) % m - first = 0 + m * ((t - first) / m + 1) by rw [Int.mul_add]; omega, Int.add_mul_emod_self_left, Int.zero_emod]
        omega
      · have e : (u - first) % m = (t - first) % m + (u - t) := by
          rw [show u - first = ((t - first) % m + (u - t)) + m * ((t - first) / m) by omega, Int.add_mul_emod_self_left]
          exact Int.emod_eq_of_lt (by omega) (by omega)
        omega
theorem in_from {c : N3} (oc : c.ok) {k : Int} (h0 : 0 ≤ k) (h1 : k ≤ c.e) (t : Int) : (t - (c.a - k + 1)) % c.e < k ↔ hN c t < k := by
  have c1 := oc.1
  have h := h_in oc t
  have e := Int.emod_add_mul_ediv (c.a - t) c.e
  have e2 : hN c t = (c.a - t) % c.e := rfl
  by_cases q : hN c t < k
  · have : (t - (c.a - k + 1)) % c.e = k - 1 - hN c t := by
      rw [show t - (c.a - k + 1) = (k - 1 - hN c t) + c.e * (-((c.a - t) / c.e)) by rw [Int.mul_neg]; omega, Int.add_mul_emod_self_left]
      exact Int.emod_eq_of_lt (by omega) (by omega)
    omega
  · have : (t - (c.a - k + 1)) % c.e = c.e + k - 1 - hN c t := by
      rw [show t - (c.a - k + 1) = (c.e + k - 1 - hN c t) + c.e * (-((c.a - t) / c.e) - 1) by rw [Int.mul_sub, Int.mul_neg]; omega, Int.add_mul_emod_self_left]
      exact Int.emod_eq_of_lt (by omega) (by omega)
    omega
theorem in_below {c : N3} (oc : c.ok) {k : Int} (h0 : 0 ≤ k) (h1 : k ≤ c.e) (t : Int) : (t - (c.a + 1)) % c.e < c.e - k ↔ ¬ hN c t < k := by
  have c1 := oc.1
  have h := h_in oc t
  have e := Int.emod_add_mul_ediv (c.a - t) c.e
  have e2 : hN c t = (c.a - t) % c.e := rfl
  have : (t - (c.a + 1)) % c.e = c.e - 1 - hN c t := by
    rw [show t - (c.a + 1) = (c.e - 1 - hN c t) + c.e * (-((c.a - t) / c.e) - 1) by rw [Int.mul_sub, Int.mul_neg]; omega, Int.add_mul_emod_self_left]
    exact Int.emod_eq_of_lt (by omega) (by omega)
  omega
def ffN (f c : N3) (v t : Int) : Option Int := fwN (c.a - cntN f c v + 1) (cntN f c v) c.e t
def fbN (f c : N3) (v t : Int) : Option Int := fwN (c.a + 1) (c.e - cntN f c v) c.e t
theorem ff_is {f c : N3} (of : f.ok) (oc : c.ok) (hd : f.e ∣ c.e) (v t : Int) : (ffN f c v t = none ∧ ∀ u, ¬ v ≤ dlt f c u) ∨ (∃ s, ffN f c v t = some s ∧ t ≤ s ∧ s < t + c.e ∧ v ≤ dlt f c s ∧ ∀ u, t ≤ u → u < s → ¬ v ≤ dlt f c u) := by
  have c1 := oc.1
  have k := cnt_in (f := f) oc v
  rcases fw_is (first := c.a - cntN f c v + 1) (many := cntN f c v) (m := c.e) (t := t) (by omega) k.1 with ⟨q, z⟩ | ⟨s, q, p, h1, h2, h3, h4⟩
  · refine .inl ⟨q, fun u w => ?_⟩
    have := (cnt_h of oc hd v u).mp w
    have := h_in oc u
    omega
  · refine .inr ⟨s, q, h1, h2, (cnt_h of oc hd v s).mpr ((in_from oc k.1 k.2 s).mp h3), fun u g1 g2 w => h4 u g1 g2 ((in_from oc k.1 k.2 u).mpr ((cnt_h of oc hd v u).mp w))⟩
theorem fb_is {f c : N3} (of : f.ok) (oc : c.ok) (hd : f.e ∣ c.e) (v t : Int) : (fbN f c v t = none ∧ ∀ u, v ≤ dlt f c u) ∨ (∃ s, fbN f c v t = some s ∧ t ≤ s ∧ s < t + c.e ∧ dlt f c s < v ∧ ∀ u, t ≤ u → u < s → v ≤ dlt f c u) := by
  have c1 := oc.1
  have k := cnt_in (f := f) oc v
  rcases fw_is (first := c.a + 1) (many := c.e - cntN f c v) (m := c.e) (t := t) (by omega) (by omega) with ⟨q, z⟩ | ⟨s, q, p, h1, h2, h3, h4⟩
  · refine .inl ⟨q, fun u => (cnt_h of oc hd v u).mpr ?_⟩
    have := h_in oc u
    omega
  · refine .inr ⟨s, q, h1, h2, ?_, fun u g1 g2 => ?_⟩
    · have w := (in_below oc k.1 k.2 s).mp h3
      have := mt (cnt_h of oc hd v s).mp w
      omega
    · have w := mt (in_below oc k.1 k.2 u).mpr (h4 u g1 g2)
      exact (cnt_h of oc hd v u).mpr (by omega)
/-- the two lines in order -/
def fiN (x y : N3) : N3 := if x.e ≤ y.e then x else y
def coN (x y : N3) : N3 := if x.e ≤ y.e then y else x
theorem fc_fit {x y : N3} (ox : x.ok) (oy : y.ok) (hd : x.e ∣ y.e ∨ y.e ∣ x.e) : (fiN x y).ok ∧ (coN x y).ok ∧ (fiN x y).e ∣ (coN x y).e := by
  have x1 := ox.1
  have y1 := oy.1
  unfold fiN coN
  by_cases c : x.e ≤ y.e
  · rw [if_pos c, if_pos c]
    refine ⟨ox, oy, ?_⟩
    rcases hd with d | d
    · exact d
    · have := Int.le_of_dvd (by omega) d
      rw [show x.e = y.e by omega]
      exact Int.dvd_refl _
  · rw [if_neg c, if_neg c]
    refine ⟨oy, ox, ?_⟩
    rcases hd with d | d
    · have := Int.le_of_dvd (by omega) d
      omega
    · exact d
def diN (x y : N3) : Int × Int × Int :=
  if x.e ≤ y.e then (leN x y, moN x y, if leN x y < moN x y then x.e else 0) else (0 - moN y x, 0 - leN y x, if leN y x < moN y x then y.e else 0)
def wsN (x y : N3) : Option Int := if x.e ≤ y.e then ffN x y (moN x y) 0 else fbN y x (leN y x + 1) 0
def csN (x y : N3) : Int × Int × Int :=
  if x.e ≤ y.e then (y.e - cntN x y 0, cntN x y 0 - cntN x y 1, cntN x y 1) else (cntN y x 1, cntN y x 0 - cntN y x 1, x.e - cntN y x 0)
def feN (x y : N3) (t : Int) : Option Int := if x.e ≤ y.e then fbN x y 0 t else ffN y x 1 t
/-- the fields of a pair -/
def pf (b : Bool) (f c : N3) : List (Str × V) := putF "most" (.int (moN f c)) (putF "shift" (.int (shN f c)) (putF "anchor" (.int c.a) (putF "greater" (.int c.e) (putF "lesser" (.int f.e) (putF "is_finer" (.bl b) [])))))
theorem pf_b (b : Bool) (f c : N3) : (pf b f c).lookup ("is_finer" : Str) = some (.bl b) := by
  unfold pf
  rw [lookup_putF, if_neg (by decide +kernel), lookup_putF, if_neg (by decide +kernel), lookup_putF, if_neg (by decide +kernel), lookup_putF, if_neg (by decide +kernel), lookup_putF, if_neg (by decide +kernel), lookup_putF, if_pos rfl]
theorem pf_l (b : Bool) (f c : N3) : (pf b f c).lookup ("lesser" : Str) = some (.int f.e) := by
  unfold pf
  rw [lookup_putF, if_neg (by decide +kernel), lookup_putF, if_neg (by decide +kernel), lookup_putF, if_neg (by decide +kernel), lookup_putF, if_neg (by decide +kernel), lookup_putF, if_pos rfl]
theorem pf_g (b : Bool) (f c : N3) : (pf b f c).lookup ("greater" : Str) = some (.int c.e) := by
  unfold pf
  rw [lookup_putF, if_neg (by decide +kernel), lookup_putF, if_neg (by decide +kernel), lookup_putF, if_neg (by decide +kernel), lookup_putF, if_pos rfl]
theorem pf_a (b : Bool) (f c : N3) : (pf b f c).lookup ("anchor" : Str) = some (.int c.a) := by
  unfold pf
  rw [lookup_putF, if_neg (by decide +kernel), lookup_putF, if_neg (by decide +kernel), lookup_putF, if_pos rfl]
theorem pf_s (b : Bool) (f c : N3) : (pf b f c).lookup ("shift" : Str) = some (.int (shN f c)) := by
  unfold pf
  rw [lookup_putF, if_neg (by decide +kernel), lookup_putF, if_pos rfl]
theorem pf_m (b : Bool) (f c : N3) : (pf b f c).lookup ("most" : Str) = some (.int (moN f c)) := by
  unfold pf
  rw [lookup_putF, if_pos rfl]
theorem pf_no (b : Bool) (f c : N3) {m : Str} (h1 : ¬ m = "most" := by decide +kernel) (h2 : ¬ m = "shift" := by decide +kernel) (h3 : ¬ m = "anchor" := by decide +kernel) (h4 : ¬ m = "greater" := by decide +kernel) (h5 : ¬ m = "lesser" := by decide +kernel) (h6 : ¬ m = "is_finer" := by decide +kernel) : (pf b f c).lookup m = none := by
  unfold pf
  rw [lookup_putF, if_neg h1, lookup_putF, if_neg h2, lookup_putF, if_neg h3, lookup_putF, if_neg h4, lookup_putF, if_neg h5, lookup_putF, if_neg h6]
  rfl
theorem put_len (f : Str) (v : V) (fs : List (Str × V)) {n : Nat} (h : fs.length < n) : (putF f v fs).length < n + 1 := by
  have := length_putF f v fs
  omega
/-- a pair stands at p -/
def PrAt (K : Frag) (H : Hp) (p : Addr) (b : Bool) (f c : N3) : Prop := ∃ dx, H p = some (.ins (ga K "Pair") dx (pf b f c))
theorem PrAt.same {K : Frag} {H H' : Hp} {p : Addr} {b : Bool} {f c : N3} (h : PrAt K H p b f c) (s : Same H H') : PrAt K H' p b f c := let ⟨dx, e⟩ := h; ⟨dx, s _ _ e⟩
def sp_Pair_init (K : Frag) : Sp := fun vs H Q E => ∃ (p : Addr) (dx : Addr) (a : Addr) (k : LK) (x : N3) (b : Addr) (j : LK) (y : N3), vs = [.ref p, .ref a, .ref b] ∧ H p = some (.ins (ga K "Pair") dx []) ∧ LnAt K H a k x ∧ LnAt K H b j y ∧ x.ok ∧ y.ok ∧ (fiN x y).e ∣ (coN x y).e ∧ ∀ H', (∀ q o, q ≠ p → H q = some o → H' q = some o) → H' p = some (.ins (ga K "Pair") dx (pf (decide (x.e ≤ y.e)) (fiN x y) (coN x y))) → Q .non H'
theorem ok_Pair_init (Z : Zs cks fns K mg) : FnOk PP w K mg base (L2.CX PP w) 3 (ma K (ga K "Pair") "__init__") (fdAt K (ma K (ga K "Pair") "__init__")) ["self", "one", "other"] (sp_Pair_init K) := by
  refine L2.Fun.okX (u_Pair_init Z) sc_Pair_init (fun vs H Q E h => ?_) (fun cdv A outer s H vs Q E hr h => ?_)
  · obtain ⟨_, _, _, _, _, _, _, _, rfl, _⟩ := h
    rfl
  · obtain ⟨p, dx, a, k, x, b, j, y, rfl, ⟨hp, La, Lb, ox, oy, hd, hq⟩⟩ := h
    refine ⟨_, (pss_cons (ps_par (i := 3) (j := 4) rfl sc_Pair_init.nd rfl rfl (by decide) rfl rfl (pa_cons (pe_callB (call_min2 rfl) rfl (n_min Z) (by decide +kernel) (pa_cons (pe_lget (pv 1) (lnF Z) (hp_every Z) (ok_Line_every Z) (b_Line_every Z) (hr.mono (by decide)) lf_e rfl) (pa_cons (pe_lget (pv 2) (lnF Z) (hp_every Z) (ok_Line_every Z) (b_Line_every Z) (hr.mono (by decide)) lf_e rfl) pa_nil))) (pa_cons (pe_callB (call_max2 rfl) rfl (n_max Z) (by decide +kernel) (pa_cons (pe_lget (pv 1) (lnF Z) (hp_every Z) (ok_Line_every Z) (b_Line_every Z) (hr.mono (by decide)) lf_e rfl) (pa_cons (pe_lget (pv 2) (lnF Z) (hp_every Z) (ok_Line_every Z) (b_Line_every Z) (hr.mono (by decide)) lf_e rfl) pa_nil))) pa_nil)) rfl)
      (pss_cons (ps_if (pt_cmpR op_ne (pe_op op_mod (pv 4) (pv 3)) pe_int (nomark _))
        (pss_one ps_never)
        pss_nil)
      (pss_cons (ps_fld (pv 0) (pe_cmpR op_eq (pe_lget (pv 1) (lnF Z) (hp_every Z) (ok_Line_every Z) (b_Line_every Z) (hr.mono (by decide)) lf_e rfl) (pv 3) (nomark _)) rfl)
      (pss_cons (ps_asg (pe_ifExp (pt_val (pe_fld (pv 0) rfl)) (pe_tup (pa_cons (pv 1) (pa_cons (pv 2) pa_nil))) (pe_tup (pa_cons (pv 2) (pa_cons (pv 1) pa_nil)))) (pg_tup rfl (pgs_cons (pg_name (i := 5) sc_Pair_init.nd rfl (Or.inl rfl)) (pgs_cons (pg_name (i := 6) sc_Pair_init.nd rfl (Or.inl rfl)) pgs_nil))))
      (pss_cons (ps_fld (pv 0) (pv 3) rfl)
      (pss_cons (ps_fld (pv 0) (pv 4) rfl)
      (pss_cons (ps_fld (pv 0) (pe_lget (pv 6) (lnF Z) (hp_at Z) (ok_Line_at Z) (b_Line_at Z) (hr.mono (by decide)) lf_a rfl) rfl)
      (pss_cons (ps_fld (pv 0) (pe_op op_mod (pe_op op_sub (pe_lget (pv 5) (lnF Z) (hp_at Z) (ok_Line_at Z) (b_Line_at Z) (hr.mono (by decide)) lf_a rfl) (pe_lget (pv 6) (lnF Z) (hp_at Z) (ok_Line_at Z) (b_Line_at Z) (hr.mono (by decide)) lf_a rfl)) (pv 3)) rfl)
      (pss_one (ps_fld (pv 0) (pe_op op_add (pe_op op_sub (pe_lget (pv 5) (lnF Z) (hp_ride Z) (ok_Line_ride Z) (b_Line_ride Z) (hr.mono (by decide)) lf_r rfl) (pe_lget (pv 6) (lnF Z) (hp_ride Z) (ok_Line_ride Z) (b_Line_ride Z) (hr.mono (by decide)) lf_r rfl)) (pe_fld (pv 0) rfl)) rfl)))))))))), ?_⟩
    have x1 := ox.1
    have y1 := oy.1
    have nA : ∀ (a : Addr) k n, LnAt K H a k n → a ≠ p := by
      rintro a k n ⟨d, e⟩ z
      subst z
      have := congrArg (fun o => match o with | some (HO.ins _ _ fs) => fs.lookup ("held_every" : Str) | _ => none) (e.symm.trans hp)
      simp [lf_e] at this
    have keepA : ∀ (G : Hp) o, LnAt K G a k x → LnAt K (upd G p o) a k x := fun G o ⟨d, e⟩ => ⟨d, by rw [upd_ne (nA _ _ _ La)]; exact e⟩
    have keepB : ∀ (G : Hp) o, LnAt K G b j y → LnAt K (upd G p o) b j y := fun G o ⟨d, e⟩ => ⟨d, by rw [upd_ne (nA _ _ _ Lb)]; exact e⟩
    by_cases c : x.e ≤ y.e
    · have ef : fiN x y = x := if_pos c
      have ec : coN x y = y := if_pos c
      rw [ef, ec, decide_eq_true c] at hq
      rw [ef, ec] at hd
      have hl : (if y.e < x.e then y.e else x.e) = x.e := by split <;> omega
      have hg : (if y.e > x.e then y.e else x.e) = y.e := by split <;> omega
      have hb : decide (V.int x.e = V.int x.e) = true := by first | exact decide_eq_true rfl | exact decide_eq_false fun z => by have := V.int.inj z; omega
      refine ⟨_, rfl, a, k, x, rfl, La, _, rfl, b, j, y, rfl, Lb, _, _, rfl, _, rfl, a, k, x, rfl, La, _, rfl, b, j, y, rfl, Lb, _, _, rfl, _, _, rfl, ?_⟩
      rw [hl, hg]
      refine ⟨_, rfl, _, rfl, _, _, rfl, rfl, (by show 0 < x.e; omega), rfl, _, rfl, iteNS (congrArg V.int (Int.emod_eq_zero_of_dvd hd)) ?_⟩
      refine ⟨_, rfl, a, k, x, rfl, La, _, rfl, rfl, _, rfl, p, _, dx, [], rfl, hp, c_Pair Z, na_Pair_is_finer Z, (by decide), ?_⟩
      rw [hb]
      have E1 : (upd H p (.ins (ga K "Pair") dx (putF "is_finer" (.bl true) []))) p = some (.ins (ga K "Pair") dx (putF "is_finer" (.bl true) [])) := upd_same
      have La1 : LnAt K (upd H p (.ins (ga K "Pair") dx (putF "is_finer" (.bl true) []))) a k x := keepA _ _ La
      have Lb1 : LnAt K (upd H p (.ins (ga K "Pair") dx (putF "is_finer" (.bl true) []))) b j y := keepB _ _ Lb
      refine ⟨_, rfl, p, _, dx, _, _, rfl, E1, c_Pair Z, na_Pair_is_finer Z, (by rw [lookup_putF, if_pos rfl]), _, rfl, iteT ?_⟩
      refine ⟨_, rfl, _, rfl, (by show 2 ≤ sizeLine; decide), fun t ht => ?_⟩
      have st := Same.new (o := .tup [.ref a, .ref b]) ht
      have G0 : ∀ q o, q ≠ p → H q = some o → (upd (upd H p (.ins (ga K "Pair") dx (putF "is_finer" (.bl true) []))) t (.tup [.ref a, .ref b])) q = some o := fun q o nq e => st _ _ (by rw [upd_ne nq]; exact e)
      have E2 := st _ _ E1
      have La2 := La1.same st
      have Lb2 := Lb1.same st
      refine ⟨t, _, rfl, SqT.of upd_same, rfl, _, _, rfl, _, _, rfl, rfl, ?_⟩
      refine ⟨_, rfl, _, rfl, p, _, dx, _, rfl, E2, c_Pair Z, na_Pair_lesser Z, by show (putF _ _ _).length < 1000; exact Nat.lt_of_lt_of_le (put_len _ _ [] (n := 1) (by decide)) (by decide), ?_⟩
      refine ⟨_, rfl, _, rfl, p, _, dx, _, rfl, upd_same, c_Pair Z, na_Pair_greater Z, Nat.lt_of_lt_of_le (put_len _ _ _ (put_len _ _ [] (n := 1) (by decide))) (by decide), ?_⟩
      have Lc : ∀ G, LnAt K G b j y → ∀ o, LnAt K (upd G p o) b j y := fun G h o => keepB _ _ h
      have Lf : ∀ G, LnAt K G a k x → ∀ o, LnAt K (upd G p o) a k x := fun G h o => keepA _ _ h
      refine ⟨_, rfl, b, j, y, rfl, Lc _ (Lc _ Lb2 _) _, _, rfl, p, _, dx, _, rfl, upd_same, c_Pair Z, na_Pair_anchor Z, Nat.lt_of_lt_of_le (put_len _ _ _ (put_len _ _ _ (put_len _ _ [] (n := 1) (by decide)))) (by decide), ?_⟩
      refine ⟨_, rfl, a, k, x, rfl, Lf _ (Lf _ (Lf _ La2 _) _) _, _, rfl, b, j, y, rfl, Lc _ (Lc _ (Lc _ Lb2 _) _) _, _, _, rfl, rfl, _, rfl, _, _, rfl, rfl, (by show 0 < x.e; omega), _, rfl, p, _, dx, _, rfl, upd_same, c_Pair Z, na_Pair_shift Z, Nat.lt_of_lt_of_le (put_len _ _ _ (put_len _ _ _ (put_len _ _ _ (put_len _ _ [] (n := 1) (by decide))))) (by decide), ?_⟩
      refine ⟨_, rfl, a, k, x, rfl, Lf _ (Lf _ (Lf _ (Lf _ La2 _) _) _) _, _, rfl, b, j, y, rfl, Lc _ (Lc _ (Lc _ (Lc _ Lb2 _) _) _) _, _, _, rfl, rfl, _, rfl, p, _, dx, _, _, rfl, upd_same, c_Pair Z, na_Pair_shift Z, (by rw [lookup_putF, if_pos rfl]), _, _, rfl, rfl, _, rfl, p, _, dx, _, rfl, upd_same, c_Pair Z, na_Pair_most Z, Nat.lt_of_lt_of_le (put_len _ _ _ (put_len _ _ _ (put_len _ _ _ (put_len _ _ _ (put_len _ _ [] (n := 1) (by decide)))))) (by decide), ?_⟩
      refine hq _ (fun q o nq e => ?_) upd_same
      rw [upd_ne nq, upd_ne nq, upd_ne nq, upd_ne nq, upd_ne nq]
      exact G0 q o nq e
    · have ef : fiN x y = y := if_neg c
      have ec : coN x y = x := if_neg c
      rw [ef, ec, decide_eq_false c] at hq
      rw [ef, ec] at hd
      have hl : (if y.e < x.e then y.e else x.e) = y.e := by split <;> omega
      have hg : (if y.e > x.e then y.e else x.e) = x.e := by split <;> omega
      have hb : decide (V.int x.e = V.int y.e) = false := by first | exact decide_eq_true rfl | exact decide_eq_false fun z => by have := V.int.inj z; omega
      refine ⟨_, rfl, a, k, x, rfl, La, _, rfl, b, j, y, rfl, Lb, _, _, rfl, _, rfl, a, k, x, rfl, La, _, rfl, b, j, y, rfl, Lb, _, _, rfl, _, _, rfl, ?_⟩
      rw [hl, hg]
      refine ⟨_, rfl, _, rfl, _, _, rfl, rfl, (by show 0 < y.e; omega), rfl, _, rfl, iteNS (congrArg V.int (Int.emod_eq_zero_of_dvd hd)) ?_⟩
      refine ⟨_, rfl, a, k, x, rfl, La, _, rfl, rfl, _, rfl, p, _, dx, [], rfl, hp, c_Pair Z, na_Pair_is_finer Z, (by decide), ?_⟩
      rw [hb]
      have E1 : (upd H p (.ins (ga K "Pair") dx (putF "is_finer" (.bl false) []))) p = some (.ins (ga K "Pair") dx (putF "is_finer" (.bl false) [])) := upd_same
      have La1 : LnAt K (upd H p (.ins (ga K "Pair") dx (putF "is_finer" (.bl false) []))) a k x := keepA _ _ La
      have Lb1 : LnAt K (upd H p (.ins (ga K "Pair") dx (putF "is_finer" (.bl false) []))) b j y := keepB _ _ Lb
      refine ⟨_, rfl, p, _, dx, _, _, rfl, E1, c_Pair Z, na_Pair_is_finer Z, (by rw [lookup_putF, if_pos rfl]), _, rfl, iteF ?_⟩
      refine ⟨_, rfl, _, rfl, (by show 2 ≤ sizeLine; decide), fun t ht => ?_⟩
      have st := Same.new (o := .tup [.ref b, .ref a]) ht
      have G0 : ∀ q o, q ≠ p → H q = some o → (upd (upd H p (.ins (ga K "Pair") dx (putF "is_finer" (.bl false) []))) t (.tup [.ref b, .ref a])) q = some o := fun q o nq e => st _ _ (by rw [upd_ne nq]; exact e)
      have E2 := st _ _ E1
      have La2 := La1.same st
      have Lb2 := Lb1.same st
      refine ⟨t, _, rfl, SqT.of upd_same, rfl, _, _, rfl, _, _, rfl, rfl, ?_⟩
      refine ⟨_, rfl, _, rfl, p, _, dx, _, rfl, E2, c_Pair Z, na_Pair_lesser Z, by show (putF _ _ _).length < 1000; exact Nat.lt_of_lt_of_le (put_len _ _ [] (n := 1) (by decide)) (by decide), ?_⟩
      refine ⟨_, rfl, _, rfl, p, _, dx, _, rfl, upd_same, c_Pair Z, na_Pair_greater Z, Nat.lt_of_lt_of_le (put_len _ _ _ (put_len _ _ [] (n := 1) (by decide))) (by decide), ?_⟩
      have Lc : ∀ G, LnAt K G a k x → ∀ o, LnAt K (upd G p o) a k x := fun G h o => keepA _ _ h
      have Lf : ∀ G, LnAt K G b j y → ∀ o, LnAt K (upd G p o) b j y := fun G h o => keepB _ _ h
      refine ⟨_, rfl, a, k, x, rfl, Lc _ (Lc _ La2 _) _, _, rfl, p, _, dx, _, rfl, upd_same, c_Pair Z, na_Pair_anchor Z, Nat.lt_of_lt_of_le (put_len _ _ _ (put_len _ _ _ (put_len _ _ [] (n := 1) (by decide)))) (by decide), ?_⟩
      refine ⟨_, rfl, b, j, y, rfl, Lf _ (Lf _ (Lf _ Lb2 _) _) _, _, rfl, a, k, x, rfl, Lc _ (Lc _ (Lc _ La2 _) _) _, _, _, rfl, rfl, _, rfl, _, _, rfl, rfl, (by show 0 < y.e; omega), _, rfl, p, _, dx, _, rfl, upd_same, c_Pair Z, na_Pair_shift Z, Nat.lt_of_lt_of_le (put_len _ _ _ (put_len _ _ _ (put_len _ _ _ (put_len _ _ [] (n := 1) (by decide))))) (by decide), ?_⟩
      refine ⟨_, rfl, b, j, y, rfl, Lf _ (Lf _ (Lf _ (Lf _ Lb2 _) _) _) _, _, rfl, a, k, x, rfl, Lc _ (Lc _ (Lc _ (Lc _ La2 _) _) _) _, _, _, rfl, rfl, _, rfl, p, _, dx, _, _, rfl, upd_same, c_Pair Z, na_Pair_shift Z, (by rw [lookup_putF, if_pos rfl]), _, _, rfl, rfl, _, rfl, p, _, dx, _, rfl, upd_same, c_Pair Z, na_Pair_most Z, Nat.lt_of_lt_of_le (put_len _ _ _ (put_len _ _ _ (put_len _ _ _ (put_len _ _ _ (put_len _ _ [] (n := 1) (by decide)))))) (by decide), ?_⟩
      refine hq _ (fun q o nq e => ?_) upd_same
      rw [upd_ne nq, upd_ne nq, upd_ne nq, upd_ne nq, upd_ne nq]
      exact G0 q o nq e
end
section
variable {w : World} {K : Frag} {mg : Str → Option Value} {base : Heap}
def sp_Pair_count_from (K : Frag) : Sp := fun vs H Q E => ∃ (p : Addr) (bb : Bool) (f : N3) (c : N3) (v : Int), vs = [.ref p, .int v] ∧ PrAt K H p bb f c ∧ f.ok ∧ Sz 500 f.e ∧ Sz 600 (moN f c) ∧ Sz 600 v ∧ Q (.int (cntN f c v)) H
theorem ok_Pair_count_from (Z : Zs cks fns K mg) : FnOk PP w K mg base (L2.CX PP w) 1 (ma K (ga K "Pair") "count_from") (fdAt K (ma K (ga K "Pair") "count_from")) ["self", "value"] (sp_Pair_count_from K) := by
  refine L2.Fun.okX (u_Pair_count_from Z) sc_Pair_count_from (fun vs H Q E h => ?_) (fun cdv A outer s H vs Q E hr h => ?_)
  · obtain ⟨_, _, _, _, _, rfl, _⟩ := h
    rfl
  · obtain ⟨p, bb, f, c, v, rfl, ⟨⟨dx, hP⟩, of, sf, sm, sv, hq⟩⟩ := h
    refine ⟨_, (pss_cons (ps_set (i := 2) sc_Pair_count_from.nd rfl (Or.inl rfl) (pe_op op_fdivW (pe_op op_sub (pe_fld (pv 0) rfl) (pv 1)) (pe_fld (pv 0) rfl)))
      (pss_one (ps_ret (pe_ifExp (pt_cmpR op_ge (pv 2) pe_int (nomark _)) (pe_callB (call_max2 rfl) rfl (n_max Z) (by decide +kernel) (pa_cons pe_int (pa_cons (pe_callB (call_min2 rfl) rfl (n_min Z) (by decide +kernel) (pa_cons (pe_fld (pv 0) rfl) (pa_cons (pe_op op_sub (pe_op op_mulW (pe_fld (pv 0) rfl) (pe_op op_add (pv 2) pe_int)) (pe_fld (pv 0) rfl)) pa_nil))) pa_nil))) pe_int)))), ?_⟩
    have f1 := of.1
    refine ⟨_, rfl, p, _, dx, _, _, rfl, hP, c_Pair Z, na_Pair_most Z, pf_m _ _ _, _, rfl, _, _, rfl, rfl, _, rfl, p, _, dx, _, _, rfl, hP, c_Pair Z, na_Pair_lesser Z, pf_l _ _ _, _, _, rfl, rfl, sf.div (by omega) (by decide) (by decide), ?_⟩
    unfold cntN at hq
    refine ⟨_, rfl, _, _, rfl, rfl, _, rfl, ifD (fun s0 => ?_) (fun s0 => ?_)⟩
    · rw [if_pos s0] at hq
      have m0 : 0 ≤ moN f c - v := by
        have e1 := Int.emod_add_mul_ediv (moN f c - v) f.e
        have e2 := Int.emod_nonneg (moN f c - v) (show f.e ≠ 0 by omega)
        have := Int.mul_nonneg (show 0 ≤ f.e by omega) (show 0 ≤ (moN f c - v) / f.e by omega)
        omega
      have s1 : Sz 602 ((moN f c - v) / f.e + 1) := Sz.add (a := 601) (Sz.le (by omega) (Int.ediv_le_self _ m0) (sm.sub sv)) (Sz.of (by decide +kernel) (by decide +kernel))
      exact ⟨_, rfl, p, _, dx, _, _, rfl, hP, c_Pair Z, na_Pair_greater Z, pf_g _ _ _, _, rfl, p, _, dx, _, _, rfl, hP, c_Pair Z, na_Pair_lesser Z, pf_l _ _ _, _, rfl, _, _, rfl, rfl, _, _, rfl, rfl, sf.cmul s1 (by decide) (by decide) (by decide), _, rfl, p, _, dx, _, _, rfl, hP, c_Pair Z, na_Pair_shift Z, pf_s _ _ _, _, _, rfl, rfl, _, _, rfl, _, _, rfl, hq⟩
    · rw [if_neg s0] at hq
      exact hq
def sp_Pair_least (K : Frag) : Sp := fun vs H Q E => ∃ (p : Addr) (bb : Bool) (f : N3) (c : N3), vs = [.ref p] ∧ PrAt K H p bb f c ∧ f.ok ∧ c.ok ∧ Sz 500 f.e ∧ Sz 500 c.e ∧ Q (.int (leN f c)) H
theorem ok_Pair_least (Z : Zs cks fns K mg) : FnOk PP w K mg base (L2.CX PP w) 1 (ma K (ga K "Pair") "least") (fdAt K (ma K (ga K "Pair") "least")) ["self"] (sp_Pair_least K) := by
  refine L2.Fun.okX (u_Pair_least Z) sc_Pair_least (fun vs H Q E h => ?_) (fun cdv A outer s H vs Q E hr h => ?_)
  · obtain ⟨_, _, _, _, rfl, _⟩ := h
    rfl
  · obtain ⟨p, bb, f, c, rfl, ⟨⟨dx, hP⟩, of, oc, sf, sc, hq⟩⟩ := h
    refine ⟨_, (pss_one (ps_ret (pe_op op_sub (pe_fld (pv 0) rfl) (pe_op op_mulW (pe_op op_fdivW (pe_op op_sub (pe_op op_add (pe_fld (pv 0) rfl) (pe_fld (pv 0) rfl)) pe_int) (pe_fld (pv 0) rfl)) (pe_fld (pv 0) rfl))))), ?_⟩
    have f1 := of.1
    have c1 := oc.1
    have sh := sh_in (c := c) of
    have s1 : Sz 502 ((c.e + shN f c - 1) / f.e) := Sz.le (Int.ediv_nonneg (by omega) (by omega)) (Int.le_trans (Int.ediv_le_self _ (by omega)) (show c.e + shN f c - 1 ≤ c.e + f.e by omega)) ((sc.add sf).mono (by decide))
    exact ⟨_, rfl, p, _, dx, _, _, rfl, hP, c_Pair Z, na_Pair_most Z, pf_m _ _ _, _, rfl, p, _, dx, _, _, rfl, hP, c_Pair Z, na_Pair_greater Z, pf_g _ _ _, _, rfl, p, _, dx, _, _, rfl, hP, c_Pair Z, na_Pair_shift Z, pf_s _ _ _, _, _, rfl, rfl, _, _, rfl, rfl, _, rfl, p, _, dx, _, _, rfl, hP, c_Pair Z, na_Pair_lesser Z, pf_l _ _ _, _, _, rfl, rfl, sf.div (by omega) (by decide) (by decide), _, rfl, p, _, dx, _, _, rfl, hP, c_Pair Z, na_Pair_lesser Z, pf_l _ _ _, _, _, rfl, rfl, s1.cmul sf (by decide) (by decide) (by decide), _, _, rfl, rfl, hq⟩
def sp_first_within (K : Frag) : Sp := fun vs H Q E => ∃ (fi : Int) (m : Int) (md : Int) (t : Int), vs = [.int fi, .int m, .int md, .int t] ∧ 0 < md ∧ Q (optV (fwN fi m md t)) H
theorem ok_first_within (Z : Zs cks fns K mg) : FnOk PP w K mg base (L2.CX PP w) 1 (ga K "first_within") (fdAt K (ga K "first_within")) ["first", "many", "modulus", "time"] (sp_first_within K) := by
  refine L2.Fun.okX (u_first_within Z) sc_first_within (fun vs H Q E h => ?_) (fun cdv A outer s H vs Q E hr h => ?_)
  · obtain ⟨_, _, _, _, rfl, _⟩ := h
    rfl
  · obtain ⟨fi, m, md, t, rfl, ⟨hm, hq⟩⟩ := h
    refine ⟨_, (pss_cons (ps_if (pt_cmpR op_eq (pv 1) pe_int (nomark _))
        (pss_one (ps_ret pe_non))
        pss_nil)
      (pss_cons (ps_set (i := 4) sc_first_within.nd rfl (Or.inl rfl) (pe_op op_mod (pe_op op_sub (pv 3) (pv 0)) (pv 2)))
      (pss_one (ps_ret (pe_ifExp (pt_cmpR op_lt (pv 4) (pv 1) (nomark _)) (pv 3) (pe_op op_sub (pe_op op_add (pv 3) (pv 2)) (pv 4))))))), ?_⟩
    unfold fwN at hq
    refine ⟨_, rfl, rfl, _, rfl, ifD (fun c => ?_) (fun c => ?_)⟩
    · rw [if_pos (V.int.inj c)] at hq
      exact hq
    · rw [if_neg (fun z => c (congrArg V.int z))] at hq
      refine ⟨_, rfl, _, rfl, _, _, rfl, rfl, _, rfl, _, _, rfl, rfl, hm, ?_⟩
      refine ⟨_, rfl, _, rfl, _, _, rfl, rfl, _, rfl, ifD (fun d => ?_) (fun d => ?_)⟩
      · rw [if_pos d] at hq
        exact ⟨_, rfl, hq⟩
      · rw [if_neg d] at hq
        exact ⟨_, rfl, _, rfl, _, _, rfl, rfl, _, rfl, _, _, rfl, rfl, hq⟩
end
section
variable {w : World} {K : Frag} {mg : Str → Option Value} {base : Heap}
def sp_Pair_first_from (K : Frag) : Sp := fun vs H Q E => ∃ (p : Addr) (bb : Bool) (f : N3) (c : N3) (v : Int) (t : Int), vs = [.ref p, .int v, .int t] ∧ PrAt K H p bb f c ∧ f.ok ∧ c.ok ∧ Sz 500 f.e ∧ Sz 600 (moN f c) ∧ Sz 600 v ∧ Q (optV (ffN f c v t)) H
theorem ok_Pair_first_from (Z : Zs cks fns K mg) : FnOk PP w K mg base (L2.CX PP w) 2 (ma K (ga K "Pair") "first_from") (fdAt K (ma K (ga K "Pair") "first_from")) ["self", "value", "time"] (sp_Pair_first_from K) := by
  refine L2.Fun.okX (u_Pair_first_from Z) sc_Pair_first_from (fun vs H Q E h => ?_) (fun cdv A outer s H vs Q E hr h => ?_)
  · obtain ⟨_, _, _, _, _, _, rfl, _⟩ := h
    rfl
  · obtain ⟨p, bb, f, c, v, t, rfl, ⟨hPr, of, oc, sf, sm, sv, hq⟩⟩ := h
    refine ⟨_, (pss_cons (ps_set (i := 3) sc_Pair_first_from.nd rfl (Or.inl rfl) (pe_meth (pv 0) (c_Pair Z) (hm_Pair_count_from Z) (ok_Pair_count_from Z) (hr.mono (by decide)) (b_Pair_count_from Z) .nil passL (pa_cons (pv 1) pa_nil)))
      (pss_one (ps_ret (pe_call (ok_first_within Z) (hr.mono (by decide)) rfl (g_first_within Z) (u_first_within Z).kp (b_first_within Z) .nil passL (pa_cons (pe_op op_add (pe_op op_sub (pe_fld (pv 0) rfl) (pv 3)) pe_int) (pa_cons (pv 3) (pa_cons (pe_fld (pv 0) rfl) (pa_cons (pv 2) pa_nil)))))))), ?_⟩
    obtain ⟨dx, hP⟩ := id hPr
    have c1 := oc.1
    refine ⟨_, rfl, p, dx, _, rfl, hP, pf_no _ _ _, _, rfl, ⟨p, bb, f, c, v, rfl, hPr, of, sf, sm, sv, ?_⟩⟩
    exact ⟨_, rfl, p, _, dx, _, _, rfl, hP, c_Pair Z, na_Pair_anchor Z, pf_a _ _ _, _, rfl, _, _, rfl, rfl, _, _, rfl, rfl, _, rfl, _, rfl, p, _, dx, _, _, rfl, hP, c_Pair Z, na_Pair_greater Z, pf_g _ _ _, _, rfl, ⟨_, _, _, _, rfl, by omega, hq⟩⟩
def sp_Pair_first_below (K : Frag) : Sp := fun vs H Q E => ∃ (p : Addr) (bb : Bool) (f : N3) (c : N3) (v : Int) (t : Int), vs = [.ref p, .int v, .int t] ∧ PrAt K H p bb f c ∧ f.ok ∧ c.ok ∧ Sz 500 f.e ∧ Sz 600 (moN f c) ∧ Sz 600 v ∧ Q (optV (fbN f c v t)) H
theorem ok_Pair_first_below (Z : Zs cks fns K mg) : FnOk PP w K mg base (L2.CX PP w) 2 (ma K (ga K "Pair") "first_below") (fdAt K (ma K (ga K "Pair") "first_below")) ["self", "value", "time"] (sp_Pair_first_below K) := by
  refine L2.Fun.okX (u_Pair_first_below Z) sc_Pair_first_below (fun vs H Q E h => ?_) (fun cdv A outer s H vs Q E hr h => ?_)
  · obtain ⟨_, _, _, _, _, _, rfl, _⟩ := h
    rfl
  · obtain ⟨p, bb, f, c, v, t, rfl, ⟨hPr, of, oc, sf, sm, sv, hq⟩⟩ := h
    refine ⟨_, (pss_one (ps_ret (pe_call (ok_first_within Z) (hr.mono (by decide)) rfl (g_first_within Z) (u_first_within Z).kp (b_first_within Z) .nil passL (pa_cons (pe_op op_add (pe_fld (pv 0) rfl) pe_int) (pa_cons (pe_op op_sub (pe_fld (pv 0) rfl) (pe_meth (pv 0) (c_Pair Z) (hm_Pair_count_from Z) (ok_Pair_count_from Z) (hr.mono (by decide)) (b_Pair_count_from Z) .nil passL (pa_cons (pv 1) pa_nil))) (pa_cons (pe_fld (pv 0) rfl) (pa_cons (pv 2) pa_nil))))))), ?_⟩
    obtain ⟨dx, hP⟩ := id hPr
    have c1 := oc.1
    exact ⟨_, rfl, p, _, dx, _, _, rfl, hP, c_Pair Z, na_Pair_anchor Z, pf_a _ _ _, _, _, rfl, rfl, _, rfl, p, _, dx, _, _, rfl, hP, c_Pair Z, na_Pair_greater Z, pf_g _ _ _, _, rfl, p, dx, _, rfl, hP, pf_no _ _ _, _, rfl, ⟨p, bb, f, c, v, rfl, hPr, of, sf, sm, sv, _, _, rfl, rfl, _, rfl, p, _, dx, _, _, rfl, hP, c_Pair Z, na_Pair_greater Z, pf_g _ _ _, _, rfl, ⟨_, _, _, _, rfl, by omega, hq⟩⟩⟩
end
section
variable {w : World} {K : Frag} {mg : Str → Option Value} {base : Heap}
def sp_differences (K : Frag) : Sp := fun vs H Q E => ∃ (a : Addr) (k : LK) (x : N3) (b : Addr) (j : LK) (y : N3), vs = [.ref a, .ref b] ∧ LnAt K H a k x ∧ LnAt K H b j y ∧ x.ok ∧ y.ok ∧ (x.e ∣ y.e ∨ y.e ∣ x.e) ∧ Sz 500 x.e ∧ Sz 500 y.e ∧ Sz 500 x.r ∧ Sz 500 y.r ∧ ∀ (r : Addr) (H' : Hp), Same H H' → H' r = some (.tup [.int (diN x y).1, .int (diN x y).2.1, .int (diN x y).2.2]) → Q (.ref r) H'
theorem ok_differences (Z : Zs cks fns K mg) : FnOk PP w K mg base (L2.CX PP w) 5 (ga K "differences") (fdAt K (ga K "differences")) ["one", "other"] (sp_differences K) := by
  refine L2.Fun.okX (u_differences Z) sc_differences (fun vs H Q E h => ?_) (fun cdv A outer s H vs Q E hr h => ?_)
  · obtain ⟨_, _, _, _, _, _, rfl, _⟩ := h
    rfl
  · obtain ⟨a, k, x, b, j, y, rfl, ⟨La, Lb, ox, oy, hd, sx, sy, srx, sry, hq⟩⟩ := h
    refine ⟨_, (pss_cons (ps_set (i := 2) sc_differences.nd rfl (Or.inl rfl) (pe_make (M_Pair Z) (ok_Pair_init Z) (hr.mono (by decide)) rfl (g_Pair Z) (b_Pair_init Z) .nil passL (pa_cons (pv 0) (pa_cons (pv 1) pa_nil))))
      (pss_cons (ps_par (i := 3) (j := 4) rfl sc_differences.nd rfl rfl (by decide) rfl rfl (pa_cons (pe_meth0 (pv 2) (c_Pair Z) (hm_Pair_least Z) (ok_Pair_least Z) (hr.mono (by decide)) (b_Pair_least Z) .nil passL) (pa_cons (pe_fld (pv 2) rfl) pa_nil)) rfl)
      (pss_cons (ps_set (i := 5) sc_differences.nd rfl (Or.inl rfl) (pe_ifExp (pt_cmpR op_lt (pv 3) (pv 4) (nomark _)) (pe_fld (pv 2) rfl) pe_int))
      (pss_one (ps_ret (pe_ifExp (pt_val (pe_fld (pv 2) rfl)) (pe_tup (pa_cons (pv 3) (pa_cons (pv 4) (pa_cons (pv 5) pa_nil)))) (pe_tup (pa_cons (pe_op op_sub pe_int (pv 4)) (pa_cons (pe_op op_sub pe_int (pv 3)) (pa_cons (pv 5) pa_nil)))))))))), ?_⟩
    obtain ⟨of, oc, hfc⟩ := fc_fit ox oy hd
    have sf : Sz 500 (fiN x y).e := by unfold fiN; split <;> assumption
    have sc : Sz 500 (coN x y).e := by unfold coN; split <;> assumption
    have sfr : Sz 500 (fiN x y).r := by unfold fiN; split <;> assumption
    have scr : Sz 500 (coN x y).r := by unfold coN; split <;> assumption
    have sh := sh_in (c := coN x y) of
    have ssh : Sz 500 (shN (fiN x y) (coN x y)) := Sz.le sh.1 (Int.le_of_lt sh.2) sf
    have sm : Sz 600 (moN (fiN x y) (coN x y)) := ((sfr.sub scr).add (ssh.mono (by decide))).mono (by decide)
    have dl := dlt_le of oc hfc (coN x y).a
    refine ⟨_, rfl, _, rfl, fun p dx hp hdx hne => ?_⟩
    refine ⟨p, dx, a, k, x, b, j, y, rfl, upd_same, (La.same (Same.new hdx)).same (Same.new (o := .ins (ga K "Pair") dx []) (by rw [upd_ne hne.symm]; exact hp)), (Lb.same (Same.new hdx)).same (Same.new (o := .ins (ga K "Pair") dx []) (by rw [upd_ne hne.symm]; exact hp)), ox, oy, hfc, fun H1 keep hP => ⟨rfl, ?_⟩⟩
    have s1 : Same H H1 := fun q o e => keep q o (fun z => by rw [z, hp] at e; cases e) (by rw [upd_ne (fun z => by rw [z, hp] at e; cases e), upd_ne (fun z => by rw [z, hdx] at e; cases e)]; exact e)
    have hPr : PrAt K H1 p (decide (x.e ≤ y.e)) (fiN x y) (coN x y) := ⟨dx, hP⟩
    
    refine ⟨_, rfl, p, dx, _, rfl, hP, pf_no _ _ _, ⟨p, _, _, _, rfl, hPr, of, oc, sf, sc, _, rfl, p, _, dx, _, _, rfl, hP, c_Pair Z, na_Pair_most Z, pf_m _ _ _, _, _, rfl, ?_⟩⟩
    unfold diN at hq
    apply share2 (fun (s : Int) (H2 : Hp) => s = (if leN (fiN x y) (coN x y) < moN (fiN x y) (coN x y) then (fiN x y).e else 0) ∧ H2 = H1)
    · intro rest
      refine ⟨_, rfl, _, rfl, _, _, rfl, rfl, _, rfl, ifD (fun c => ?_) (fun c => ?_)⟩
      · refine ⟨_, rfl, p, _, dx, _, _, rfl, hP, c_Pair Z, na_Pair_lesser Z, pf_l _ _ _, ?_⟩
        obtain ⟨w, hw⟩ : ∃ w, w = (fiN x y).e := ⟨_, rfl⟩
        rw [← hw]
        exact rest w H1 ⟨by rw [if_pos c, hw], rfl⟩
      · exact rest 0 H1 ⟨by rw [if_neg c], rfl⟩
    rintro s H2 ⟨hs, rfl⟩
    by_cases c : x.e ≤ y.e
    · have ef : fiN x y = x := if_pos c
      have ec : coN x y = y := if_pos c
      rw [if_pos c] at hq
      simp only [ef, ec] at of oc hfc sf sc sfr scr sh ssh sm dl hPr hP hs ⊢
      rw [decide_eq_true c] at hP
      refine ⟨_, rfl, p, _, dx, _, _, rfl, hP, c_Pair Z, na_Pair_is_finer Z, pf_b _ _ _, _, rfl, iteT ?_⟩
      refine ⟨_, rfl, _, rfl, _, rfl, (by show 3 ≤ sizeLine; decide), fun r hr3 => hq r _ (s1.trans (Same.new hr3)) ?_⟩
      rw [hs]
      exact upd_same
    · have ef : fiN x y = y := if_neg c
      have ec : coN x y = x := if_neg c
      rw [if_neg c] at hq
      simp only [ef, ec] at of oc hfc sf sc sfr scr sh ssh sm dl hPr hP hs ⊢
      rw [decide_eq_false c] at hP
      refine ⟨_, rfl, p, _, dx, _, _, rfl, hP, c_Pair Z, na_Pair_is_finer Z, pf_b _ _ _, _, rfl, iteF ?_⟩
      refine ⟨_, rfl, _, _, rfl, rfl, _, rfl, _, _, rfl, rfl, _, rfl, (by show 3 ≤ sizeLine; decide), fun r hr3 => hq r _ (s1.trans (Same.new hr3)) ?_⟩
      rw [hs]
      exact upd_same
def sp_worst_start (K : Frag) : Sp := fun vs H Q E => ∃ (a : Addr) (k : LK) (x : N3) (b : Addr) (j : LK) (y : N3), vs = [.ref a, .ref b] ∧ LnAt K H a k x ∧ LnAt K H b j y ∧ x.ok ∧ y.ok ∧ (x.e ∣ y.e ∨ y.e ∣ x.e) ∧ Sz 500 x.e ∧ Sz 500 y.e ∧ Sz 500 x.r ∧ Sz 500 y.r ∧ ∀ (H' : Hp), Same H H' → Q (optV (wsN x y)) H'
theorem ok_worst_start (Z : Zs cks fns K mg) : FnOk PP w K mg base (L2.CX PP w) 5 (ga K "worst_start") (fdAt K (ga K "worst_start")) ["one", "other"] (sp_worst_start K) := by
  refine L2.Fun.okX (u_worst_start Z) sc_worst_start (fun vs H Q E h => ?_) (fun cdv A outer s H vs Q E hr h => ?_)
  · obtain ⟨_, _, _, _, _, _, rfl, _⟩ := h
    rfl
  · obtain ⟨a, k, x, b, j, y, rfl, ⟨La, Lb, ox, oy, hd, sx, sy, srx, sry, hq⟩⟩ := h
    refine ⟨_, (pss_cons (ps_set (i := 2) sc_worst_start.nd rfl (Or.inl rfl) (pe_make (M_Pair Z) (ok_Pair_init Z) (hr.mono (by decide)) rfl (g_Pair Z) (b_Pair_init Z) .nil passL (pa_cons (pv 0) (pa_cons (pv 1) pa_nil))))
      (pss_one (ps_ret (pe_ifExp (pt_val (pe_fld (pv 2) rfl)) (pe_meth (pv 2) (c_Pair Z) (hm_Pair_first_from Z) (ok_Pair_first_from Z) (hr.mono (by decide)) (b_Pair_first_from Z) .nil passL (pa_cons (pe_fld (pv 2) rfl) (pa_cons pe_int pa_nil))) (pe_meth (pv 2) (c_Pair Z) (hm_Pair_first_below Z) (ok_Pair_first_below Z) (hr.mono (by decide)) (b_Pair_first_below Z) .nil passL (pa_cons (pe_op op_add (pe_meth0 (pv 2) (c_Pair Z) (hm_Pair_least Z) (ok_Pair_least Z) (hr.mono (by decide)) (b_Pair_least Z) .nil passL) pe_int) (pa_cons pe_int pa_nil))))))), ?_⟩
    obtain ⟨of, oc, hfc⟩ := fc_fit ox oy hd
    have sf : Sz 500 (fiN x y).e := by unfold fiN; split <;> assumption
    have sc : Sz 500 (coN x y).e := by unfold coN; split <;> assumption
    have sfr : Sz 500 (fiN x y).r := by unfold fiN; split <;> assumption
    have scr : Sz 500 (coN x y).r := by unfold coN; split <;> assumption
    have sh := sh_in (c := coN x y) of
    have ssh : Sz 500 (shN (fiN x y) (coN x y)) := Sz.le sh.1 (Int.le_of_lt sh.2) sf
    have sm : Sz 600 (moN (fiN x y) (coN x y)) := ((sfr.sub scr).add (ssh.mono (by decide))).mono (by decide)
    have dl := dlt_le of oc hfc (coN x y).a
    refine ⟨_, rfl, _, rfl, fun p dx hp hdx hne => ?_⟩
    refine ⟨p, dx, a, k, x, b, j, y, rfl, upd_same, (La.same (Same.new hdx)).same (Same.new (o := .ins (ga K "Pair") dx []) (by rw [upd_ne hne.symm]; exact hp)), (Lb.same (Same.new hdx)).same (Same.new (o := .ins (ga K "Pair") dx []) (by rw [upd_ne hne.symm]; exact hp)), ox, oy, hfc, fun H1 keep hP => ⟨rfl, ?_⟩⟩
    have s1 : Same H H1 := fun q o e => keep q o (fun z => by rw [z, hp] at e; cases e) (by rw [upd_ne (fun z => by rw [z, hp] at e; cases e), upd_ne (fun z => by rw [z, hdx] at e; cases e)]; exact e)
    have hPr : PrAt K H1 p (decide (x.e ≤ y.e)) (fiN x y) (coN x y) := ⟨dx, hP⟩
    
    unfold wsN at hq
    by_cases c : x.e ≤ y.e
    · have ef : fiN x y = x := if_pos c
      have ec : coN x y = y := if_pos c
      rw [if_pos c] at hq
      simp only [ef, ec] at of oc hfc sf sc sfr scr sh ssh sm dl hPr hP ⊢
      rw [decide_eq_true c] at hP hPr
      refine ⟨_, rfl, p, _, dx, _, _, rfl, hP, c_Pair Z, na_Pair_is_finer Z, pf_b _ _ _, _, rfl, iteT ?_⟩
      exact ⟨_, rfl, p, dx, _, rfl, hP, pf_no _ _ _, _, rfl, p, _, dx, _, _, rfl, hP, c_Pair Z, na_Pair_most Z, pf_m _ _ _, ⟨p, _, _, _, _, _, rfl, hPr, of, oc, sf, sm, sm, hq _ s1⟩⟩
    · have ef : fiN x y = y := if_neg c
      have ec : coN x y = x := if_neg c
      rw [if_neg c] at hq
      simp only [ef, ec] at of oc hfc sf sc sfr scr sh ssh sm dl hPr hP ⊢
      rw [decide_eq_false c] at hP hPr
      have sl : Sz 600 (leN y x + 1) := by
        have f1 := of.1
        have c1 := oc.1
        have e1 := Int.emod_add_mul_ediv (x.e + shN y x - 1) y.e
        have e2 := Int.emod_nonneg (x.e + shN y x - 1) (show y.e ≠ 0 by omega)
        have e3 : 0 ≤ y.e * ((x.e + shN y x - 1) / y.e) := Int.mul_nonneg (by omega) (Int.ediv_nonneg (by omega) (by omega))
        have s3 : Sz 502 ((x.e + shN y x - 1) / y.e * y.e) := Sz.le (by rw [Int.mul_comm]; exact e3) (show _ ≤ x.e + y.e by rw [Int.mul_comm]; omega) ((sc.add sf).mono (by decide))
        have s4 : Sz 503 (moN y x) := ((sfr.sub scr).add (ssh.mono (by decide))).mono (by decide)
        exact (((s4.sub (s3.mono (by decide))).add (j := 1) (Sz.of (by decide +kernel) (by decide +kernel)))).mono (by decide)
      refine ⟨_, rfl, p, _, dx, _, _, rfl, hP, c_Pair Z, na_Pair_is_finer Z, pf_b _ _ _, _, rfl, iteF ?_⟩
      exact ⟨_, rfl, p, dx, _, rfl, hP, pf_no _ _ _, _, rfl, p, dx, _, rfl, hP, pf_no _ _ _, ⟨p, _, _, _, rfl, hPr, of, oc, sf, sc, _, _, rfl, rfl, ⟨p, _, _, _, _, _, rfl, hPr, of, oc, sf, sm, sl, hq _ s1⟩⟩⟩
end
section
variable {w : World} {K : Frag} {mg : Str → Option Value} {base : Heap}
def sp_count_starts (K : Frag) : Sp := fun vs H Q E => ∃ (a : Addr) (k : LK) (x : N3) (b : Addr) (j : LK) (y : N3), vs = [.ref a, .ref b] ∧ LnAt K H a k x ∧ LnAt K H b j y ∧ x.ok ∧ y.ok ∧ (x.e ∣ y.e ∨ y.e ∣ x.e) ∧ Sz 500 x.e ∧ Sz 500 y.e ∧ Sz 500 x.r ∧ Sz 500 y.r ∧ ∀ (r : Addr) (H' : Hp), Same H H' → H' r = some (.tup [.int (csN x y).1, .int (csN x y).2.1, .int (csN x y).2.2]) → Q (.ref r) H'
theorem ok_count_starts (Z : Zs cks fns K mg) : FnOk PP w K mg base (L2.CX PP w) 5 (ga K "count_starts") (fdAt K (ga K "count_starts")) ["one", "other"] (sp_count_starts K) := by
  refine L2.Fun.okX (u_count_starts Z) sc_count_starts (fun vs H Q E h => ?_) (fun cdv A outer s H vs Q E hr h => ?_)
  · obtain ⟨_, _, _, _, _, _, rfl, _⟩ := h
    rfl
  · obtain ⟨a, k, x, b, j, y, rfl, ⟨La, Lb, ox, oy, hd, sx, sy, srx, sry, hq⟩⟩ := h
    refine ⟨_, (pss_cons (ps_set (i := 2) sc_count_starts.nd rfl (Or.inl rfl) (pe_make (M_Pair Z) (ok_Pair_init Z) (hr.mono (by decide)) rfl (g_Pair Z) (b_Pair_init Z) .nil passL (pa_cons (pv 0) (pa_cons (pv 1) pa_nil))))
      (pss_cons (ps_par (i := 3) (j := 4) rfl sc_count_starts.nd rfl rfl (by decide) rfl rfl (pa_cons (pe_meth (pv 2) (c_Pair Z) (hm_Pair_count_from Z) (ok_Pair_count_from Z) (hr.mono (by decide)) (b_Pair_count_from Z) .nil passL (pa_cons pe_int pa_nil)) (pa_cons (pe_meth (pv 2) (c_Pair Z) (hm_Pair_count_from Z) (ok_Pair_count_from Z) (hr.mono (by decide)) (b_Pair_count_from Z) .nil passL (pa_cons pe_int pa_nil)) pa_nil)) rfl)
      (pss_cons (ps_par (i := 5) (j := 6) rfl sc_count_starts.nd rfl rfl (by decide) rfl rfl (pa_cons (pe_op op_sub (pe_fld (pv 2) rfl) (pv 4)) (pa_cons (pe_op op_sub (pv 4) (pv 3)) pa_nil)) rfl)
      (pss_one (ps_ret (pe_ifExp (pt_val (pe_fld (pv 2) rfl)) (pe_tup (pa_cons (pv 5) (pa_cons (pv 6) (pa_cons (pv 3) pa_nil)))) (pe_tup (pa_cons (pv 3) (pa_cons (pv 6) (pa_cons (pv 5) pa_nil)))))))))), ?_⟩
    obtain ⟨of, oc, hfc⟩ := fc_fit ox oy hd
    have sf : Sz 500 (fiN x y).e := by unfold fiN; split <;> assumption
    have sc : Sz 500 (coN x y).e := by unfold coN; split <;> assumption
    have sfr : Sz 500 (fiN x y).r := by unfold fiN; split <;> assumption
    have scr : Sz 500 (coN x y).r := by unfold coN; split <;> assumption
    have sh := sh_in (c := coN x y) of
    have ssh : Sz 500 (shN (fiN x y) (coN x y)) := Sz.le sh.1 (Int.le_of_lt sh.2) sf
    have sm : Sz 600 (moN (fiN x y) (coN x y)) := ((sfr.sub scr).add (ssh.mono (by decide))).mono (by decide)
    have dl := dlt_le of oc hfc (coN x y).a
    refine ⟨_, rfl, _, rfl, fun p dx hp hdx hne => ?_⟩
    refine ⟨p, dx, a, k, x, b, j, y, rfl, upd_same, (La.same (Same.new hdx)).same (Same.new (o := .ins (ga K "Pair") dx []) (by rw [upd_ne hne.symm]; exact hp)), (Lb.same (Same.new hdx)).same (Same.new (o := .ins (ga K "Pair") dx []) (by rw [upd_ne hne.symm]; exact hp)), ox, oy, hfc, fun H1 keep hP => ⟨rfl, ?_⟩⟩
    have s1 : Same H H1 := fun q o e => keep q o (fun z => by rw [z, hp] at e; cases e) (by rw [upd_ne (fun z => by rw [z, hp] at e; cases e), upd_ne (fun z => by rw [z, hdx] at e; cases e)]; exact e)
    have hPr : PrAt K H1 p (decide (x.e ≤ y.e)) (fiN x y) (coN x y) := ⟨dx, hP⟩
    
    refine ⟨_, rfl, p, dx, _, rfl, hP, pf_no _ _ _, ⟨p, _, _, _, 1, rfl, hPr, of, sf, sm, (Sz.of (by decide +kernel) (by decide +kernel)), _, rfl, p, dx, _, rfl, hP, pf_no _ _ _, ⟨p, _, _, _, 0, rfl, hPr, of, sf, sm, (Sz.of (by decide +kernel) (by decide +kernel)), _, _, rfl, ?_⟩⟩⟩
    refine ⟨_, rfl, p, _, dx, _, _, rfl, hP, c_Pair Z, na_Pair_greater Z, pf_g _ _ _, _, rfl, _, _, rfl, rfl, _, rfl, _, rfl, _, _, rfl, rfl, _, _, rfl, ?_⟩
    unfold csN at hq
    by_cases c : x.e ≤ y.e
    · have ef : fiN x y = x := if_pos c
      have ec : coN x y = y := if_pos c
      rw [if_pos c] at hq
      simp only [ef, ec] at of oc hfc sf sc sfr scr sh ssh sm dl hPr hP ⊢
      rw [decide_eq_true c] at hP
      refine ⟨_, rfl, p, _, dx, _, _, rfl, hP, c_Pair Z, na_Pair_is_finer Z, pf_b _ _ _, _, rfl, iteT ?_⟩
      exact ⟨_, rfl, _, rfl, _, rfl, (by show 3 ≤ sizeLine; decide), fun r hr3 => hq r _ (s1.trans (Same.new hr3)) upd_same⟩
    · have ef : fiN x y = y := if_neg c
      have ec : coN x y = x := if_neg c
      rw [if_neg c] at hq
      simp only [ef, ec] at of oc hfc sf sc sfr scr sh ssh sm dl hPr hP ⊢
      rw [decide_eq_false c] at hP
      refine ⟨_, rfl, p, _, dx, _, _, rfl, hP, c_Pair Z, na_Pair_is_finer Z, pf_b _ _ _, _, rfl, iteF ?_⟩
      exact ⟨_, rfl, _, rfl, _, rfl, (by show 3 ≤ sizeLine; decide), fun r hr3 => hq r _ (s1.trans (Same.new hr3)) upd_same⟩
def sp_first_earlier (K : Frag) : Sp := fun vs H Q E => ∃ (a : Addr) (k : LK) (x : N3) (b : Addr) (j : LK) (y : N3) (t : Int), vs = [.ref a, .ref b, .int t] ∧ LnAt K H a k x ∧ LnAt K H b j y ∧ x.ok ∧ y.ok ∧ (x.e ∣ y.e ∨ y.e ∣ x.e) ∧ Sz 500 x.e ∧ Sz 500 y.e ∧ Sz 500 x.r ∧ Sz 500 y.r ∧ ∀ (H' : Hp), Same H H' → Q (optV (feN x y t)) H'
theorem ok_first_earlier (Z : Zs cks fns K mg) : FnOk PP w K mg base (L2.CX PP w) 5 (ga K "first_earlier") (fdAt K (ga K "first_earlier")) ["one", "other", "time"] (sp_first_earlier K) := by
  refine L2.Fun.okX (u_first_earlier Z) sc_first_earlier (fun vs H Q E h => ?_) (fun cdv A outer s H vs Q E hr h => ?_)
  · obtain ⟨_, _, _, _, _, _, _, rfl, _⟩ := h
    rfl
  · obtain ⟨a, k, x, b, j, y, t, rfl, ⟨La, Lb, ox, oy, hd, sx, sy, srx, sry, hq⟩⟩ := h
    refine ⟨_, (pss_cons (ps_set (i := 3) sc_first_earlier.nd rfl (Or.inl rfl) (pe_make (M_Pair Z) (ok_Pair_init Z) (hr.mono (by decide)) rfl (g_Pair Z) (b_Pair_init Z) .nil passL (pa_cons (pv 0) (pa_cons (pv 1) pa_nil))))
      (pss_one (ps_ret (pe_ifExp (pt_val (pe_fld (pv 3) rfl)) (pe_meth (pv 3) (c_Pair Z) (hm_Pair_first_below Z) (ok_Pair_first_below Z) (hr.mono (by decide)) (b_Pair_first_below Z) .nil passL (pa_cons pe_int (pa_cons (pv 2) pa_nil))) (pe_meth (pv 3) (c_Pair Z) (hm_Pair_first_from Z) (ok_Pair_first_from Z) (hr.mono (by decide)) (b_Pair_first_from Z) .nil passL (pa_cons pe_int (pa_cons (pv 2) pa_nil))))))), ?_⟩
    obtain ⟨of, oc, hfc⟩ := fc_fit ox oy hd
    have sf : Sz 500 (fiN x y).e := by unfold fiN; split <;> assumption
    have sc : Sz 500 (coN x y).e := by unfold coN; split <;> assumption
    have sfr : Sz 500 (fiN x y).r := by unfold fiN; split <;> assumption
    have scr : Sz 500 (coN x y).r := by unfold coN; split <;> assumption
    have sh := sh_in (c := coN x y) of
    have ssh : Sz 500 (shN (fiN x y) (coN x y)) := Sz.le sh.1 (Int.le_of_lt sh.2) sf
    have sm : Sz 600 (moN (fiN x y) (coN x y)) := ((sfr.sub scr).add (ssh.mono (by decide))).mono (by decide)
    have dl := dlt_le of oc hfc (coN x y).a
    refine ⟨_, rfl, _, rfl, fun p dx hp hdx hne => ?_⟩
    refine ⟨p, dx, a, k, x, b, j, y, rfl, upd_same, (La.same (Same.new hdx)).same (Same.new (o := .ins (ga K "Pair") dx []) (by rw [upd_ne hne.symm]; exact hp)), (Lb.same (Same.new hdx)).same (Same.new (o := .ins (ga K "Pair") dx []) (by rw [upd_ne hne.symm]; exact hp)), ox, oy, hfc, fun H1 keep hP => ⟨rfl, ?_⟩⟩
    have s1 : Same H H1 := fun q o e => keep q o (fun z => by rw [z, hp] at e; cases e) (by rw [upd_ne (fun z => by rw [z, hp] at e; cases e), upd_ne (fun z => by rw [z, hdx] at e; cases e)]; exact e)
    have hPr : PrAt K H1 p (decide (x.e ≤ y.e)) (fiN x y) (coN x y) := ⟨dx, hP⟩
    
    unfold feN at hq
    by_cases c : x.e ≤ y.e
    · have ef : fiN x y = x := if_pos c
      have ec : coN x y = y := if_pos c
      rw [if_pos c] at hq
      simp only [ef, ec] at of oc hfc sf sc sfr scr sh ssh sm dl hPr hP ⊢
      rw [decide_eq_true c] at hP hPr
      refine ⟨_, rfl, p, _, dx, _, _, rfl, hP, c_Pair Z, na_Pair_is_finer Z, pf_b _ _ _, _, rfl, iteT ?_⟩
      exact ⟨_, rfl, p, dx, _, rfl, hP, pf_no _ _ _, _, rfl, ⟨p, _, _, _, 0, _, rfl, hPr, of, oc, sf, sm, (Sz.of (by decide +kernel) (by decide +kernel)), hq _ s1⟩⟩
    · have ef : fiN x y = y := if_neg c
      have ec : coN x y = x := if_neg c
      rw [if_neg c] at hq
      simp only [ef, ec] at of oc hfc sf sc sfr scr sh ssh sm dl hPr hP ⊢
      rw [decide_eq_false c] at hP hPr
      refine ⟨_, rfl, p, _, dx, _, _, rfl, hP, c_Pair Z, na_Pair_is_finer Z, pf_b _ _ _, _, rfl, iteF ?_⟩
      exact ⟨_, rfl, p, dx, _, rfl, hP, pf_no _ _ _, _, rfl, ⟨p, _, _, _, 1, _, rfl, hPr, of, oc, sf, sm, (Sz.of (by decide +kernel) (by decide +kernel)), hq _ s1⟩⟩
end
section
variable {w : World} {K : Frag} {mg : Str → Option Value} {base : Heap}
def ldt (x y : N3) (t : Int) : Int := (x.a - t) % x.e + x.r - (y.a - t) % y.e - y.r
theorem ldt_dlt (x y : N3) (t : Int) : ldt x y t = dlt x y t := rfl
theorem ldt_swap (x y : N3) (t : Int) : ldt x y t = 0 - dlt y x t := by
  unfold ldt dlt
  omega
/-- the least and the greatest difference, for starts of the first line -/
def loN (x y : N3) : Int := if x.e ≤ y.e then leN x y else 0 - moN y x
def hiN (x y : N3) : Int := if x.e ≤ y.e then moN x y else 0 - leN y x
theorem two_sorted {u v : Int} {ns : List Int} (hp : ns.Perm [u, v]) (hs : ns.Pairwise (· ≤ ·)) : ns = if u ≤ v then [u, v] else [v, u] := by
  have hl := hp.length_eq
  match ns, hl with
  | [a, b], _ =>
    have m1 := hp.mem_iff (a := a)
    have m2 := hp.mem_iff (a := b)
    have m3 := hp.mem_iff (a := u)
    have m4 := hp.mem_iff (a := v)
    simp only [List.mem_cons, List.not_mem_nil, or_false] at m1 m2 m3 m4
    have le : a ≤ b := by simpa using hs
    have q1 := m1.mp (.inl trivial)
    have q2 := m2.mp (.inr trivial)
    have q3 := m3.mpr (.inl trivial)
    have q4 := m4.mpr (.inr trivial)
    by_cases c : u ≤ v
    · rw [if_pos c]
      rw [show a = u by omega, show b = v by omega]
    · rw [if_neg c]
      rw [show a = v by omega, show b = u by omega]
theorem fit3 {a b c : Int} (ha : Sz 1000 a) (hb : Sz 1000 b) (hc : Sz 1000 c) : Fit (.tuple [.int a, .int b, .int c]) := by
  refine ⟨?_, ?_, ?_, ?_⟩
  · simp only [PyData.showable, PyData.showableAll, decide_eq_true (ha.log (by decide) (by decide)), decide_eq_true (hb.log (by decide) (by decide)), decide_eq_true (hc.log (by decide) (by decide)), Bool.and_self]
  · simp only [PyData.hasDict, PyData.hasDictAll, Bool.or_self]
  · simp only [PyData.depth, PyData.depthAll]
    decide
  · simp only [wt, wtAll]
    omega
theorem inV_no {x a b : Int} (h1 : x ≠ a) (h2 : x ≠ b) : inV (.int x) [.int a, .int b] = false := by
  unfold inV
  simp [eqV, h1, h2, Ne.symm h1, Ne.symm h2]
/-- what the law asks of the worst start -/
theorem ws_right {x y : N3} (ox : x.ok) (oy : y.ok) (hd : x.e ∣ y.e ∨ y.e ∣ x.e) : ∃ w, wsN x y = some w ∧ 0 ≤ w ∧ w < (coN x y).e ∧ ldt x y w = hiN x y ∧ (0 < w → ldt x y (w - 1) ≠ hiN x y ∧ ldt x y 0 ≠ hiN x y) := by
  obtain ⟨of, oc, hfc⟩ := fc_fit ox oy hd
  unfold wsN hiN fiN coN at *
  by_cases c : x.e ≤ y.e
  · simp only [if_pos c] at *
    rcases ff_is of oc hfc (moN x y) 0 with ⟨_, h⟩ | ⟨s, hs, h1, h2, h3, h4⟩
    · exact absurd (by rw [dlt_top of oc hfc]; exact Int.le_refl _) (h y.a)
    · refine ⟨s, hs, h1, by omega, ?_, fun p => ⟨?_, ?_⟩⟩
      · rw [ldt_dlt]
        have := (dlt_le of oc hfc s).2
        omega
      · rw [ldt_dlt]
        have := h4 (s - 1) (by omega) (by omega)
        omega
      · rw [ldt_dlt]
        have := h4 0 (by omega) p
        omega
  · simp only [if_neg c] at *
    rcases fb_is of oc hfc (leN y x + 1) 0 with ⟨_, h⟩ | ⟨s, hs, h1, h2, h3, h4⟩
    · have := h (x.a + 1)
      rw [dlt_low of oc hfc] at this
      omega
    · refine ⟨s, hs, h1, by omega, ?_, fun p => ⟨?_, ?_⟩⟩
      · rw [ldt_swap]
        have := (dlt_le of oc hfc s).1
        omega
      · rw [ldt_swap]
        have := h4 (s - 1) (by omega) (by omega)
        omega
      · rw [ldt_swap]
        have := h4 0 (by omega) p
        omega
theorem fe_right {x y : N3} (ox : x.ok) (oy : y.ok) (hd : x.e ∣ y.e ∨ y.e ∣ x.e) (t : Int) : feN x y t = none ∨ ∃ s, feN x y t = some s ∧ t ≤ s ∧ s < t + (coN x y).e ∧ ldt x y s < 0 := by
  obtain ⟨of, oc, hfc⟩ := fc_fit ox oy hd
  unfold feN fiN coN at *
  by_cases c : x.e ≤ y.e
  · simp only [if_pos c] at *
    rcases fb_is of oc hfc 0 t with ⟨h, _⟩ | ⟨s, hs, h1, h2, h3, h4⟩
    · exact .inl h
    · exact .inr ⟨s, hs, h1, h2, by rw [ldt_dlt]; exact h3⟩
  · simp only [if_neg c] at *
    rcases ff_is of oc hfc 1 t with ⟨h, _⟩ | ⟨s, hs, h1, h2, h3, h4⟩
    · exact .inl h
    · exact .inr ⟨s, hs, h1, h2, by rw [ldt_swap]; omega⟩
def sp__law_lead (K : Frag) : Sp := fun vs H Q E => ∃ (p : Addr) (x : N3) (q : Addr) (y : N3) (t : Int), vs = [.ref p, .ref q, .int t] ∧ T3 H p x ∧ T3 H q y ∧ x.ok ∧ y.ok ∧ Q (.int (ldt x y t)) H
theorem ok__law_lead (Z : Zs cks fns K mg) : FnOk PP w K mg base (L2.CX PP w) 1 (ga K "_law_lead") (fdAt K (ga K "_law_lead")) ["first", "second", "start"] (sp__law_lead K) := by
  refine L2.Fun.okX (u__law_lead Z) sc__law_lead (fun vs H Q E h => ?_) (fun cdv A outer s H vs Q E hr h => ?_)
  · obtain ⟨_, _, _, _, _, rfl, _⟩ := h
    rfl
  · obtain ⟨p, x, q, y, t, rfl, ⟨hx, hy, ox, oy, hq⟩⟩ := h
    refine ⟨_, (pss_cons (ps_set (i := 3) sc__law_lead.nd rfl (Or.inl rfl) (pe_op op_mod (pe_op op_sub (pe_ix ix_tup (pv 0) pe_int (fun _ _ => rfl)) (pv 2)) (pe_ix ix_tup (pv 0) pe_int (fun _ _ => rfl))))
      (pss_one (ps_ret (pe_op op_sub (pe_op op_sub (pe_op op_add (pv 3) (pe_ix ix_tup (pv 0) pe_int (fun _ _ => rfl))) (pe_op op_mod (pe_op op_sub (pe_ix ix_tup (pv 1) pe_int (fun _ _ => rfl)) (pv 2)) (pe_ix ix_tup (pv 1) pe_int (fun _ _ => rfl)))) (pe_ix ix_tup (pv 1) pe_int (fun _ _ => rfl)))))), ?_⟩
    have x1 := ox.1
    have y1 := oy.1
    refine ⟨_, rfl, p, _, 1, _, rfl, rfl, SqT.of hx, rfl, _, rfl, _, _, rfl, rfl, _, rfl, p, _, 0, _, rfl, rfl, SqT.of hx, at0, _, _, rfl, rfl, (by show 0 < x.e; omega), ?_⟩
    exact ⟨_, rfl, _, rfl, p, _, 2, _, rfl, rfl, SqT.of hx, rfl, _, _, rfl, rfl, _, rfl, q, _, 1, _, rfl, rfl, SqT.of hy, rfl, _, rfl, _, _, rfl, rfl, _, rfl, q, _, 0, _, rfl, rfl, SqT.of hy, at0, _, _, rfl, rfl, (by show 0 < y.e; omega), _, _, rfl, rfl, _, rfl, q, _, 2, _, rfl, rfl, SqT.of hy, rfl, _, _, rfl, rfl, hq⟩
def sp__law_many_from (K : Frag) : Sp := fun vs H Q E => ∃ (p : Addr) (f : N3) (q : Addr) (c : N3) (v : Int), vs = [.ref p, .ref q, .int v] ∧ T3 H p f ∧ T3 H q c ∧ f.ok ∧ c.ok ∧ f.e ∣ c.e ∧ Q (.int (cntN f c v)) H
theorem ok__law_many_from (Z : Zs cks fns K mg) : FnOk PP w K mg base (L2.CX PP w) 2 (ga K "_law_many_from") (fdAt K (ga K "_law_many_from")) ["first", "second", "value"] (sp__law_many_from K) := by
  refine L2.Fun.okX (u__law_many_from Z) sc__law_many_from (fun vs H Q E h => ?_) (fun cdv A outer s H vs Q E hr h => ?_)
  · obtain ⟨_, _, _, _, _, rfl, _⟩ := h
    rfl
  · obtain ⟨p, f, q, c, v, rfl, ⟨hx, hy, of, oc, hd, hq⟩⟩ := h
    refine ⟨_, (pss_cons (ps_par3 (i := 3) (j := 4) (l := 5) rfl sc__law_many_from.nd rfl rfl rfl (by decide) (by decide) (by decide) rfl rfl rfl (pa_cons pe_int (pa_cons (pe_ix ix_tup (pv 1) pe_int (fun _ _ => rfl)) (pa_cons (pe_ix ix_tup (pv 1) pe_int (fun _ _ => rfl)) pa_nil))) rfl)
      (C8.pss_cut (ps_while (passes_of rfl) (pt_cmpR op_lt (pv 3) (pv 4) (nomark _))
        (pss_cons (ps_set (i := 6) sc__law_many_from.nd rfl (Or.inl rfl) (pe_op op_fdivW (pe_op op_add (pv 3) (pv 4)) pe_int))
      (pss_one (ps_if (pt_cmpR op_ge (pe_call (ok__law_lead Z) (hr.mono (by decide)) rfl (g__law_lead Z) (u__law_lead Z).kp (b__law_lead Z) .nil passL (pa_cons (pv 0) (pa_cons (pv 1) (pa_cons (pe_op op_sub (pv 5) (pv 6)) pa_nil)))) (pv 2) (nomark _))
        (pss_one (ps_set (i := 3) sc__law_many_from.nd rfl (Or.inl rfl) (pe_op op_add (pv 6) pe_int)))
        (pss_one (ps_set (i := 4) sc__law_many_from.nd rfl (Or.inl rfl) (pv 6)))))))
      (pss_one (ps_ret (pv 3))))), ?_⟩
    have c1 := oc.1
    have k := cnt_in (f := f) oc v
    refine ⟨_, rfl, q, _, 0, _, rfl, rfl, SqT.of hy, at0, _, rfl, q, _, 1, _, rfl, rfl, SqT.of hy, rfl, _, _, _, rfl, ?_⟩
    refine ⟨fun σ H1 => H1 = H ∧ ∃ z4 z6, σ = [some (.ref p), some (.ref q), some (.int v), some (.int (cntN f c v)), z4, some (.int c.a), z6], ?_, ?_⟩
    · refine ⟨fun n σ H1 => H1 = H ∧ ∃ lo hi z6, n = (hi - lo).toNat ∧ lo ≤ cntN f c v ∧ cntN f c v ≤ hi ∧ 0 ≤ lo ∧ hi ≤ c.e ∧ σ = [some (.ref p), some (.ref q), some (.int v), some (.int lo), some (.int hi), some (.int c.a), z6], ⟨_, rfl, 0, c.e, none, rfl, k.1, k.2, Int.le_refl _, Int.le_refl _, rfl⟩, ?_⟩
      rintro n σ H1 ⟨rfl, lo, hi, z6, rfl, l1, l2, l3, l4, rfl⟩
      refine ⟨_, rfl, _, rfl, _, _, rfl, rfl, _, rfl, ifD (fun d => ?_) (fun d => ?_)⟩
      · refine ⟨_, fun _ _ h => h, ?_⟩
        refine ⟨_, rfl, _, rfl, _, _, rfl, rfl, _, _, rfl, rfl, (Sz.of (b := 10) (by decide) (by decide)).div (by decide) (by decide) (by decide), ?_⟩
        have hh : hN c (c.a - (lo + hi) / 2) = (lo + hi) / 2 := by
          unfold hN
          rw [show c.a - (c.a - (lo + hi) / 2) = (lo + hi) / 2 by omega]
          exact Int.emod_eq_of_lt (by omega) (by omega)
        have key := cnt_h of oc hd v (c.a - (lo + hi) / 2)
        rw [hh] at key
        refine ⟨_, rfl, _, rfl, _, rfl, _, rfl, _, _, rfl, rfl, ⟨p, f, q, c, _, rfl, hx, hy, of, oc, _, rfl, _, _, rfl, rfl, _, rfl, ifD (fun e => ?_) (fun e => ?_)⟩⟩
        · have e' := key.mp e
          exact ⟨_, rfl, _, _, rfl, rfl, (hi - ((lo + hi) / 2 + 1)).toNat, by omega, rfl, _, _, _, rfl, by omega, l2, by omega, l4, rfl⟩
        · have e' := mt key.mpr e
          exact ⟨_, rfl, ((lo + hi) / 2 - lo).toNat, by omega, rfl, _, _, _, rfl, l1, by omega, l3, by omega, rfl⟩
      · have e : lo = cntN f c v := by omega
        subst e
        exact ⟨rfl, _, _, rfl⟩
    rintro σ H1 ⟨rfl, z4, z6, rfl⟩
    exact ⟨_, rfl, hq⟩
def sp__law_early (K : Frag) : Sp := fun vs H Q E => ∃ (t : Addr) (p : Addr) (f : N3) (q : Addr) (c : N3) (b : Bool) (m : Int), vs = [.ref t, .int m] ∧ H t = some (.tup [.ref p, .ref q, .bl b]) ∧ T3 H p f ∧ T3 H q c ∧ f.ok ∧ c.ok ∧ f.e ∣ c.e ∧ Q (optV (if b = true then fbN f c 0 m else ffN f c 1 m)) H
theorem ok__law_early (Z : Zs cks fns K mg) : FnOk PP w K mg base (L2.CX PP w) 3 (ga K "_law_early") (fdAt K (ga K "_law_early")) ["case", "begin"] (sp__law_early K) := by
  refine L2.Fun.okX (u__law_early Z) sc__law_early (fun vs H Q E h => ?_) (fun cdv A outer s H vs Q E hr h => ?_)
  · obtain ⟨_, _, _, _, _, _, _, rfl, _⟩ := h
    rfl
  · obtain ⟨t, p, f, q, c, b, m, rfl, ⟨ht, hx, hy, of, oc, hd, hq⟩⟩ := h
    refine ⟨_, (pss_cons (ps_asg (pv 0) (pg_tup rfl (pgs_cons (pg_name (i := 2) sc__law_early.nd rfl (Or.inl rfl)) (pgs_cons (pg_name (i := 3) sc__law_early.nd rfl (Or.inl rfl)) (pgs_cons (pg_name (i := 4) sc__law_early.nd rfl (Or.inl rfl)) pgs_nil)))))
      (pss_cons (ps_set (i := 5) sc__law_early.nd rfl (Or.inl rfl) (pe_call (ok__law_many_from Z) (hr.mono (by decide)) rfl (g__law_many_from Z) (u__law_many_from Z).kp (b__law_many_from Z) .nil passL (pa_cons (pv 2) (pa_cons (pv 3) (pa_cons (pe_ifExp (pt_val (pv 4)) pe_int pe_int) pa_nil)))))
      (pss_cons (ps_par (i := 6) (j := 7) rfl sc__law_early.nd rfl rfl (by decide) rfl rfl (pa_cons (pe_op op_add (pe_op op_sub (pe_ix ix_tup (pv 3) pe_int (fun _ _ => rfl)) (pv 5)) pe_int) (pa_cons (pv 5) pa_nil)) rfl)
      (C8.pss_cut (ps_if (pt_val (pv 4))
        (pss_one (ps_par (i := 6) (j := 7) rfl sc__law_early.nd rfl rfl (by decide) rfl rfl (pa_cons (pe_op op_add (pe_ix ix_tup (pv 3) pe_int (fun _ _ => rfl)) pe_int) (pa_cons (pe_op op_sub (pe_ix ix_tup (pv 3) pe_int (fun _ _ => rfl)) (pv 5)) pa_nil)) rfl))
        pss_nil)
      (pss_cons (ps_if (pt_cmpR op_eq (pv 7) pe_int (nomark _))
        (pss_one (ps_ret pe_non))
        pss_nil)
      (pss_cons (ps_set (i := 8) sc__law_early.nd rfl (Or.inl rfl) (pe_op op_mod (pe_op op_sub (pv 1) (pv 6)) (pe_ix ix_tup (pv 3) pe_int (fun _ _ => rfl))))
      (pss_one (ps_ret (pe_ifExp (pt_cmpR op_lt (pv 8) (pv 7) (nomark _)) (pv 1) (pe_op op_sub (pe_op op_add (pv 1) (pe_ix ix_tup (pv 3) pe_int (fun _ _ => rfl))) (pv 8))))))))))), ?_⟩
    have c1 := oc.1
    refine ⟨_, rfl, t, _, rfl, SqT.of ht, rfl, _, _, rfl, _, _, rfl, _, _, rfl, rfl, ?_⟩
    cases b with
    | true =>
      refine ⟨_, rfl, _, rfl, _, rfl, _, rfl, iteT ⟨p, f, q, c, 0, rfl, hx, hy, of, oc, hd, ?_⟩⟩
      refine ⟨_, rfl, q, _, 1, _, rfl, rfl, SqT.of hy, rfl, _, rfl, _, _, rfl, rfl, _, _, rfl, rfl, _, rfl, _, _, rfl, ?_⟩
      refine ⟨fun σ H1 => H1 = H ∧ σ = [some (.ref t), some (.int m), some (.ref p), some (.ref q), some (.bl true), some (.int (cntN f c 0)), some (.int (c.a + 1)), some (.int (c.e - cntN f c 0)), none], ?_, ?_⟩
      · exact ⟨_, rfl, _, rfl, iteT ⟨_, rfl, q, _, 1, _, rfl, rfl, SqT.of hy, rfl, _, _, rfl, rfl, _, rfl, q, _, 0, _, rfl, rfl, SqT.of hy, at0, _, rfl, _, _, rfl, rfl, _, _, rfl, rfl, rfl⟩⟩
      rintro σ H1 ⟨rfl, rfl⟩
      have hq : Q (optV (fwN (c.a + 1) (c.e - cntN f c 0) c.e m)) H1 := hq
      unfold fwN at hq
      refine ⟨_, rfl, rfl, _, rfl, ifD (fun z => ?_) (fun z => ?_)⟩
      · rw [if_pos (V.int.inj z)] at hq
        exact hq
      · rw [if_neg (fun w => z (congrArg V.int w))] at hq
        refine ⟨_, rfl, _, rfl, _, _, rfl, rfl, _, rfl, q, _, 0, _, rfl, rfl, SqT.of hy, at0, _, _, rfl, rfl, (by show 0 < c.e; omega), ?_⟩
        refine ⟨_, rfl, _, rfl, _, _, rfl, rfl, _, rfl, ifD (fun d => ?_) (fun d => ?_)⟩
        · rw [if_pos d] at hq
          exact ⟨_, rfl, hq⟩
        · rw [if_neg d] at hq
          exact ⟨_, rfl, _, rfl, q, _, 0, _, rfl, rfl, SqT.of hy, at0, _, _, rfl, rfl, _, rfl, _, _, rfl, rfl, hq⟩
    
    | false =>
      refine ⟨_, rfl, _, rfl, _, rfl, _, rfl, iteF ⟨p, f, q, c, 1, rfl, hx, hy, of, oc, hd, ?_⟩⟩
      refine ⟨_, rfl, q, _, 1, _, rfl, rfl, SqT.of hy, rfl, _, rfl, _, _, rfl, rfl, _, _, rfl, rfl, _, rfl, _, _, rfl, ?_⟩
      refine ⟨fun σ H1 => H1 = H ∧ σ = [some (.ref t), some (.int m), some (.ref p), some (.ref q), some (.bl false), some (.int (cntN f c 1)), some (.int (c.a - cntN f c 1 + 1)), some (.int (cntN f c 1)), none], ?_, ?_⟩
      · exact ⟨_, rfl, _, rfl, iteF ⟨rfl, rfl⟩⟩
      rintro σ H1 ⟨rfl, rfl⟩
      have hq : Q (optV (fwN (c.a - cntN f c 1 + 1) (cntN f c 1) c.e m)) H1 := hq
      unfold fwN at hq
      refine ⟨_, rfl, rfl, _, rfl, ifD (fun z => ?_) (fun z => ?_)⟩
      · rw [if_pos (V.int.inj z)] at hq
        exact hq
      · rw [if_neg (fun w => z (congrArg V.int w))] at hq
        refine ⟨_, rfl, _, rfl, _, _, rfl, rfl, _, rfl, q, _, 0, _, rfl, rfl, SqT.of hy, at0, _, _, rfl, rfl, (by show 0 < c.e; omega), ?_⟩
        refine ⟨_, rfl, _, rfl, _, _, rfl, rfl, _, rfl, ifD (fun d => ?_) (fun d => ?_)⟩
        · rw [if_pos d] at hq
          exact ⟨_, rfl, hq⟩
        · rw [if_neg d] at hq
          exact ⟨_, rfl, _, rfl, q, _, 0, _, rfl, rfl, SqT.of hy, at0, _, _, rfl, rfl, _, rfl, _, _, rfl, rfl, hq⟩
end
section
variable {w : World} {K : Frag} {mg : Str → Option Value} {base : Heap}
theorem sizes {f c : N3} (of : f.ok) (oc : c.ok) (sf : Sz 500 f.e) (sc : Sz 500 c.e) (sfr : Sz 500 f.r) (scr : Sz 500 c.r) : Sz 1000 (leN f c) ∧ Sz 1000 (moN f c) ∧ Sz 1000 (0 - leN f c) ∧ Sz 1000 (0 - moN f c) := by
  have f1 := of.1
  have c1 := oc.1
  have sh := sh_in (c := c) of
  have ssh : Sz 500 (shN f c) := Sz.le sh.1 (Int.le_of_lt sh.2) sf
  have sm : Sz 502 (moN f c) := (sfr.sub scr).add (ssh.mono (by decide))
  have e1 := Int.emod_add_mul_ediv (c.e + shN f c - 1) f.e
  have e2 := Int.emod_nonneg (c.e + shN f c - 1) (show f.e ≠ 0 by omega)
  have e3 : 0 ≤ f.e * ((c.e + shN f c - 1) / f.e) := Int.mul_nonneg (by omega) (Int.ediv_nonneg (by omega) (by omega))
  have s3 : Sz 502 ((c.e + shN f c - 1) / f.e * f.e) := Sz.le (by rw [Int.mul_comm]; exact e3) (show _ ≤ c.e + f.e by rw [Int.mul_comm]; omega) ((sc.add sf).mono (by decide))
  have s4 : Sz 503 (leN f c) := sm.sub s3
  have neg : ∀ v : Int, Sz 503 v → Sz 1000 (0 - v) := fun v h => by
    refine Sz.mono (a := 503) ?_ (by decide)
    unfold Sz at *
    omega
  exact ⟨s4.mono (by decide), sm.mono (by decide), neg _ s4, neg _ (sm.mono (by decide))⟩
def sp__law_right (K : Frag) : Sp := fun vs H Q E => ∃ (tp : Addr) (N : Nat) (p : Addr) (x : N3) (q : Addr) (y : N3), vs = [.ref tp, .ref p, .ref q] ∧ Tp tp (N + 2) H ∧ T3 H p x ∧ T3 H q y ∧ x.ok ∧ y.ok ∧ (x.e ∣ y.e ∨ y.e ∣ x.e) ∧ Sz 500 x.e ∧ Sz 500 y.e ∧ Sz 500 x.r ∧ Sz 500 y.r ∧ ∀ H', Ext (fdM tp) H H' → Tp tp N H' → Q (.bl true) H'
theorem ok__law_right (Z : Zs cks fns K mg) : FnG PP w K mg base (L2.CX PP w) 7 (ga K "_law_right") (fdAt K (ga K "_law_right")) ["tape", "first", "second"] (sp__law_right K) := by
  refine Fw.Fun.okG (u__law_right Z) sc__law_right (fun vs H Q E h => ?_) (fun cdv A outer s H vs Q E hg hr h => ?_)
  · obtain ⟨_, _, _, _, _, _, rfl, _⟩ := h
    rfl
  · obtain ⟨tp, N, p, x, q, y, rfl, ⟨hT, hx, hy, ox, oy, hd, sx, sy, srx, sry, hq⟩⟩ := h
    refine ⟨_, (pss_cons (ps_par3 (i := 3) (j := 4) (l := 5) rfl sc__law_right.nd rfl rfl rfl (by decide) (by decide) (by decide) rfl rfl rfl (pa_cons (pe_call (ok__law_line Z) (hr.mono (by decide)) rfl (g__law_line Z) (u__law_line Z).kp (b__law_line Z) .nil passL (pa_cons (pv 1) pa_nil)) (pa_cons (pe_call (ok__law_line Z) (hr.mono (by decide)) rfl (g__law_line Z) (u__law_line Z).kp (b__law_line Z) .nil passL (pa_cons (pv 2) pa_nil)) (pa_cons (pe_cmpR op_le (pe_ix ix_tup (pv 1) pe_int (fun _ _ => rfl)) (pe_ix ix_tup (pv 2) pe_int (fun _ _ => rfl)) (nomark _)) pa_nil))) rfl)
      (pss_cons (ps_asg (pe_ifExp (pt_val (pv 5)) (pe_tup (pa_cons (pv 1) (pa_cons (pv 2) pa_nil))) (pe_tup (pa_cons (pv 2) (pa_cons (pv 1) pa_nil)))) (pg_tup rfl (pgs_cons (pg_name (i := 6) sc__law_right.nd rfl (Or.inl rfl)) (pgs_cons (pg_name (i := 7) sc__law_right.nd rfl (Or.inl rfl)) pgs_nil))))
      (pss_cons (ps_set (i := 8) sc__law_right.nd rfl (Or.inl rfl) (pe_callB cr_sorted rfl (n_sorted Z) (by decide +kernel) (pa_cons (pe_lst (pa_cons (pe_call (ok__law_lead Z) (hr.mono (by decide)) rfl (g__law_lead Z) (u__law_lead Z).kp (b__law_lead Z) .nil passL (pa_cons (pv 1) (pa_cons (pv 2) (pa_cons (pe_ix ix_tup (pv 7) pe_int (fun _ _ => rfl)) pa_nil)))) (pa_cons (pe_call (ok__law_lead Z) (hr.mono (by decide)) rfl (g__law_lead Z) (u__law_lead Z).kp (b__law_lead Z) .nil passL (pa_cons (pv 1) (pa_cons (pv 2) (pa_cons (pe_op op_add (pe_ix ix_tup (pv 7) pe_int (fun _ _ => rfl)) pe_int) pa_nil)))) pa_nil))) pa_nil)))
      (pss_cons (ps_set (i := 9) sc__law_right.nd rfl (Or.inl rfl) (pe_ifExp (pt_cmpR op_lt (pe_ix ix_list (pv 8) pe_int (fun _ _ => rfl)) (pe_ix ix_list (pv 8) pe_int (fun _ _ => rfl)) (nomark _)) (pe_ix ix_tup (pv 6) pe_int (fun _ _ => rfl)) pe_int))
      (pss_cons (ps_if (pt_cmpR op_ne (pe_callB (call_reprD hg hr.units) rfl (n_repr Z) (by decide +kernel) (pa_cons (pe_call (ok_differences Z) (hr.mono (by decide)) rfl (g_differences Z) (u_differences Z).kp (b_differences Z) .nil passL (pa_cons (pv 3) (pa_cons (pv 4) pa_nil))) pa_nil)) (pe_callB (call_reprD hg hr.units) rfl (n_repr Z) (by decide +kernel) (pa_cons (pe_tup (pa_cons (pe_ix ix_list (pv 8) pe_int (fun _ _ => rfl)) (pa_cons (pe_ix ix_list (pv 8) pe_int (fun _ _ => rfl)) (pa_cons (pv 9) pa_nil)))) pa_nil)) (nomark _))
        (pss_one (ps_ret pe_bl))
        pss_nil)
      (pss_cons (ps_set (i := 10) sc__law_right.nd rfl (Or.inl rfl) (pe_call (ok_worst_start Z) (hr.mono (by decide)) rfl (g_worst_start Z) (u_worst_start Z).kp (b_worst_start Z) .nil passL (pa_cons (pv 3) (pa_cons (pv 4) pa_nil))))
      (pss_cons (ps_if (PW.pt (pw_or (pt_not (pt_chain op_le op_lt pe_int (pv 10) (pe_ix ix_tup (pv 7) pe_int (fun _ _ => rfl)))) (pw_or1 (pt_cmpR op_ne (pe_call (ok__law_lead Z) (hr.mono (by decide)) rfl (g__law_lead Z) (u__law_lead Z).kp (b__law_lead Z) .nil passL (pa_cons (pv 1) (pa_cons (pv 2) (pa_cons (pv 10) pa_nil)))) (pe_ix ix_list (pv 8) pe_int (fun _ _ => rfl)) (nomark _)))))
        (pss_one (ps_ret pe_bl))
        pss_nil)
      (pss_cons (ps_set (i := 11) sc__law_right.nd rfl (Or.inl rfl) (pe_lst (pa_cons (pe_call (ok__law_lead Z) (hr.mono (by decide)) rfl (g__law_lead Z) (u__law_lead Z).kp (b__law_lead Z) .nil passL (pa_cons (pv 1) (pa_cons (pv 2) (pa_cons (pe_op op_sub (pv 10) pe_int) pa_nil)))) (pa_cons (pe_call (ok__law_lead Z) (hr.mono (by decide)) rfl (g__law_lead Z) (u__law_lead Z).kp (b__law_lead Z) .nil passL (pa_cons (pv 1) (pa_cons (pv 2) (pa_cons pe_int pa_nil)))) pa_nil))))
      (pss_cons (ps_if (PW.pt (pw_and (pt_cmpR op_gt (pv 10) pe_int (nomark _)) (pw_and1 (pt_cmpR op_in_seq (pe_ix ix_list (pv 8) pe_int (fun _ _ => rfl)) (pv 11) (by rfl)))))
        (pss_one (ps_ret pe_bl))
        pss_nil)
      (pss_cons (ps_par (i := 12) (j := 13) rfl sc__law_right.nd rfl rfl (by decide) rfl rfl (pa_cons (pe_call (ok__law_many_from Z) (hr.mono (by decide)) rfl (g__law_many_from Z) (u__law_many_from Z).kp (b__law_many_from Z) .nil passL (pa_cons (pv 6) (pa_cons (pv 7) (pa_cons pe_int pa_nil)))) (pa_cons (pe_call (ok__law_many_from Z) (hr.mono (by decide)) rfl (g__law_many_from Z) (u__law_many_from Z).kp (b__law_many_from Z) .nil passL (pa_cons (pv 6) (pa_cons (pv 7) (pa_cons pe_int pa_nil)))) pa_nil)) rfl)
      (pss_cons (ps_set (i := 14) sc__law_right.nd rfl (Or.inl rfl) (pe_tup (pa_cons (pe_op op_sub (pe_ix ix_tup (pv 7) pe_int (fun _ _ => rfl)) (pv 13)) (pa_cons (pe_op op_sub (pv 13) (pv 12)) (pa_cons (pv 12) pa_nil)))))
      (pss_cons (ps_if (pt_cmpR op_ne (pe_callB (call_reprD hg hr.units) rfl (n_repr Z) (by decide +kernel) (pa_cons (pe_call (ok_count_starts Z) (hr.mono (by decide)) rfl (g_count_starts Z) (u_count_starts Z).kp (b_count_starts Z) .nil passL (pa_cons (pv 3) (pa_cons (pv 4) pa_nil))) pa_nil)) (pe_callB (call_reprD hg hr.units) rfl (n_repr Z) (by decide +kernel) (pa_cons (pe_ifExp (pt_val (pv 5)) (pv 14) (pe_tupR (pv 14))) pa_nil)) (nomark _))
        (pss_one (ps_ret pe_bl))
        pss_nil)
      (C8.pss_cut (ps_for (passes_of rfl) rfl (pi_list (pe_lst (pa_cons pe_int (pa_cons (pe_un un_neg pe_int) (pa_cons (pe_call (ok__law_next Z) (hr.mono (by decide)) rfl (g__law_next Z) (u__law_next Z).kp (b__law_next Z) .nil passL (pa_cons (pv 0) (pa_cons (pe_op op_pow pe_int pe_int) pa_nil))) (pa_cons (pe_op op_sub pe_int (pe_call (ok__law_next Z) (hr.mono (by decide)) rfl (g__law_next Z) (u__law_next Z).kp (b__law_next Z) .nil passL (pa_cons (pv 0) (pa_cons (pe_op op_pow pe_int pe_int) pa_nil)))) (pa_cons (pe_ix ix_tup (pv 7) pe_int (fun _ _ => rfl)) (pa_cons (pe_op op_add (pe_ix ix_tup (pv 7) pe_int (fun _ _ => rfl)) pe_int) pa_nil)))))))) (pg_name (i := 15) sc__law_right.nd rfl (Or.inl rfl))
        (pss_cons (ps_set (i := 16) sc__law_right.nd rfl (Or.inl rfl) (pe_call (ok__law_early Z) (hr.mono (by decide)) rfl (g__law_early Z) (u__law_early Z).kp (b__law_early Z) .nil passL (pa_cons (pe_tup (pa_cons (pv 6) (pa_cons (pv 7) (pa_cons (pv 5) pa_nil)))) (pa_cons (pv 15) pa_nil))))
      (pss_cons (ps_if (pt_cmpR op_ne (pe_callB (call_repr_opt hr.units) rfl (n_repr Z) (by decide +kernel) (pa_cons (pe_call (ok_first_earlier Z) (hr.mono (by decide)) rfl (g_first_earlier Z) (u_first_earlier Z).kp (b_first_earlier Z) .nil passL (pa_cons (pv 3) (pa_cons (pv 4) (pa_cons (pv 15) pa_nil)))) pa_nil)) (pe_callB (call_repr_opt hr.units) rfl (n_repr Z) (by decide +kernel) (pa_cons (pv 16) pa_nil)) (nomark _))
        (pss_one (ps_ret pe_bl))
        pss_nil)
      (pss_one (ps_if (PW.pt (pw_and (pt_cmpR op_notN (pv 16) pe_non (nomark _)) (pw_and1 (pt_cmpR op_ge (pe_call (ok__law_lead Z) (hr.mono (by decide)) rfl (g__law_lead Z) (u__law_lead Z).kp (b__law_lead Z) .nil passL (pa_cons (pv 1) (pa_cons (pv 2) (pa_cons (pv 16) pa_nil)))) pe_int (nomark _)))))
        (pss_one (ps_ret pe_bl))
        pss_nil)))))
      (pss_one (ps_ret pe_bl))))))))))))))), ?_⟩
    have sc : ∀ z : Int, 1 ≤ z → z ≤ 10 ^ 62 → Sz 4000 z := fun z z0 z1 => Sz.mono (a := 210) (Sz.le (by omega) z1 (Sz.of (by decide +kernel) (by decide +kernel))) (by decide)
    obtain ⟨of, oc, hfc⟩ := fc_fit ox oy hd
    refine ⟨_, rfl, ⟨p, x, rfl, hx, ox, fun a k H1 s1 na La => ⟨_, rfl, ⟨q, y, rfl, hy.same s1, oy, fun b j H2 s2 nb Lb => ?_⟩⟩⟩⟩
    have s12' := s1.trans s2
    have hx2 := hx.same s12'
    have hy2 := hy.same s12'
    have La2 := La.same s2
    by_cases c : x.e ≤ y.e
    · refine ⟨_, rfl, p, _, 0, _, rfl, rfl, SqT.of hx2, at0, _, rfl, q, _, 0, _, rfl, rfl, SqT.of hy2, at0, _, _, rfl, rfl, .ref a, .ref b, .bl true, (show [V.ref a, V.ref b, V.bl (decide (x.e ≤ y.e))] = [V.ref a, V.ref b, V.bl true] by rw [decide_eq_true c]), ?_⟩
      have hF3 : T3 H2 p x := hx2
      have hC3 : T3 H2 q y := hy2
      have ef : fiN x y = x := if_pos c
      have ec : coN x y = y := if_pos c
      have elo : loN x y = leN x y := if_pos c
      have ehi : hiN x y = moN x y := if_pos c
      simp only [ef, ec] at of oc hfc
      have szs := sizes of oc (by first | exact sx | exact sy) (by first | exact sy | exact sx) (by first | exact srx | exact sry) (by first | exact sry | exact srx)
      have dl := dlt_le of oc hfc y.a
      refine ⟨_, rfl, _, rfl, iteT ⟨_, rfl, _, rfl, (by show 2 ≤ sizeLine; decide), fun t ht => ⟨t, _, rfl, SqT.of upd_same, rfl, _, _, rfl, _, _, rfl, rfl, ?_⟩⟩⟩
      have s3 := Same.new (o := .tup [.ref p, .ref q]) ht
      have hx3 := hx2.same s3
      have hy3 := hy2.same s3
      refine ⟨_, rfl, _, rfl, _, rfl, q, _, 1, _, rfl, rfl, SqT.of hy3, rfl, ⟨p, x, q, y, _, rfl, hx3, hy3, ox, oy, ?_⟩⟩
      refine ⟨_, rfl, _, rfl, _, rfl, q, _, 1, _, rfl, rfl, SqT.of hy3, rfl, _, _, rfl, rfl, ⟨p, x, q, y, _, rfl, hx3, hy3, ox, oy, (by show 2 ≤ sizeLine; decide), fun pl hpl => ?_⟩⟩
      refine ⟨pl, [ldt x y y.a, ldt x y (y.a + 1)], rfl, SqL.of upd_same, (by show 2 < 64; decide), fun ns' ps prm srt hps => ?_⟩
      have ens : ns' = [loN x y, hiN x y] := by
        rw [two_sorted prm srt, ldt_dlt, ldt_dlt, dlt_top of oc hfc, dlt_low of oc hfc, elo, ehi]
        split
        · first | rfl | (rw [show leN x y = moN x y by omega])
        · first | rfl | omega
      subst ens
      have s4 := s3.trans ((Same.new (o := .lst ([ldt x y y.a, ldt x y (y.a + 1)].map V.int)) hpl).trans (Same.new (o := .lst ([loN x y, hiN x y].map V.int)) hps))
      have e4 : (upd (upd (upd H2 t (.tup [.ref p, .ref q])) pl (.lst ([ldt x y y.a, ldt x y (y.a + 1)].map V.int))) ps (.lst ([loN x y, hiN x y].map V.int))) ps = some (.lst ([loN x y, hiN x y].map V.int)) := upd_same
      change (tSeq _ _) _ _ (upd (upd (upd H2 t (.tup [.ref p, .ref q])) pl (.lst ([ldt x y y.a, ldt x y (y.a + 1)].map V.int))) ps (.lst ([loN x y, hiN x y].map V.int)))
      revert s4 e4
      generalize upd (upd (upd H2 t (.tup [.ref p, .ref q])) pl (.lst ([ldt x y y.a, ldt x y (y.a + 1)].map V.int))) ps (.lst ([loN x y, hiN x y].map V.int)) = H4
      intro s4 e4
      change (tSeq _ _) _ [some (.ref tp), some (.ref p), some (.ref q), some (.ref a), some (.ref b), some (.bl true), some (.ref p), some (.ref q), some (.ref ps), none, none, none, none, none, none, none, none] H4
      have hx4 := hx2.same s4
      have hy4 := hy2.same s4
      have La4 := La2.same s4
      have Lb4 := Lb.same s4
      apply share2 (fun (s : Int) (H5 : Hp) => s = (if loN x y < hiN x y then x.e else 0) ∧ H5 = H4)
      · intro rest
        refine ⟨_, rfl, ps, _, 0, _, rfl, rfl, SqL.of e4, at0, _, rfl, ps, _, 1, _, rfl, rfl, SqL.of e4, rfl, _, _, rfl, rfl, _, rfl, ifD (fun z => ?_) (fun z => ?_)⟩
        · refine ⟨_, rfl, p, _, 0, _, rfl, rfl, SqT.of hx4, at0, ?_⟩
          obtain ⟨w, hw⟩ : ∃ w, w = x.e := ⟨_, rfl⟩
          rw [← hw]
          exact rest w H4 ⟨by rw [if_pos z, hw], rfl⟩
        · exact rest 0 H4 ⟨by rw [if_neg z], rfl⟩
      rintro st H5 ⟨hst, rfl⟩
      have sst : Sz 1000 st := by
        rw [hst]
        split
        · first | exact sx.mono (by decide) | exact sy.mono (by decide)
        · exact Sz.of (by decide +kernel) (by decide +kernel)
      have edi : diN x y = (loN x y, hiN x y, st) := by
        rw [hst, elo, ehi]
        unfold diN
        rw [if_pos c]
        all_goals first | rfl | (congr 2; split <;> split <;> omega)
      have slo : Sz 1000 (loN x y) := by rw [elo]; exact szs.1
      have shi : Sz 1000 (hiN x y) := by rw [ehi]; exact szs.2.1
      refine ⟨_, rfl, _, rfl, ⟨a, k, x, b, j, y, rfl, La4, Lb4, ox, oy, hd, sx, sy, srx, sry, fun r H6 s6 e6 => ?_⟩⟩
      rw [edi] at e6
      refine ⟨r, _, rfl, .tup (SqT.of e6) (.cons (.int _) (.cons (.int _) (.cons (.int _) .nil))), fit3 slo shi sst, ?_⟩
      have e46 := s6 _ _ e4
      refine ⟨_, rfl, ps, _, 0, _, rfl, rfl, SqL.of e46, at0, _, rfl, ps, _, 1, _, rfl, rfl, SqL.of e46, rfl, _, rfl, (by show 3 ≤ sizeLine; decide), fun t2 ht2 => ?_⟩
      refine ⟨t2, _, rfl, .tup (SqT.of upd_same) (.cons (.int _) (.cons (.int _) (.cons (.int _) .nil))), fit3 slo shi sst, rfl, _, rfl, iteNS rfl ?_⟩
      have s7 := s6.trans (Same.new (o := .tup [.int (loN x y), .int (hiN x y), .int st]) ht2)
      -- the worst start
      change (tSeq _ _) _ [some (.ref tp), some (.ref p), some (.ref q), some (.ref a), some (.ref b), some (.bl true), some (.ref p), some (.ref q), some (.ref ps), some (.int st), none, none, none, none, none, none, none] _
      obtain ⟨w, hw, w0, w1, w2, w3⟩ := ws_right ox oy hd
      rw [ec] at w1
      refine ⟨_, rfl, _, rfl, ⟨a, k, x, b, j, y, rfl, La4.same s7, Lb4.same s7, ox, oy, hd, sx, sy, srx, sry, fun H8 s8 => ?_⟩⟩
      rw [hw]
      have s78 := s7.trans s8
      have hx8 := hx4.same s78
      have hy8 := hy4.same s78
      have e8 := s78 _ _ e4
      refine ⟨_, rfl, _, w, rfl, rfl, _, rfl, ifT w0 ⟨_, rfl, q, _, 0, _, rfl, rfl, SqT.of hy8, at0, w, _, rfl, rfl, _, rfl, iteNS w1 ?_⟩⟩
      refine ⟨_, rfl, _, rfl, _, rfl, ⟨p, x, q, y, w, rfl, hx8, hy8, ox, oy, _, rfl, ps, _, 1, _, rfl, rfl, SqL.of e8, rfl, rfl, _, rfl, iteNS (congrArg V.int w2) ?_⟩⟩
      refine ⟨_, rfl, _, rfl, _, rfl, w, _, rfl, rfl, ⟨p, x, q, y, w - 1, rfl, hx8, hy8, ox, oy, _, rfl, _, rfl, ⟨p, x, q, y, 0, rfl, hx8, hy8, ox, oy, (by show 2 ≤ sizeLine; decide), fun pm hpm => ?_⟩⟩⟩
      change (tSeq _ _) _ [some (.ref tp), some (.ref p), some (.ref q), some (.ref a), some (.ref b), some (.bl true), some (.ref p), some (.ref q), some (.ref ps), some (.int st), some (.int w), some (.ref pm), none, none, none, none, none] _
      have s9 := Same.new (o := .lst [.int (ldt x y (w - 1)), .int (ldt x y 0)]) hpm
      have e9 := s9 _ _ e8
      apply share
      · intro rest
        refine ⟨_, rfl, w, _, rfl, rfl, _, rfl, ifD (fun z => ?_) (fun z => ?_)⟩
        · refine ⟨_, rfl, ps, _, 1, _, rfl, rfl, SqL.of e9, rfl, _, rfl, pm, _, rfl, .inl (SqL.of upd_same), rfl, rfl, ?_⟩
          rw [inV_no (w3 z).1.symm (w3 z).2.symm]
          refine ⟨_, rfl, iteF ?_⟩
          exact rest
        · exact iteF rest
      have hx9 := hx8.same s9
      have hy9 := hy8.same s9
      -- the counts
      refine ⟨_, rfl, _, rfl, ⟨p, x, q, y, 1, rfl, hx9, hy9, of, oc, hfc, _, rfl, _, rfl, ⟨p, x, q, y, 0, rfl, hx9, hy9, of, oc, hfc, _, _, rfl, ?_⟩⟩⟩
      refine ⟨_, rfl, q, _, 0, _, rfl, rfl, SqT.of hy9, at0, _, rfl, _, _, rfl, rfl, _, rfl, _, rfl, _, _, rfl, rfl, _, rfl, (by show 3 ≤ sizeLine; decide), fun tc htc => ?_⟩
      change (tSeq _ _) _ [some (.ref tp), some (.ref p), some (.ref q), some (.ref a), some (.ref b), some (.bl true), some (.ref p), some (.ref q), some (.ref ps), some (.int st), some (.int w), some (.ref pm), some (.int (cntN x y 1)), some (.int (cntN x y 0)), some (.ref tc), none, none] _
      have k0 := cnt_in (f := x) oc 0
      have k1 := cnt_in (f := x) oc 1
      have c1 := oc.1
      have sce : Sz 500 y.e := by first | exact sx | exact sy
      have bnd : ∀ v : Int, -y.e ≤ v → v ≤ y.e → Sz 1000 v := fun v v0 v1 => by
        have := sce
        refine Sz.mono (a := 500) ?_ (by decide)
        unfold Sz at *
        omega
      have scA := bnd (y.e - cntN x y 0) (by omega) (by omega)
      have scB := bnd (cntN x y 0 - cntN x y 1) (by omega) (by omega)
      have scC := bnd (cntN x y 1) (by omega) (by omega)
      have ecs : csN x y = (y.e - cntN x y 0, cntN x y 0 - cntN x y 1, cntN x y 1) := if_pos c
      have s10 := Same.new (o := .tup [.int (y.e - cntN x y 0), .int (cntN x y 0 - cntN x y 1), .int (cntN x y 1)]) htc
      have s710 := s78.trans (s9.trans s10)
      refine ⟨_, rfl, _, rfl, ⟨a, k, x, b, j, y, rfl, La4.same s710, Lb4.same s710, ox, oy, hd, sx, sy, srx, sry, fun r2 H11 s11 e11 => ?_⟩⟩
      rw [ecs] at e11
      refine ⟨r2, _, rfl, .tup (SqT.of e11) (.cons (.int _) (.cons (.int _) (.cons (.int _) .nil))), fit3 scA scB scC, ?_⟩
      refine ⟨_, rfl, _, rfl, iteT ⟨_, rfl, tc, _, rfl, .tup (SqT.of (s11 _ _ upd_same)) (.cons (.int _) (.cons (.int _) (.cons (.int _) .nil))), fit3 scA scB scC, rfl, _, rfl, iteNS rfl ?_⟩⟩
      have s12 := Same.refl H11
      have sL := s4.trans (s710.trans (s11.trans s12))
      have hxL := hx2.same sL
      have hyL := hy2.same sL
      have LaL := La2.same sL
      have LbL := Lb.same sL
      have tL := hT.same (s12'.trans sL)
      refine ⟨fun σ HZ => Ext (fdM tp) H HZ ∧ Tp tp N HZ, ?_, fun σ HZ h => hq _ h.1 h.2⟩
      have p59 : (1 : Int) ≤ 10 ^ (59 : Int).toNat := by decide +kernel
      have q59 : (10 : Int) ^ (59 : Int).toNat ≤ 10 ^ 62 := by decide +kernel
      refine ⟨_, rfl, _, rfl, _, _, rfl, rfl, ⟨by decide, by decide, by decide⟩, ⟨tp, N + 1, _, rfl, tL, p59, sc _ p59 q59, fun v1 HM g1 l1 xM tM => ?_⟩⟩
      refine ⟨_, rfl, _, _, rfl, rfl, ⟨by decide, by decide, by decide⟩, ⟨tp, N, _, rfl, tM, p59, sc _ p59 q59, fun v2 HN g2 l2 xN tN => ⟨_, _, rfl, rfl, ?_⟩⟩⟩
      have xMN := xM.trans xN
      have hxN : T3 HN p x := tL.tup xMN hxL
      have hyN : T3 HN q y := tL.tup xMN hyL
      have LaN := tL.line xMN LaL
      have LbN := tL.line xMN LbL
      refine ⟨_, rfl, q, _, 1, _, rfl, rfl, SqT.of hyN, rfl, _, rfl, q, _, 1, _, rfl, rfl, SqT.of hyN, rfl, _, _, rfl, rfl, (by show 6 ≤ sizeLine; decide), fun pz hpz => ?_⟩
      have sz := Same.new (o := .lst (([0, -1, v1, 0 - v2, y.a, y.a + 1] : List Int).map V.int)) hpz
      refine ⟨pz, rfl, ⟨_, SqL.of upd_same⟩, ?_⟩
      have ez : (upd HN pz (.lst (([0, -1, v1, 0 - v2, y.a, y.a + 1] : List Int).map V.int))) pz = some (.lst (([0, -1, v1, 0 - v2, y.a, y.a + 1] : List Int).map V.int)) := upd_same
      refine for_list (K := K) (a := pz) (xs := ([0, -1, v1, 0 - v2, y.a, y.a + 1] : List Int).map V.int) (fun i σ HQ => (∃ z15 z16, σ = [some (.ref tp), some (.ref p), some (.ref q), some (.ref a), some (.ref b), some (.bl true), some (.ref p), some (.ref q), some (.ref ps), some (.int st), some (.int w), some (.ref pm), some (.int (cntN x y 1)), some (.int (cntN x y 0)), some (.ref tc), z15, z16]) ∧ Same (upd HN pz (.lst (([0, -1, v1, 0 - v2, y.a, y.a + 1] : List Int).map V.int))) HQ) ⟨⟨none, none, rfl⟩, Same.refl _⟩ (fun i σ HQ _ h => SqL.of (h.2 _ _ ez)) ?_ ?_
      · rintro i xv σ HQ hi ⟨⟨z15, z16, rfl⟩, sQ⟩
        obtain ⟨m, hm, rfl⟩ := get_ints hi
        have hm' := List.mem_of_getElem? hm
        have sm : Sz 700 m := by
          have b1 : Sz 700 v1 := Sz.le g1 (Int.le_of_lt l1) (Sz.of (by decide +kernel) (by decide +kernel))
          have b2 : Sz 700 (0 - v2) := by
            have : Sz 700 v2 := Sz.le g2 (Int.le_of_lt l2) (Sz.of (by decide +kernel) (by decide +kernel))
            unfold Sz at *
            omega
          have b3 : Sz 500 y.a := Sz.le oc.2.1 (Int.le_of_lt oc.2.2.1) sce
          simp only [List.mem_cons, List.not_mem_nil, or_false] at hm'
          rcases hm' with e | e | e | e | e | e <;> rw [e]
          · exact Sz.of (by decide +kernel) (by decide +kernel)
          · exact Sz.of (by decide +kernel) (by decide +kernel)
          · exact b1
          · exact b2
          · exact b3.mono (by decide)
          · exact (Sz.add b3 (j := 1) (Sz.of (by decide +kernel) (by decide +kernel))).mono (by decide)
        have sQ' := sz.trans sQ
        refine ⟨_, rfl, _, rfl, _, rfl, (by show 3 ≤ sizeLine; decide), fun tt htt => ⟨_, rfl, ⟨tt, p, x, q, y, true, m, rfl, upd_same, (hxN.same sQ').same (Same.new htt), (hyN.same sQ').same (Same.new htt), of, oc, hfc, ?_⟩⟩⟩
        have efe : (if (true : Bool) = true then fbN x y 0 m else ffN x y 1 m) = feN x y m := by
          unfold feN
          rw [if_pos c]
          rfl
        rw [efe]
        have sT := sQ'.trans (Same.new (o := .tup [.ref p, .ref q, .bl true]) htt)
        have lg : ∀ j, feN x y m = some j → j.natAbs.log2 < 1920 := by
          intro j hj
          rcases fe_right ox oy hd m with h | ⟨s, h, h1, h2, _⟩
          · rw [h] at hj; cases hj
          · rw [h] at hj
            obtain rfl := Option.some.inj hj
            rw [ec] at h2
            have : Sz 701 s := by
              unfold Sz at *
              have p1 : (2 : Nat) ^ 701 = 2 ^ 700 * 2 := by rw [Nat.pow_succ]
              have p2 : (2 : Nat) ^ 500 ≤ 2 ^ 700 := Nat.pow_le_pow_right (by decide) (by decide)
              omega
            exact this.log
        refine ⟨_, rfl, _, rfl, _, rfl, ⟨a, k, x, b, j, y, m, rfl, LaN.same sT, LbN.same sT, ox, oy, hd, sx, sy, srx, sry, fun HR sR => ⟨feN x y m, rfl, lg, _, rfl, feN x y m, rfl, lg, rfl, _, rfl, iteNS rfl ?_⟩⟩⟩
        have fin : (∃ z15 z16, ([some (.ref tp), some (.ref p), some (.ref q), some (.ref a), some (.ref b), some (.bl true), some (.ref p), some (.ref q), some (.ref ps), some (.int st), some (.int w), some (.ref pm), some (.int (cntN x y 1)), some (.int (cntN x y 0)), some (.ref tc), some (.int m), some (optV (feN x y m))] : L2.St) = [some (.ref tp), some (.ref p), some (.ref q), some (.ref a), some (.ref b), some (.bl true), some (.ref p), some (.ref q), some (.ref ps), some (.int st), some (.int w), some (.ref pm), some (.int (cntN x y 1)), some (.int (cntN x y 0)), some (.ref tc), z15, z16]) ∧ Same (upd HN pz (.lst (([0, -1, v1, 0 - v2, y.a, y.a + 1] : List Int).map V.int))) HR := ⟨⟨_, _, rfl⟩, sQ.trans ((Same.new htt).trans sR)⟩
        rcases fe_right ox oy hd m with h | ⟨s, h, h1, h2, h3⟩
        · rw [h] at fin ⊢
          exact ⟨_, rfl, rfl, _, rfl, iteF fin⟩
        · rw [h] at fin ⊢
          refine ⟨_, rfl, rfl, _, rfl, iteT ⟨_, rfl, _, rfl, _, rfl, ⟨p, x, q, y, s, rfl, (hxN.same sT).same sR, (hyN.same sT).same sR, ox, oy, _, _, rfl, rfl, _, rfl, ifF (by omega) fin⟩⟩⟩
      · rintro σ HQ ⟨_, sQ⟩
        exact ⟨(Ext.same (s12'.trans sL)).trans (xMN.trans (Ext.same (sz.trans sQ))), tN.same (sz.trans sQ)⟩
    · refine ⟨_, rfl, p, _, 0, _, rfl, rfl, SqT.of hx2, at0, _, rfl, q, _, 0, _, rfl, rfl, SqT.of hy2, at0, _, _, rfl, rfl, .ref a, .ref b, .bl false, (show [V.ref a, V.ref b, V.bl (decide (x.e ≤ y.e))] = [V.ref a, V.ref b, V.bl false] by rw [decide_eq_false c]), ?_⟩
      have hF3 : T3 H2 q y := hy2
      have hC3 : T3 H2 p x := hx2
      have ef : fiN x y = y := if_neg c
      have ec : coN x y = x := if_neg c
      have elo : loN x y = 0 - moN y x := if_neg c
      have ehi : hiN x y = 0 - leN y x := if_neg c
      simp only [ef, ec] at of oc hfc
      have szs := sizes of oc (by first | exact sx | exact sy) (by first | exact sy | exact sx) (by first | exact srx | exact sry) (by first | exact sry | exact srx)
      have dl := dlt_le of oc hfc x.a
      refine ⟨_, rfl, _, rfl, iteF ⟨_, rfl, _, rfl, (by show 2 ≤ sizeLine; decide), fun t ht => ⟨t, _, rfl, SqT.of upd_same, rfl, _, _, rfl, _, _, rfl, rfl, ?_⟩⟩⟩
      have s3 := Same.new (o := .tup [.ref q, .ref p]) ht
      have hx3 := hx2.same s3
      have hy3 := hy2.same s3
      refine ⟨_, rfl, _, rfl, _, rfl, p, _, 1, _, rfl, rfl, SqT.of hx3, rfl, ⟨p, x, q, y, _, rfl, hx3, hy3, ox, oy, ?_⟩⟩
      refine ⟨_, rfl, _, rfl, _, rfl, p, _, 1, _, rfl, rfl, SqT.of hx3, rfl, _, _, rfl, rfl, ⟨p, x, q, y, _, rfl, hx3, hy3, ox, oy, (by show 2 ≤ sizeLine; decide), fun pl hpl => ?_⟩⟩
      refine ⟨pl, [ldt x y x.a, ldt x y (x.a + 1)], rfl, SqL.of upd_same, (by show 2 < 64; decide), fun ns' ps prm srt hps => ?_⟩
      have ens : ns' = [loN x y, hiN x y] := by
        rw [two_sorted prm srt, ldt_swap, ldt_swap, dlt_top of oc hfc, dlt_low of oc hfc, elo, ehi]
        split
        · first | rfl | (rw [show 0 - moN y x = 0 - leN y x by omega])
        · first | rfl | omega
      subst ens
      have s4 := s3.trans ((Same.new (o := .lst ([ldt x y x.a, ldt x y (x.a + 1)].map V.int)) hpl).trans (Same.new (o := .lst ([loN x y, hiN x y].map V.int)) hps))
      have e4 : (upd (upd (upd H2 t (.tup [.ref q, .ref p])) pl (.lst ([ldt x y x.a, ldt x y (x.a + 1)].map V.int))) ps (.lst ([loN x y, hiN x y].map V.int))) ps = some (.lst ([loN x y, hiN x y].map V.int)) := upd_same
      change (tSeq _ _) _ _ (upd (upd (upd H2 t (.tup [.ref q, .ref p])) pl (.lst ([ldt x y x.a, ldt x y (x.a + 1)].map V.int))) ps (.lst ([loN x y, hiN x y].map V.int)))
      revert s4 e4
      generalize upd (upd (upd H2 t (.tup [.ref q, .ref p])) pl (.lst ([ldt x y x.a, ldt x y (x.a + 1)].map V.int))) ps (.lst ([loN x y, hiN x y].map V.int)) = H4
      intro s4 e4
      change (tSeq _ _) _ [some (.ref tp), some (.ref p), some (.ref q), some (.ref a), some (.ref b), some (.bl false), some (.ref q), some (.ref p), some (.ref ps), none, none, none, none, none, none, none, none] H4
      have hx4 := hx2.same s4
      have hy4 := hy2.same s4
      have La4 := La2.same s4
      have Lb4 := Lb.same s4
      apply share2 (fun (s : Int) (H5 : Hp) => s = (if loN x y < hiN x y then y.e else 0) ∧ H5 = H4)
      · intro rest
        refine ⟨_, rfl, ps, _, 0, _, rfl, rfl, SqL.of e4, at0, _, rfl, ps, _, 1, _, rfl, rfl, SqL.of e4, rfl, _, _, rfl, rfl, _, rfl, ifD (fun z => ?_) (fun z => ?_)⟩
        · refine ⟨_, rfl, q, _, 0, _, rfl, rfl, SqT.of hy4, at0, ?_⟩
          obtain ⟨w, hw⟩ : ∃ w, w = y.e := ⟨_, rfl⟩
          rw [← hw]
          exact rest w H4 ⟨by rw [if_pos z, hw], rfl⟩
        · exact rest 0 H4 ⟨by rw [if_neg z], rfl⟩
      rintro st H5 ⟨hst, rfl⟩
      have sst : Sz 1000 st := by
        rw [hst]
        split
        · first | exact sx.mono (by decide) | exact sy.mono (by decide)
        · exact Sz.of (by decide +kernel) (by decide +kernel)
      have edi : diN x y = (loN x y, hiN x y, st) := by
        rw [hst, elo, ehi]
        unfold diN
        rw [if_neg c]
        all_goals first | rfl | (congr 2; split <;> split <;> omega)
      have slo : Sz 1000 (loN x y) := by rw [elo]; exact szs.2.2.2
      have shi : Sz 1000 (hiN x y) := by rw [ehi]; exact szs.2.2.1
      refine ⟨_, rfl, _, rfl, ⟨a, k, x, b, j, y, rfl, La4, Lb4, ox, oy, hd, sx, sy, srx, sry, fun r H6 s6 e6 => ?_⟩⟩
      rw [edi] at e6
      refine ⟨r, _, rfl, .tup (SqT.of e6) (.cons (.int _) (.cons (.int _) (.cons (.int _) .nil))), fit3 slo shi sst, ?_⟩
      have e46 := s6 _ _ e4
      refine ⟨_, rfl, ps, _, 0, _, rfl, rfl, SqL.of e46, at0, _, rfl, ps, _, 1, _, rfl, rfl, SqL.of e46, rfl, _, rfl, (by show 3 ≤ sizeLine; decide), fun t2 ht2 => ?_⟩
      refine ⟨t2, _, rfl, .tup (SqT.of upd_same) (.cons (.int _) (.cons (.int _) (.cons (.int _) .nil))), fit3 slo shi sst, rfl, _, rfl, iteNS rfl ?_⟩
      have s7 := s6.trans (Same.new (o := .tup [.int (loN x y), .int (hiN x y), .int st]) ht2)
      -- the worst start
      change (tSeq _ _) _ [some (.ref tp), some (.ref p), some (.ref q), some (.ref a), some (.ref b), some (.bl false), some (.ref q), some (.ref p), some (.ref ps), some (.int st), none, none, none, none, none, none, none] _
      obtain ⟨w, hw, w0, w1, w2, w3⟩ := ws_right ox oy hd
      rw [ec] at w1
      refine ⟨_, rfl, _, rfl, ⟨a, k, x, b, j, y, rfl, La4.same s7, Lb4.same s7, ox, oy, hd, sx, sy, srx, sry, fun H8 s8 => ?_⟩⟩
      rw [hw]
      have s78 := s7.trans s8
      have hx8 := hx4.same s78
      have hy8 := hy4.same s78
      have e8 := s78 _ _ e4
      refine ⟨_, rfl, _, w, rfl, rfl, _, rfl, ifT w0 ⟨_, rfl, p, _, 0, _, rfl, rfl, SqT.of hx8, at0, w, _, rfl, rfl, _, rfl, iteNS w1 ?_⟩⟩
      refine ⟨_, rfl, _, rfl, _, rfl, ⟨p, x, q, y, w, rfl, hx8, hy8, ox, oy, _, rfl, ps, _, 1, _, rfl, rfl, SqL.of e8, rfl, rfl, _, rfl, iteNS (congrArg V.int w2) ?_⟩⟩
      refine ⟨_, rfl, _, rfl, _, rfl, w, _, rfl, rfl, ⟨p, x, q, y, w - 1, rfl, hx8, hy8, ox, oy, _, rfl, _, rfl, ⟨p, x, q, y, 0, rfl, hx8, hy8, ox, oy, (by show 2 ≤ sizeLine; decide), fun pm hpm => ?_⟩⟩⟩
      change (tSeq _ _) _ [some (.ref tp), some (.ref p), some (.ref q), some (.ref a), some (.ref b), some (.bl false), some (.ref q), some (.ref p), some (.ref ps), some (.int st), some (.int w), some (.ref pm), none, none, none, none, none] _
      have s9 := Same.new (o := .lst [.int (ldt x y (w - 1)), .int (ldt x y 0)]) hpm
      have e9 := s9 _ _ e8
      apply share
      · intro rest
        refine ⟨_, rfl, w, _, rfl, rfl, _, rfl, ifD (fun z => ?_) (fun z => ?_)⟩
        · refine ⟨_, rfl, ps, _, 1, _, rfl, rfl, SqL.of e9, rfl, _, rfl, pm, _, rfl, .inl (SqL.of upd_same), rfl, rfl, ?_⟩
          rw [inV_no (w3 z).1.symm (w3 z).2.symm]
          refine ⟨_, rfl, iteF ?_⟩
          exact rest
        · exact iteF rest
      have hx9 := hx8.same s9
      have hy9 := hy8.same s9
      -- the counts
      refine ⟨_, rfl, _, rfl, ⟨q, y, p, x, 1, rfl, hy9, hx9, of, oc, hfc, _, rfl, _, rfl, ⟨q, y, p, x, 0, rfl, hy9, hx9, of, oc, hfc, _, _, rfl, ?_⟩⟩⟩
      refine ⟨_, rfl, p, _, 0, _, rfl, rfl, SqT.of hx9, at0, _, rfl, _, _, rfl, rfl, _, rfl, _, rfl, _, _, rfl, rfl, _, rfl, (by show 3 ≤ sizeLine; decide), fun tc htc => ?_⟩
      change (tSeq _ _) _ [some (.ref tp), some (.ref p), some (.ref q), some (.ref a), some (.ref b), some (.bl false), some (.ref q), some (.ref p), some (.ref ps), some (.int st), some (.int w), some (.ref pm), some (.int (cntN y x 1)), some (.int (cntN y x 0)), some (.ref tc), none, none] _
      have k0 := cnt_in (f := y) oc 0
      have k1 := cnt_in (f := y) oc 1
      have c1 := oc.1
      have sce : Sz 500 x.e := by first | exact sx | exact sy
      have bnd : ∀ v : Int, -x.e ≤ v → v ≤ x.e → Sz 1000 v := fun v v0 v1 => by
        have := sce
        refine Sz.mono (a := 500) ?_ (by decide)
        unfold Sz at *
        omega
      have scA := bnd (x.e - cntN y x 0) (by omega) (by omega)
      have scB := bnd (cntN y x 0 - cntN y x 1) (by omega) (by omega)
      have scC := bnd (cntN y x 1) (by omega) (by omega)
      have ecs : csN x y = (cntN y x 1, cntN y x 0 - cntN y x 1, x.e - cntN y x 0) := if_neg c
      have s10 := Same.new (o := .tup [.int (x.e - cntN y x 0), .int (cntN y x 0 - cntN y x 1), .int (cntN y x 1)]) htc
      have s710 := s78.trans (s9.trans s10)
      refine ⟨_, rfl, _, rfl, ⟨a, k, x, b, j, y, rfl, La4.same s710, Lb4.same s710, ox, oy, hd, sx, sy, srx, sry, fun r2 H11 s11 e11 => ?_⟩⟩
      rw [ecs] at e11
      refine ⟨r2, _, rfl, .tup (SqT.of e11) (.cons (.int _) (.cons (.int _) (.cons (.int _) .nil))), fit3 scC scB scA, ?_⟩
      refine ⟨_, rfl, _, rfl, iteF ⟨_, rfl, tc, _, _, _, rfl, SqT.of (s11 _ _ upd_same), fun tr htr => ⟨tr, _, rfl, .tup (SqT.of upd_same) (.cons (.int _) (.cons (.int _) (.cons (.int _) .nil))), fit3 scC scB scA, rfl, _, rfl, iteNS rfl ?_⟩⟩⟩
      have s12 := Same.new (o := .tup [.int (cntN y x 1), .int (cntN y x 0 - cntN y x 1), .int (x.e - cntN y x 0)]) htr
      have sL := s4.trans (s710.trans (s11.trans s12))
      have hxL := hx2.same sL
      have hyL := hy2.same sL
      have LaL := La2.same sL
      have LbL := Lb.same sL
      have tL := hT.same (s12'.trans sL)
      refine ⟨fun σ HZ => Ext (fdM tp) H HZ ∧ Tp tp N HZ, ?_, fun σ HZ h => hq _ h.1 h.2⟩
      have p59 : (1 : Int) ≤ 10 ^ (59 : Int).toNat := by decide +kernel
      have q59 : (10 : Int) ^ (59 : Int).toNat ≤ 10 ^ 62 := by decide +kernel
      refine ⟨_, rfl, _, rfl, _, _, rfl, rfl, ⟨by decide, by decide, by decide⟩, ⟨tp, N + 1, _, rfl, tL, p59, sc _ p59 q59, fun v1 HM g1 l1 xM tM => ?_⟩⟩
      refine ⟨_, rfl, _, _, rfl, rfl, ⟨by decide, by decide, by decide⟩, ⟨tp, N, _, rfl, tM, p59, sc _ p59 q59, fun v2 HN g2 l2 xN tN => ⟨_, _, rfl, rfl, ?_⟩⟩⟩
      have xMN := xM.trans xN
      have hxN : T3 HN p x := tL.tup xMN hxL
      have hyN : T3 HN q y := tL.tup xMN hyL
      have LaN := tL.line xMN LaL
      have LbN := tL.line xMN LbL
      refine ⟨_, rfl, p, _, 1, _, rfl, rfl, SqT.of hxN, rfl, _, rfl, p, _, 1, _, rfl, rfl, SqT.of hxN, rfl, _, _, rfl, rfl, (by show 6 ≤ sizeLine; decide), fun pz hpz => ?_⟩
      have sz := Same.new (o := .lst (([0, -1, v1, 0 - v2, x.a, x.a + 1] : List Int).map V.int)) hpz
      refine ⟨pz, rfl, ⟨_, SqL.of upd_same⟩, ?_⟩
      have ez : (upd HN pz (.lst (([0, -1, v1, 0 - v2, x.a, x.a + 1] : List Int).map V.int))) pz = some (.lst (([0, -1, v1, 0 - v2, x.a, x.a + 1] : List Int).map V.int)) := upd_same
      refine for_list (K := K) (a := pz) (xs := ([0, -1, v1, 0 - v2, x.a, x.a + 1] : List Int).map V.int) (fun i σ HQ => (∃ z15 z16, σ = [some (.ref tp), some (.ref p), some (.ref q), some (.ref a), some (.ref b), some (.bl false), some (.ref q), some (.ref p), some (.ref ps), some (.int st), some (.int w), some (.ref pm), some (.int (cntN y x 1)), some (.int (cntN y x 0)), some (.ref tc), z15, z16]) ∧ Same (upd HN pz (.lst (([0, -1, v1, 0 - v2, x.a, x.a + 1] : List Int).map V.int))) HQ) ⟨⟨none, none, rfl⟩, Same.refl _⟩ (fun i σ HQ _ h => SqL.of (h.2 _ _ ez)) ?_ ?_
      · rintro i xv σ HQ hi ⟨⟨z15, z16, rfl⟩, sQ⟩
        obtain ⟨m, hm, rfl⟩ := get_ints hi
        have hm' := List.mem_of_getElem? hm
        have sm : Sz 700 m := by
          have b1 : Sz 700 v1 := Sz.le g1 (Int.le_of_lt l1) (Sz.of (by decide +kernel) (by decide +kernel))
          have b2 : Sz 700 (0 - v2) := by
            have : Sz 700 v2 := Sz.le g2 (Int.le_of_lt l2) (Sz.of (by decide +kernel) (by decide +kernel))
            unfold Sz at *
            omega
          have b3 : Sz 500 x.a := Sz.le oc.2.1 (Int.le_of_lt oc.2.2.1) sce
          simp only [List.mem_cons, List.not_mem_nil, or_false] at hm'
          rcases hm' with e | e | e | e | e | e <;> rw [e]
          · exact Sz.of (by decide +kernel) (by decide +kernel)
          · exact Sz.of (by decide +kernel) (by decide +kernel)
          · exact b1
          · exact b2
          · exact b3.mono (by decide)
          · exact (Sz.add b3 (j := 1) (Sz.of (by decide +kernel) (by decide +kernel))).mono (by decide)
        have sQ' := sz.trans sQ
        refine ⟨_, rfl, _, rfl, _, rfl, (by show 3 ≤ sizeLine; decide), fun tt htt => ⟨_, rfl, ⟨tt, q, y, p, x, false, m, rfl, upd_same, (hyN.same sQ').same (Same.new htt), (hxN.same sQ').same (Same.new htt), of, oc, hfc, ?_⟩⟩⟩
        have efe : (if (false : Bool) = true then fbN y x 0 m else ffN y x 1 m) = feN x y m := by
          unfold feN
          rw [if_neg c]
          rfl
        rw [efe]
        have sT := sQ'.trans (Same.new (o := .tup [.ref q, .ref p, .bl false]) htt)
        have lg : ∀ j, feN x y m = some j → j.natAbs.log2 < 1920 := by
          intro j hj
          rcases fe_right ox oy hd m with h | ⟨s, h, h1, h2, _⟩
          · rw [h] at hj; cases hj
          · rw [h] at hj
            obtain rfl := Option.some.inj hj
            rw [ec] at h2
            have : Sz 701 s := by
              unfold Sz at *
              have p1 : (2 : Nat) ^ 701 = 2 ^ 700 * 2 := by rw [Nat.pow_succ]
              have p2 : (2 : Nat) ^ 500 ≤ 2 ^ 700 := Nat.pow_le_pow_right (by decide) (by decide)
              omega
            exact this.log
        refine ⟨_, rfl, _, rfl, _, rfl, ⟨a, k, x, b, j, y, m, rfl, LaN.same sT, LbN.same sT, ox, oy, hd, sx, sy, srx, sry, fun HR sR => ⟨feN x y m, rfl, lg, _, rfl, feN x y m, rfl, lg, rfl, _, rfl, iteNS rfl ?_⟩⟩⟩
        have fin : (∃ z15 z16, ([some (.ref tp), some (.ref p), some (.ref q), some (.ref a), some (.ref b), some (.bl false), some (.ref q), some (.ref p), some (.ref ps), some (.int st), some (.int w), some (.ref pm), some (.int (cntN y x 1)), some (.int (cntN y x 0)), some (.ref tc), some (.int m), some (optV (feN x y m))] : L2.St) = [some (.ref tp), some (.ref p), some (.ref q), some (.ref a), some (.ref b), some (.bl false), some (.ref q), some (.ref p), some (.ref ps), some (.int st), some (.int w), some (.ref pm), some (.int (cntN y x 1)), some (.int (cntN y x 0)), some (.ref tc), z15, z16]) ∧ Same (upd HN pz (.lst (([0, -1, v1, 0 - v2, x.a, x.a + 1] : List Int).map V.int))) HR := ⟨⟨_, _, rfl⟩, sQ.trans ((Same.new htt).trans sR)⟩
        rcases fe_right ox oy hd m with h | ⟨s, h, h1, h2, h3⟩
        · rw [h] at fin ⊢
          exact ⟨_, rfl, rfl, _, rfl, iteF fin⟩
        · rw [h] at fin ⊢
          refine ⟨_, rfl, rfl, _, rfl, iteT ⟨_, rfl, _, rfl, _, rfl, ⟨p, x, q, y, s, rfl, (hxN.same sT).same sR, (hyN.same sT).same sR, ox, oy, _, _, rfl, rfl, _, rfl, ifF (by omega) fin⟩⟩⟩
      · rintro σ HQ ⟨_, sQ⟩
        exact ⟨(Ext.same (s12'.trans sL)).trans (xMN.trans (Ext.same (sz.trans sQ))), tN.same (sz.trans sQ)⟩
end
section
variable {w : World} {K : Frag} {mg : Str → Option Value} {base : Heap}
def sp_law (K : Frag) : Sp := fun vs H Q E => ∃ (sa : Addr) (ns : List Int), vs = [.ref sa] ∧ SqL K H sa (ns.map V.int) ∧ ns.length ≤ 63 ∧ ∀ H', Q (.bl true) H'
theorem ok_law (Z : Zs cks fns K mg) : FnG PP w K mg base (L2.CX PP w) 8 (ga K "law") (fdAt K (ga K "law")) ["script"] (sp_law K) := by
  refine Fw.Fun.okG (u_law Z) sc_law (fun vs H Q E h => ?_) (fun cdv A outer s H vs Q E hg hr h => ?_)
  · obtain ⟨_, _, rfl, _⟩ := h
    rfl
  · obtain ⟨sa, ns, rfl, ⟨hS, hlen, hq⟩⟩ := h
    refine ⟨_, (C8.pss_cut (ps_for (passes_of rfl) rfl (pi_range1 rfl (n_range Z) (pa_cons (pe_callB (call_max2 rfl) rfl (n_max Z) (by decide +kernel) (pa_cons pe_int (pa_cons (pe_callB (call_min2 rfl) rfl (n_min Z) (by decide +kernel) (pa_cons pe_int (pa_cons (pe_callB call_len_seq rfl (n_len Z) (by decide +kernel) (pa_cons (pv 0) pa_nil)) pa_nil))) pa_nil))) pa_nil)) (pg_name (i := 1) sc_law.nd rfl (Or.inl rfl))
        (pss_cons (ps_set (i := 2) sc_law.nd rfl (Or.inl rfl) (pe_call (ok__law_tape Z) (hr.mono (by decide)) rfl (g__law_tape Z) (u__law_tape Z).kp (b__law_tape Z) .nil passL (pa_cons (pv 0) (pa_cons (pv 1) pa_nil))))
      (pss_one (ps_for (passes_of rfl) rfl (pi_range1 rfl (n_range Z) (pa_cons pe_int pa_nil)) (pg_name (i := 3) sc_law.nd rfl (Or.inl rfl))
        (pss_cons (ps_asg (pe_call (ok__law_two Z) (hr.mono (by decide)) rfl (g__law_two Z) (u__law_two Z).kp (b__law_two Z) .nil passL (pa_cons (pv 2) (pa_cons (pe_ix ix_list (pe_lst (pa_cons (pe_op op_pow pe_int pe_int) (pa_cons (pe_op op_pow pe_int pe_int) (pa_cons (pe_op op_pow pe_int pe_int) (pa_cons (pe_op op_pow pe_int pe_int) pa_nil))))) (pv 3) (fun _ _ => rfl)) pa_nil))) (pg_tup rfl (pgs_cons (pg_name (i := 4) sc_law.nd rfl (Or.inl rfl)) (pgs_cons (pg_name (i := 5) sc_law.nd rfl (Or.inl rfl)) pgs_nil))))
      (pss_one (ps_if (PW.pt (pw_or (pt_not (pt_val (pe_callG (ok__law_right Z) hg (hr.mono (by decide)) rfl (g__law_right Z) (u__law_right Z).kp (b__law_right Z) passL (pa_cons (pv 2) (pa_cons (pv 4) (pa_cons (pv 5) pa_nil)))))) (pw_or1 (pt_not (pt_val (pe_callG (ok__law_right Z) hg (hr.mono (by decide)) rfl (g__law_right Z) (u__law_right Z).kp (b__law_right Z) passL (pa_cons (pv 2) (pa_cons (pv 5) (pa_cons (pv 4) pa_nil)))))))))
        (pss_one (ps_ret pe_bl))
        pss_nil)))))))
      (pss_cons (ps_par (i := 6) (j := 7) rfl sc_law.nd rfl rfl (by decide) rfl rfl (pa_cons (pe_make (M_Line Z) (ok_Line_init Z) (hr.mono (by decide)) rfl (g_Line Z) (b_Line_init Z) .nil passL (pa_cons (pe_op op_pow pe_int pe_int) (pa_cons pe_int (pa_cons pe_int pa_nil)))) (pa_cons (pe_make (M_Line Z) (ok_Line_init Z) (hr.mono (by decide)) rfl (g_Line Z) (b_Line_init Z) .nil passL (pa_cons pe_int (pa_cons pe_int (pa_cons pe_int pa_nil)))) pa_nil)) rfl)
      (pss_one (ps_ret (pe_and (pe_cmpR (op_eqD hr.units) (pe_call (ok_differences Z) (hr.mono (by decide)) rfl (g_differences Z) (u_differences Z).kp (b_differences Z) .nil passL (pa_cons (pv 6) (pa_cons (pv 7) pa_nil))) (pe_tup (pa_cons pe_int (pa_cons (pe_op op_sub (pe_op op_pow pe_int pe_int) pe_int) (pa_cons pe_int pa_nil)))) (nomark _)) (pe_one (pe_cmpR op_eq (pe_call (ok_worst_start Z) (hr.mono (by decide)) rfl (g_worst_start Z) (u_worst_start Z).kp (b_worst_start Z) .nil passL (pa_cons (pv 6) (pa_cons (pv 7) pa_nil))) pe_int (nomark _)))))))), ?_⟩
    refine ⟨fun σ H2 => ∃ z1 z2 z3 z4 z5 z6 z7, σ = [some (.ref sa), z1, z2, z3, z4, z5, z6, z7], ?_, ?_⟩
    · refine ⟨_, rfl, sa, _, rfl, .inl hS, _, _, rfl, _, _, rfl, _, rfl, ?_⟩
      rw [List.length_map]
      generalize hj : (if (if ((ns.length : Nat) : Int) < 4 then ((ns.length : Nat) : Int) else 4) > 1 then (if ((ns.length : Nat) : Int) < 4 then ((ns.length : Nat) : Int) else 4) else 1) = j
      have hj2 : 1 ≤ j ∧ j ≤ 4 := by
        rw [← hj]
        split <;> split <;> omega
      refine ⟨by omega, by omega, ?_⟩
      refine for_range (lo := 0) (n := j.toNat) (fun i σ H2 => (∃ z1 z2 z3 z4 z5 z6 z7, σ = [some (.ref sa), z1, z2, z3, z4, z5, z6, z7]) ∧ Same H H2) ⟨⟨none, none, none, none, none, none, none, rfl⟩, Same.refl _⟩ ?_ ?_
      · rintro i σ H1 hi ⟨⟨z1, z2, z3, z4, z5, z6, z7, rfl⟩, s1⟩
        refine ⟨_, rfl, _, rfl, ⟨sa, ns, (0 + (i : Nat)), rfl, s1.seq hS, by omega, by omega, fun f H2 s2 nf t2 => ?_⟩⟩
        refine ⟨_, rfl, by decide, by decide, ?_⟩
        refine for_range (lo := 0) (n := 4) (fun m σ H4 => (∃ z3 z4 z5, σ = [some (.ref sa), some (.int (0 + (i : Nat))), some (.ref f), z3, z4, z5, z6, z7]) ∧ Ext (fdM f) H2 H4 ∧ Tp f (2 ^ 30 - 39 * m) H4) ⟨⟨_, _, _, rfl⟩, Ext.refl, t2.less (by decide)⟩ ?_ ?_
        · rintro m σ H4 hm ⟨⟨z3', z4', z5', rfl⟩, x4, t4⟩
          rw [show 2 ^ 30 - 39 * m = (((2 ^ 30 - 39 * (m + 1)) + 2) + 2) + 35 by omega] at t4
          refine ⟨_, rfl, _, _, rfl, rfl, ⟨by decide, by decide, by decide⟩, _, _, rfl, rfl, ⟨by decide, by decide, by decide⟩, _, _, rfl, rfl, ⟨by decide, by decide, by decide⟩, _, _, rfl, rfl, ⟨by decide, by decide, by decide⟩, (by show 4 ≤ sizeLine; decide), fun pl hpl => ?_⟩
          obtain ⟨L, haL, hmL⟩ := at_ints [10 ^ (30 : Int).toNat, 10 ^ (9 : Int).toNat, 10 ^ (57 : Int).toNat, 10 ^ (30 : Int).toNat] (v := 0 + (m : Int)) (by omega) (by show _ < (4 : Int); omega)
          have hL : 1 ≤ L ∧ L ≤ 10 ^ 57 := by
            simp only [List.mem_cons, List.not_mem_nil, or_false] at hmL
            rcases hmL with e | e | e | e <;> rw [e] <;> exact ⟨by decide +kernel, by decide +kernel⟩
          refine ⟨_, rfl, pl, _, _, _, rfl, rfl, SqL.of upd_same, haL, ⟨f, _, L, rfl, t4.same (Same.new hpl), hL.1, by omega, fun q p1 p2 x y H5 ox oy fit ex ey rx ry x5 eq T1 T2 t5 => ⟨q, _, rfl, SqT.of eq, rfl, _, _, rfl, _, _, rfl, rfl, ?_⟩⟩⟩
          have y5 := (Ext.new (M := fdM f) hpl).trans x5
          have z500 : ∀ v : Int, 0 ≤ v → v ≤ 10 ^ 60 → Sz 500 v := fun v v0 v1 => Sz.mono (a := 200) (Sz.le v0 v1 (Sz.of (by decide +kernel) (by decide +kernel))) (by decide)
          have ox1 := ox.1
          have oy1 := oy.1
          have sx := z500 x.e (by omega) (by omega)
          have sy := z500 y.e (by omega) (by omega)
          have srx := z500 x.r ox.2.2.2 (by omega)
          have sry := z500 y.r oy.2.2.2 (by omega)
          refine ⟨_, rfl, _, rfl, _, rfl, ⟨f, _, p1, x, p2, y, rfl, t5, T1, T2, ox, oy, fit, sx, sy, srx, sry, fun H6 x6 t6 => ⟨_, rfl, iteF ?_⟩⟩⟩
          refine ⟨_, rfl, _, rfl, _, rfl, ⟨f, _, p2, y, p1, x, rfl, t6, t5.tup x6 T2, t5.tup x6 T1, oy, ox, fit.symm, sy, sx, sry, srx, fun H7 x7 t7 => ⟨_, rfl, iteF ?_⟩⟩⟩
          exact ⟨⟨_, _, _, rfl⟩, x4.trans (y5.trans (x6.trans x7)), t7⟩
        · rintro σ H4 ⟨⟨z3', z4', z5', rfl⟩, x4, _⟩
          refine ⟨⟨_, _, _, _, _, _, _, rfl⟩, fun b o e => ?_⟩
          have nb : ¬ fdM f b := fun w => by
            rw [show b = f from w] at e
            rw [s1 _ _ e] at nf
            cases nf
          exact x4 _ _ nb (s2 _ _ (s1 _ _ e))
      · rintro σ H2 ⟨h, _⟩
        exact h
    rintro σ H2 ⟨z1, z2, z3, z4, z5, z6, z7, rfl⟩
    have ok1 : N3.ok ⟨10 ^ (30 : Int).toNat, 0, 0⟩ := ⟨by decide +kernel, by decide +kernel, by decide +kernel, by decide +kernel⟩
    have ok2 : N3.ok ⟨1, 0, 0⟩ := ⟨by decide, by decide, by decide, by decide⟩
    refine ⟨_, _, rfl, rfl, ⟨by decide, by decide, by decide⟩, fun x dx hx hd hne => ⟨.line, x, dx, ⟨10 ^ (30 : Int).toNat, 0, 0⟩, rfl, ok1, upd_same, rfl, fun y dy hy hdy hney => ⟨.line, y, dy, ⟨1, 0, 0⟩, rfl, ok2, upd_same, rfl, _, _, rfl, ?_⟩⟩⟩
    have L1 : LnAt K (mkH K (mkH K H2 x dx .line ⟨10 ^ (30 : Int).toNat, 0, 0⟩) y dy .line ⟨1, 0, 0⟩) x .line ⟨10 ^ (30 : Int).toNat, 0, 0⟩ := LnAt.same mkH_at (mkH_same hy hdy)
    have L2 : LnAt K (mkH K (mkH K H2 x dx .line ⟨10 ^ (30 : Int).toNat, 0, 0⟩) y dy .line ⟨1, 0, 0⟩) y .line ⟨1, 0, 0⟩ := mkH_at
    have s30 : Sz 500 (10 ^ (30 : Int).toNat) := Sz.of (by decide +kernel) (by decide +kernel)
    have s1 : Sz 500 (1 : Int) := Sz.of (by decide +kernel) (by decide +kernel)
    have s0 : Sz 500 (0 : Int) := Sz.of (by decide +kernel) (by decide +kernel)
    refine ⟨_, rfl, _, rfl, ⟨x, .line, ⟨10 ^ (30 : Int).toNat, 0, 0⟩, y, .line, ⟨1, 0, 0⟩, rfl, L1, L2, ok1, ok2, .inr (Int.one_dvd _), s30, s1, s0, s0, fun r HA sA eA => ?_⟩⟩
    rw [show diN ⟨10 ^ (30 : Int).toNat, 0, 0⟩ ⟨1, 0, 0⟩ = (0, 10 ^ (30 : Int).toNat - 1, 1) by decide +kernel] at eA
    refine ⟨_, _, rfl, rfl, ⟨by decide, by decide, by decide⟩, _, _, rfl, rfl, (by show 3 ≤ sizeLine; decide), fun t ht => ?_⟩
    refine ⟨.tuple [.int 0, .int (10 ^ (30 : Int).toNat - 1), .int 1], .tuple [.int 0, .int (10 ^ (30 : Int).toNat - 1), .int 1], .tup (SqT.of (Same.new ht _ _ eA)) (.cons (.int _) (.cons (.int _) (.cons (.int _) .nil))), .tup (SqT.of upd_same) (.cons (.int 0) (.cons (.int (10 ^ (30 : Int).toNat - 1)) (.cons (.int 1) .nil))), by decide +kernel, by decide +kernel, ?_⟩
    rw [show PyData.eqv _ _ = true from by decide +kernel]
    refine ⟨_, rfl, iteT ?_⟩
    have s2 := sA.trans (Same.new (o := .tup [.int 0, .int (10 ^ (30 : Int).toNat - 1), .int 1]) ht)
    refine ⟨_, rfl, _, rfl, ⟨x, .line, ⟨10 ^ (30 : Int).toNat, 0, 0⟩, y, .line, ⟨1, 0, 0⟩, rfl, L1.same s2, L2.same s2, ok1, ok2, .inr (Int.one_dvd _), s30, s1, s0, s0, fun HB sB => ?_⟩⟩
    rw [show wsN ⟨10 ^ (30 : Int).toNat, 0, 0⟩ ⟨1, 0, 0⟩ = some 1 by decide +kernel]
    exact ⟨rfl, qT rfl (hq _)⟩
end
end My
open PySem PySem.W PySem.Calls PyProof.Rows
set_option maxHeartbeats 0 in
theorem PySem.Challenge.cw_onwardlines_k33_great_lines_compared_holds : PySem.Challenge.rw_onwardlines_k33_great_lines_compared.Holds := by
  w_on; o_law
  refine HandSHeadRun.head_any (r := My.R) (q := view My.R.prog [33]) (H := My.hk) (ob := My.ob) (M := 20000) (loose := My.loose) (d := HandSHeadRun.topDef My.R.prog 33) (kwd := []) My.ob_eq (by kernel_rfl) (fun s => by kernel_rfl) My.run (by kernel_rfl) (by kernel_rfl) (by kernel_rfl) (by rfl) (by first | assumption | decide +kernel) (by decide +kernel) ⟨rfl, rfl, rfl, rfl, rfl, by decide +kernel⟩ ?hw ?hc
  case hw => w_witness2
  case hc =>
    exact Fw.endMG (l := PySem.Challenge.rw_onwardlines_k33_great_lines_compared) (k := 8) (N := 6) (spL := My.sp_law) rfl (by kernel_rfl) ⟨rfl, by decide, by decide⟩ (by kernel_rfl)
      (fun w K mg base Z _ _ => My.ok_law Z) (fun K mg Z => My.g_law Z) (fun K mg Z s u => Fw.Fun.bindsAny (My.u_law Z) s u (fun _ _ _ _ _ _ => rfl)) (fun K H a ns hl hO hS => ⟨a, ns, rfl, hS, hl, fun _ => rfl⟩)
