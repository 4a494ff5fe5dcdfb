import PyProof.Rows.All
import Wide.All
import OpenK.AllK
import Wide.FinOn
import KE.KStateDown
import KE.KSuper
import KE.DatumIndex
import HandS.ForMost
import HandS.ForExc
import HandS.Wide
import HandS.WideBits
import HandS.Property
import HandS.Star
import HandS.IsInst
import HandS.FStr
import HandS.RaiseMore
import HandS.OwnEq
import HandS.Flow
import HandS.Style
import HandS.TryMany
import HandS.MakeKw
import HandS.Defaults
import HandS.Zip
import HandS.Head2
import HandS.HeadEnd
import HandS.HeadHook2
import HandS.Nested
import HandS.Walk
import PySem.Challenge.RW_onwardlines_k41_rounds_one_by_one
set_option Elab.async false
set_option linter.all false
set_option maxRecDepth 100000
set_option maxHeartbeats 4000000
/-! Fw, part A: what the top has left, read by a hook of our own: checks of the written part, and defs by their places. -/
namespace Fw
open PySem PySem.Spec PyProof.Rows L2
open He (ga ma frG growD frG_in eqO eqO_ok relB relB_ok)
abbrev Frag := PySem.W.Frag
abbrev Ck := Frag → Bool
/-- the function at f: its name, qualified name, parameters, body, scope, the names it closes over -/
abbrev FnM : Type := Option (Str × Str × Arguments × FuncBody × Scope × Addr × List Str × Value × Addr)
def fnM (K : Frag) (f : Addr) : FnM := match K.lookup f with
  | some ⟨_, _, .func fd, _⟩ => some (fd.name, fd.qualname, fd.params, fd.body, fd.scope, fd.globals, fd.closure.map (fun c => c.1), fd.defaults, fd.builtins)
  | _ => none
structure DefM where
  at_ : Frag → Addr
  name : Str
  qual : Str
  st : Stmt
  clo : List Str := []
def DefM.val (d : DefM) : FnM := some (d.name, d.qual, defArgs d.st, .stmts (defBody d.st), defScope d.st, mainGlobals, d.clo, .none, builtinsNs)
def DefM.ok (K : Frag) (d : DefM) : Bool := PySem.W.keepIn K (.ref (d.at_ K)) && (match K.lookup (d.at_ K) with
  | some ⟨_, _, .func fd, _⟩ => PySem.W.codeIn K fd.code d.qual
  | _ => false)
/-- the function object at f -/
def fdAt (K : Frag) (f : Addr) : FuncData := match K.lookup f with
  | some ⟨_, _, .func fd, _⟩ => fd
  | _ => PySem.W.fnOf Str.empty Str.empty ⟨[], [], none, [], [], none, []⟩ [] ⟨.function, [], false, false, []⟩ .none .none .none .none none .none .none
theorem DefM.fun {K : Frag} {d : DefM} (e : fnM K (d.at_ K) = d.val) (c : d.ok K = true) (hc : d.clo = []) : Fun K d.name d.qual d.st (d.at_ K) (fdAt K (d.at_ K)) := by
  obtain ⟨kp, c2⟩ := Bool.and_eq_true_iff.mp c
  unfold fnM at e
  unfold fdAt
  cases q : K.lookup (d.at_ K) with
  | none => rw [q] at c2; cases c2
  | some o =>
    obtain ⟨oc, od, dt, osl⟩ := o
    rw [q] at c2 e
    cases dt with
    | func fd =>
      obtain ⟨n1, n2, n3, n4, n5, n6, n7, n8, n9, n10, n11, n12, n13, n14, n15⟩ := fd
      have e2 : (some (n1, n2, n3, n4, n5, n6, n7.map (fun c => c.1), n8, n15) : FnM) = some (d.name, d.qual, defArgs d.st, .stmts (defBody d.st), defScope d.st, mainGlobals, d.clo, .none, builtinsNs) := e
      rw [hc] at e2
      simp only [Option.some.injEq, Prod.mk.injEq, List.map_eq_nil_iff] at e2
      obtain ⟨h1, h2, h3, h4, h5, h6, h7, h8, h9⟩ := e2
      subst h1 h2 h3 h4 h5 h6 h7 h8 h9
      exact ⟨⟨oc, od, n9, n10, n11, n12, n13, n14, osl, rfl, q, c2⟩, kp⟩
    | _ => cases c2
/-- a def that closes over one name -/
structure FunC (K : Frag) (x qual y : Str) (st : Stmt) (f : Addr) : Prop where
  ex : ∃ (oc : Value) (od : Option Addr) (cc : Addr) (kV doc pm : Value) (an : Option Addr) (cdv ct : Value) (osl : Array (Option Value)),
    K.lookup f = some ⟨oc, od, .func (PySem.W.fnX x qual (defArgs st) (defBody st) (defScope st) [(y, cc)] .none kV doc pm an cdv ct), osl⟩ ∧ PySem.W.codeIn K cdv qual = true
  kp : PySem.W.keepIn K (.ref f) = true
theorem DefM.func {K : Frag} {d : DefM} {y : Str} (e : fnM K (d.at_ K) = d.val) (c : d.ok K = true) (hc : d.clo = [y]) : FunC K d.name d.qual y d.st (d.at_ K) := by
  obtain ⟨kp, c2⟩ := Bool.and_eq_true_iff.mp c
  unfold fnM at e
  cases q : K.lookup (d.at_ K) with
  | none => rw [q] at c2; cases c2
  | some o =>
    obtain ⟨oc, od, dt, osl⟩ := o
    rw [q] at c2 e
    cases dt with
    | func fd =>
      obtain ⟨n1, n2, n3, n4, n5, n6, n7, n8, n9, n10, n11, n12, n13, n14, n15⟩ := fd
      have e2 : (some (n1, n2, n3, n4, n5, n6, n7.map (fun c => c.1), n8, n15) : FnM) = some (d.name, d.qual, defArgs d.st, .stmts (defBody d.st), defScope d.st, mainGlobals, d.clo, .none, builtinsNs) := e
      rw [hc] at e2
      simp only [Option.some.injEq, Prod.mk.injEq] at e2
      obtain ⟨h1, h2, h3, h4, h5, h6, h7, h8, h9⟩ := e2
      obtain ⟨cc, rfl⟩ : ∃ cc, n7 = [(y, cc)] := by
        match n7, h7 with
        | [(a, b)], h7 =>
          simp only [List.map_cons, List.map_nil, List.cons.injEq, and_true] at h7
          exact ⟨b, by rw [h7]⟩
      subst h1 h2 h3 h4 h5 h6 h8 h9
      exact ⟨⟨oc, od, cc, n9, n10, n11, n12, n13, n14, osl, q, c2⟩, kp⟩
    | _ => cases c2

/-! ### the hook -/
/-- what the module's names and the statics reach in n steps -/
def asM (g : Addr → Option Obj) : Nat → List Addr
  | 0 => [mainGlobals, cStatics]
  | n + 1 => growD g (asM g n)
abbrev AlM : Type := Bool × List FnM
def obsM (ck : List Ck) (fn : List DefM) (K : Frag) : AlM := ((ck.all fun f => f K) && fn.all fun d => d.ok K, fn.map fun d => fnM K (d.at_ K))
def valM (fn : List DefM) : AlM := (true, fn.map DefM.val)
def SaysM (ck : List Ck) (fn : List DefM) (K : Frag) : Prop := obsM ck fn K = valM fn
def obsMG (n : Nat) (ck : List Ck) (fn : List DefM) (g : Addr → Option Obj) : AlM := obsM ck fn (frG g (asM g n))
def hookM (n : Nat) (ck : List Ck) (fn : List DefM) : PySem.W.Hook where
  α := AlM
  obs := fun s => obsMG n ck fn s.heap.get?
  val := fun _ => valM fn
  says := fun _ h => ∃ K : Frag, K.In h ∧ SaysM ck fn K
  of := fun _ _ e => ⟨_, frG_in, e⟩
  keeps := fun _ _ _ ⟨K, hK, c⟩ k => ⟨K, PySem.W.Frag.In.keeps hK k, c⟩
theorem obsMG_eq {n : Nat} {ck : List Ck} {fn : List DefM} {g : Addr → Option Obj} {s : Shared} (h : ∀ a, g a = s.heap.get? a) : obsMG n ck fn g = (hookM n ck fn).obs s := by
  have e : g = s.heap.get? := funext h
  rw [e] <;> rfl
/-- what the end leans on -/
structure Zs (ck : List Ck) (fn : List DefM) (K : Frag) (mg : Str → Option Value) : Prop where
  says : SaysM ck fn K
  ns : ∃ h : Heap, K.In h ∧ h.Ns mainGlobals mg
section
variable {ck : List Ck} {fn : List DefM} {K : Frag} {mg : Str → Option Value}
theorem Zs.c (Z : Zs ck fn K mg) (i : Nat) {f : Ck} (h : ck[i]? = some f := by rfl) : f K = true := by
  have c1 := (Bool.and_eq_true_iff.mp (show ((ck.all fun f => f K) && fn.all fun d => d.ok K) = true from congrArg (fun z : AlM => z.1) Z.says)).1
  exact List.all_eq_true.mp c1 f (List.mem_of_getElem? h)
theorem Zs.f0 (Z : Zs ck fn K mg) (i : Nat) {d : DefM} (h : fn[i]? = some d) : fnM K (d.at_ K) = d.val ∧ d.ok K = true := by
  have c2 := (Bool.and_eq_true_iff.mp (show ((ck.all fun f => f K) && fn.all fun d => d.ok K) = true from congrArg (fun z : AlM => z.1) Z.says)).2
  have e : fn.map (fun d => fnM K (d.at_ K)) = fn.map DefM.val := congrArg (fun z : AlM => z.2) Z.says
  have e2 : (fn.map fun d => fnM K (d.at_ K))[i]? = (fn.map DefM.val)[i]? := by rw [e]
  rw [List.getElem?_map, List.getElem?_map, h] at e2
  exact ⟨Option.some.inj e2, List.all_eq_true.mp c2 d (List.mem_of_getElem? h)⟩
theorem Zs.f (Z : Zs ck fn K mg) (i : Nat) {d : DefM} (h : fn[i]? = some d := by rfl) (hc : d.clo = [] := by rfl) : Fun K d.name d.qual d.st (d.at_ K) (fdAt K (d.at_ K)) :=
  DefM.fun (Z.f0 i h).1 (Z.f0 i h).2 hc
theorem Zs.fc (Z : Zs ck fn K mg) (i : Nat) {d : DefM} {y : Str} (h : fn[i]? = some d := by rfl) (hc : d.clo = [y] := by rfl) : FunC K d.name d.qual y d.st (d.at_ K) :=
  DefM.func (Z.f0 i h).1 (Z.f0 i h).2 hc
end
/-! ### checks -/
def cGlo (x : Str) : Ck := fun K => (He.Fa.glo x).ok K
def cFree (x : Str) : Ck := fun K => (He.Fa.free x).ok K
def cInt (x : Str) (i : Int) : Ck := fun K => (He.Fa.int x i).ok K
def cCls (x : Str) : Ck := fun K => (He.Fa.cls x).ok K
def cNoat (x f : Str) : Ck := fun K => (He.Fa.noat x f).ok K
def cMeth (x m : Str) : Ck := fun K => (He.Fa.meth x m).ok K
def cMkr (x : Str) : Ck := fun K => (He.Fa.mkr x).ok K
def cKeep (x : Str) : Ck := fun K => (He.Fa.keep x).ok K
/-- the property f of the class named x; its getter -/
def prA (K : Frag) (C : Addr) (f : Str) : Addr := match PySem.W.recIn K (ma K C f) "property" with
  | some (.ref g :: _) => g
  | _ => 0
def cProp (x f : Str) : Ck := fun K => eqO (PySem.W.findIn K (.ref (ga K x)) f) (some (some (.ref (ma K (ga K x) f)))) &&
  (eqO (PySem.W.specialIn K (.ref (ma K (ga K x) f)) "__get__") (some (some (.builtin "property.__get__"))) && (decide (PySem.W.takesIn K (.ref (ma K (ga K x) f)) = some true) &&
  (match PySem.W.recIn K (ma K (ga K x) f) "property" with
  | some (.ref g :: _) => true
  | _ => false)))
/-- the same getter in both classes -/
def cSameP (x y f : Str) : Ck := fun K => decide (prA K (ga K x) f = prA K (ga K y) f)
def cSameM (x y f : Str) : Ck := fun K => decide (ma K (ga K x) f = ma K (ga K y) f)
/-- an instance of the class named x may be called -/
def cCall (x : Str) : Ck := fun K => eqO (PySem.W.findIn K (.ref (ga K x)) "__call__") (some (some (.ref (ma K (ga K x) "__call__")))) && (PySem.W.isFn K (.ref (ma K (ga K x) "__call__")) && PySem.W.fnIn K (ma K (ga K x) "__call__"))
/-- a text constant of a class -/
def cCon (x f z : Str) : Ck := fun K => (match PySem.W.findIn K (.ref (ga K x)) f with
  | some (some (.str y t)) => decide (y = z) && (eqO (PySem.W.specialIn K (.str y t) "__get__") (some none))
  | _ => false)
section
variable {K : Frag} {mg : Str → Option Value} {ck : List Ck} {fn : List DefM}
theorem Zs.glo (Z : Zs ck fn K mg) {x : Str} (c : cGlo x K = true) : mg x = some (.ref (ga K x)) := let ⟨_, X, G⟩ := Z.ns; He.glo_ok X G c
theorem Zs.free (Z : Zs ck fn K mg) {x : Str} (c : cFree x K = true) : mg x = none := let ⟨_, X, G⟩ := Z.ns; He.free_ok X G c
theorem Zs.int (Z : Zs ck fn K mg) {x : Str} {i : Int} (c : cInt x i K = true) : ∃ u, mg x = some u ∧ RelV (.int i) u := let ⟨_, X, G⟩ := Z.ns; let ⟨t, e⟩ := He.int_ok X G c; ⟨_, e, t, rfl⟩
theorem cls_of {x : Str} (c : cCls x K = true) : Cls K (ga K x) := He.cls_ok c
theorem noat_of {x f : Str} (c : cNoat x f K = true) : NoAttr K (ga K x) f := He.noat_ok c
theorem meth_of {x m : Str} (c : cMeth x m K = true) : Meth K (ga K x) m (ma K (ga K x) m) := He.meth_ok c
theorem mkr_of {x : Str} (c : cMkr x K = true) : Mk K (ga K x) (ma K (ga K x) "__init__") := He.mkr_ok c
theorem prop_of {x f : Str} (c : cProp x f K = true) : PropOf K (ga K x) f (ma K (ga K x) f) (prA K (ga K x) f) := by
  obtain ⟨c1, c⟩ := Bool.and_eq_true_iff.mp c
  obtain ⟨c2, c⟩ := Bool.and_eq_true_iff.mp c
  obtain ⟨c3, c4⟩ := Bool.and_eq_true_iff.mp c
  refine ⟨eqO_ok c1, eqO_ok c2, of_decide_eq_true c3, ?_⟩
  unfold prA
  cases e : PySem.W.recIn K (ma K (ga K x) f) "property" with
  | none => rw [e] at c4; cases c4
  | some l =>
    rw [e] at c4
    match l, c4 with
    | (.ref g :: r), _ => exact ⟨r, rfl⟩
theorem call_of {x : Str} (c : cCall x K = true) : StX.CallO K (ga K x) (ma K (ga K x) "__call__") := by
  obtain ⟨c1, c⟩ := Bool.and_eq_true_iff.mp c
  obtain ⟨c2, c3⟩ := Bool.and_eq_true_iff.mp c
  exact ⟨eqO_ok c1, c2, c3⟩
theorem con_of {x f z : Str} (c : cCon x f z K = true) (cp : PySem.W.copiedNames.contains f = false) : ∃ u, Con K (ga K x) f (.str z) u := by
  unfold cCon at c
  cases e : PySem.W.findIn K (.ref (ga K x)) f with
  | none => rw [e] at c; cases c
  | some r =>
    rw [e] at c
    match r, c, e with
    | some (.str y t), c, e =>
      obtain ⟨c1, c2⟩ := Bool.and_eq_true_iff.mp c
      have e1 : y = z := of_decide_eq_true c1
      exact ⟨.str y t, e, ⟨t, by rw [e1]⟩, eqO_ok c2, cp⟩
end
theorem Fun.bindsAny {K : Frag} {x qual y : Str} {st : Stmt} {f : Addr} {fd : FuncData} (F : Fun K x qual st f fd) (s : Shared) (u : Value)
    (h : ∀ (kV doc pm : Value) (an : Option Addr) (cdv ct : Value), bindArgs (PySem.W.fnOf x qual (defArgs st) (defBody st) (defScope st) .none kV doc pm an cdv ct) ⟨[u], []⟩ = pure [(y, u)]) : BindsTo s fd ⟨[u], []⟩ [(y, u)] := by
  obtain ⟨oc, od, kV, doc, pm, an, cdv, ct, osl, rfl, lk, hcd⟩ := F.ex
  exact .of_eq (h kV doc pm an cdv ct)
/-! ### the end: a law's def keeps its promise -/
theorem endM {l : PySem.W.OpenLaw} {k N : Nat} {q : Program} {loose : List Str} {d : DefRec} {ck : List Ck} {fn : List DefM} {XP : (Str → Option Value) → Heap → Prop} {spL : Frag → Sp}
    (hn : l.most = some 63) (hdf : d.params.defaults = []) (hr : Room k callerA) (hd : d.name = ("law" : Str))
    (F : ∀ (w : World) (K : Frag) (mg : Str → Option Value) (base : Heap), Zs ck fn K mg → K.In base → base.Ns mainGlobals mg → FnOk l.prog w K mg base (L2.CX l.prog w) k (ga K "law") (fdAt K (ga K "law")) ["script"] (spL K))
    (hg : ∀ (K : Frag) (mg : Str → Option Value), Zs ck fn K mg → mg "law" = some (.ref (ga K "law")))
    (hb : ∀ (K : Frag) (mg : Str → Option Value), Zs ck fn K mg → ∀ (s : Shared) (u : Value), BindsTo s (fdAt K (ga K "law")) ⟨[u], []⟩ [("script", u)])
    (hs : ∀ (K : Frag) (H : Hp) (a : Addr) (ns : List Int), ns.length ≤ 63 → Only H → SqL K H a (ns.map V.int) → spL K [.ref a] H (fun v _ => v = .bl true) fun _ _ _ => False) :
    PySem.W.WalkO q loose XP (hookM N ck fn).says l.row.toRowW d [] (fun f vs => PySem.call f vs) := by
  refine Att.attach_call hn hdf fun w s₀ s₁ mg mb fa o pm cd doc a vs ns G Y ho hd' hcd hmg hobj hints hlen hgn => ?_
  obtain ⟨K, KX, c⟩ := Y
  have Z : Zs ck fn K mg := ⟨c, _, KX, G.T.g⟩
  have e : fa = ga K "law" := by
    have h1 := hg K mg Z
    rw [hd] at hmg
    rw [hmg] at h1
    cases h1
    rfl
  subst e
  exact law_call KX G.T.g G.T.b G.T.builtins G.T.nolimit hgn hobj hints (Nat.le_trans hlen (by decide)) hr (fun base h1 h2 => F w K mg base Z h1 h2) (hb K mg Z) (fun H hO hS => hs K H a ns hlen hO hS) fun H e s' h => by
    obtain ⟨_, _, _, _, _, _, _, _, _, _, _, _, z⟩ := h
    exact z.elim
end Fw

/-! Fw, part B: an __init__ that says super().__init__(..) and no more. -/
namespace Fw
open PySem PySem.Spec PyProof.Rows L2
open He (ga ma eqO eqO_ok)
/-- the address that a cell holds; the file that a code object names -/
def cellOf (K : Frag) (cc : Addr) : Option Addr := match K.lookup cc with
  | some ⟨_, _, .cell (some (.ref a)), _⟩ => some a
  | _ => none
theorem cellOf_ok {K : Frag} {cc D : Addr} (h : cellOf K cc = some D) : ∃ cl cld csl, K.lookup cc = some ⟨cl, cld, .cell (some (.ref D)), csl⟩ := by
  unfold cellOf at h
  split at h
  · rename_i a b c d e
    cases h
    exact ⟨_, _, _, e⟩
  · cases h
def fileOf (K : Frag) (v : Value) : Option Str := match v with
  | .ref c => (match K.lookup c with
    | some ⟨_, _, .fields vs, _⟩ => (match (vs.toList[2]? : Option Value) with
      | some (.str y _) => some y
      | _ => none)
    | _ => none)
  | _ => none
theorem fileOf_ok {K : Frag} {v : Value} {z : Str} (h : fileOf K v = some z) : ∃ c ccl cdd vs ccs t, v = .ref c ∧ K.lookup c = some ⟨ccl, cdd, .fields vs, ccs⟩ ∧ vs.toList[2]? = some (.str z t) := by
  unfold fileOf at h
  split at h
  · split at h
    · split at h
      · rename_i e1 _ _ _ e2
        cases h
        exact ⟨_, _, _, _, _, _, rfl, by assumption, by assumption⟩
      · cases h
    · cases h
  · cases h
def cloCell (K : Frag) (f : Addr) : Option Addr := match K.lookup f with
  | some ⟨_, _, .func fd, _⟩ => (match fd.closure with
    | [p] => cellOf K p.2
    | _ => none)
  | _ => none
def fnFile (K : Frag) (f : Addr) : Option Str := match K.lookup f with
  | some ⟨_, _, .func fd, _⟩ => fileOf K fd.code
  | _ => none
/-- what of the written part such a def leans on: f the def, D its class, f2 the __init__ of the class above, z the text's file -/
def supB (K : Frag) (f D f2 : Addr) (z : Str) : Bool :=
  decide (cloCell K f = some D) && (decide (fnFile K f = some z) &&
  ((PySem.W.clsIn K D).isSome && (decide (PySem.W.mroIn K D (.ref D) = some true) && (eqO (PySem.W.ks_superIn K D D "__init__") (some (some (.ref f2))) &&
  (decide (PySem.W.typeIn K (.ref f2) = some (.type "function")) && (PySem.W.fnIn K f2 && (eqO (PySem.W.nsIn K mainGlobals "super") (some none) && eqO (PySem.W.nsIn K cStatics "thirdparty.any") (some none))))))))
def cSup (x y z : Str) : Ck := fun K => supB K (ma K (ga K x) "__init__") (ga K x) (ma K (ga K y) "__init__") z
structure SupOk (K : Frag) (f D f2 : Addr) (z : Str) (cc : Addr) (cdv : Value) : Prop where
  cell : ∃ cl cld csl, K.lookup cc = some ⟨cl, cld, .cell (some (.ref D)), csl⟩
  code : ∃ c ccl cdd vs ccs t, cdv = .ref c ∧ K.lookup c = some ⟨ccl, cdd, .fields vs, ccs⟩ ∧ vs.toList[2]? = some (.str z t)
  cls : ∃ cd, PySem.W.clsIn K D = some cd
  mro : PySem.W.mroIn K D (.ref D) = some true
  sup : PySem.W.ks_superIn K D D "__init__" = some (some (.ref f2))
  ty : PySem.W.typeIn K (.ref f2) = some (.type "function")
  fi : PySem.W.fnIn K f2 = true
  bsup : PySem.W.nsIn K mainGlobals "super" = some none
  thrd : PySem.W.nsIn K cStatics "thirdparty.any" = some none
theorem supB_ok {K : Frag} {f D f2 : Addr} {z : Str} {fd : FuncData} {oc : Value} {od : Option Addr} {osl : Array (Option Value)} {y : Str} {cc : Addr} (h : supB K f D f2 z = true) (hf : K.lookup f = some ⟨oc, od, .func fd, osl⟩) (hc : fd.closure = [(y, cc)]) : SupOk K f D f2 z cc fd.code := by
  obtain ⟨h0, h⟩ := Bool.and_eq_true_iff.mp h
  obtain ⟨h1, h⟩ := Bool.and_eq_true_iff.mp h
  obtain ⟨h2, h⟩ := Bool.and_eq_true_iff.mp h
  obtain ⟨h3, h⟩ := Bool.and_eq_true_iff.mp h
  obtain ⟨h4, h⟩ := Bool.and_eq_true_iff.mp h
  obtain ⟨h5, h⟩ := Bool.and_eq_true_iff.mp h
  obtain ⟨h6, h⟩ := Bool.and_eq_true_iff.mp h
  obtain ⟨h7, h8⟩ := Bool.and_eq_true_iff.mp h
  have c1 : cloCell K f = some D := of_decide_eq_true h0
  have c2 : fnFile K f = some z := of_decide_eq_true h1
  unfold cloCell at c1
  unfold fnFile at c2
  rw [hf] at c1 c2
  dsimp only at c1 c2
  rw [hc] at c1
  exact ⟨cellOf_ok c1, fileOf_ok c2, Option.isSome_iff_exists.mp h2, of_decide_eq_true h3, eqO_ok h4, of_decide_eq_true h5, h6, eqO_ok h7, eqO_ok h8⟩

/-- the scope of such a def -/
structure SupScope (N ps : List Str) (sc : Scope) : Prop where
  kind : sc.kind = .function
  co : sc.isCoroutine = false
  gen : sc.isGenerator = false
  nd : N.Nodup
  pre : N = ps
  par : ∀ x ∈ ps, sc.names.lookup x = some .local
  nocell : ∀ y ∈ sc.names, y.2 ≠ .cell
  fr : ∀ y ∈ sc.names, y.2 = .free → y.1 = "__class__"
  ks : sc.names.lookup ("super" : Str) = some .globalImplicit
  kc : sc.names.lookup ("__class__" : Str) = some .free

/-- the context of such a def's body -/
def supCx (P : Program) (w : World) (K : Frag) (mg : Str → Option Value) (base : Heap) (N : List Str) (qual : Str) (scope : Scope) (f : Addr) (cd : Value) (cc : Addr) (A : Around) (outer : List Env) (s : Shared) (H : Hp) (E : XK) : Cx where
  prog := P
  w := w
  K := K
  mg := mg
  base := base
  A := A.deeper (PySem.W.ksEnv qual scope s.heap.objs.size f cd cc)
  N := N
  s_0 := s
  H_0 := H
  env := PySem.W.ksEnv qual scope s.heap.objs.size f cd cc
  outer := outer
  stack := PySem.W.ksEnv qual scope s.heap.objs.size f cd cc :: outer
  ex := []
  calm := true
  fn := fun _ => false
  pn := []
  xe := fun e s' => wpAny (model P w) (A.deeper (PySem.W.ksEnv qual scope s.heap.objs.size f cd cc)) (leaving (PySem.W.ksEnv qual scope s.heap.objs.size f cd cc) e) (fun _ s'' => L2.CX P w outer H s E e s'') (fun e' s'' => L2.CX P w outer H s E e' s'') s'

theorem rev_look {ps : List Str} {us : List Value} {i : Nat} {x : Str} {u : Value} (nd : ps.Nodup) (h1 : ps[i]? = some x) (h2 : us[i]? = some u) : (ps.zip us).reverse.lookup x = some u := NdefX.zip_look nd h1 h2

theorem sup_inv {P : Program} {w : World} {K : Frag} {mg : Str → Option Value} {base : Heap} {N ps : List Str} {qual : Str} {scope : Scope} {f D f2 cc : Addr} {z : Str} {cd : Value} {A : Around} {outer : List Env} {s : Shared} {h₁ : Heap} {tk : Nat} {H : Hp} {E : XK} {us : List Value} {vs : List V}
    (S : SupScope N ps scope) (O : SupOk K f D f2 z cc cd) (hd : A.handled = none) (e0 : Env0 P w K mg base A outer s H) (hl : vs.length = ps.length) (r : Vals vs us)
    (hns : h₁.Ns s.heap.objs.size (fun x => (ps.zip us).reverse.lookup x)) (hk : ∀ b o, s.heap.get? b = some o → h₁.get? b = some o) :
    Inv (supCx P w K mg base N qual scope f cd cc A outer s H E) [] (L2.start N vs) H { s with heap := h₁, toks := tk } := by
  have noA : ∀ b : Addr, b ∉ (supCx P w K mg base N qual scope f cd cc A outer s H E).ex := fun b z => absurd (show b ∈ ([] : List Addr) from z) (by simp)
  have cl1 : ∀ y c, (supCx P w K mg base N qual scope f cd cc A outer s H E).env.cells.lookup y = some c → y = "__class__" ∧ c = cc := fun y c h => by
    have h' : (match y == ("__class__" : Str) with | true => some cc | false => none) = some c := h
    cases e : (y == ("__class__" : Str)) with
    | true => rw [e] at h'; exact ⟨beq_iff_eq.mp e, (Option.some.inj h').symm⟩
    | false => rw [e] at h'; cases h'
  obtain ⟨cl, cld, csl, hcell⟩ := O.cell
  have KX : K.In s.heap := e0.mod.kin.keeps fun b o e => (e0.bs b o e).1
  refine ⟨⟨e0.mod, S.kind, rfl, rfl, Nat.le_refl _, fun y z c h1 h2 => ?_, fun y hy => ?_, fun y c hf _ => ?_, fun _ => hd, Around.frames_deeper e0.frames, .inr ⟨rfl, rfl⟩, fun b z => absurd z (noA b), e0.bs, e0.bsz, fun b _ _ => noA b, fun b z => absurd z (noA b), e0.funs, e0.frf⟩,
    rfl, e0.bare, Un.kept hk, ⟨_, hns, fun i y v h1 h2 h3 => ?_⟩, fun y c h => ?_, e0.hok.fresh (Nat.le_refl _), fun y c h => ?_, fun p hp => absurd (show p ∈ ([] : List (Addr × Obj)) from hp) (by simp), e0.hok.kept hk, ?_⟩
  · exact (cl1 y c h1).1.trans (cl1 z c h2).1.symm
  · have hy : scope.names.lookup y = some .cell ∨ scope.names.lookup y = some .free := hy
    rcases hy with hy | hy
    · exact absurd rfl (S.nocell _ (PySem.mem_of_lookup hy))
    · have e := S.fr _ (PySem.mem_of_lookup hy) rfl
      have e' : y = "__class__" := e
      subst e'
      exact ⟨cc, by rfl⟩
  · cases (show false = true from hf)
  · have hN : vs.length = N.length := by rw [S.pre]; exact hl
    have hs : L2.start N vs = vs.map some := by
      unfold L2.start
      rw [hN, Nat.sub_self]
      simp
    rw [hs, List.getElem?_map] at h2
    cases e : vs[i]? with
    | none => rw [e] at h2; cases h2
    | some a =>
      rw [e] at h2
      cases h2
      obtain ⟨u, hu, rv⟩ := r.get e
      have hp : ps[i]? = some y := by rw [← S.pre]; exact h1
      have nd : ps.Nodup := by rw [← S.pre]; exact S.nd
      exact ⟨u, rv, .inl ⟨S.par y (List.mem_of_getElem? hp), rev_look nd hp hu⟩⟩
  · obtain ⟨_, rfl⟩ := cl1 y c h
    exact ⟨_, _, hk _ _ (KX _ _ hcell), rfl⟩
  · obtain ⟨_, rfl⟩ := cl1 y c h
    exact (e0.bs _ _ (e0.mod.kin _ _ hcell)).2
  · rw [show (L2.start N vs).length = N.length from ?_]
    rfl
    unfold L2.start
    rw [List.length_append, List.length_map, List.length_replicate, S.pre, hl]
    omega

theorem fn_super {P : Program} {w : World} {K : Frag} {mg : Str → Option Value} {base : Heap} {k : Nat} {f D f2 : Addr} {fd2 : FuncData} {x qual z : Str} {st : Stmt} {N ps ps2 : List Str} {sp sp2 : Sp} {e : Expr} {es : List Expr} {p0 p1 apos pos pos2 : Pos} {ar : Arg} {ta : TA}
    (F : FunC K x qual "__class__" st f) (S : SupScope N ps (defScope st)) (hB : supB K f D f2 z = true) (hz : ((P.main.file : Str) == z) = true) (htop : (P.main.scope.names.lookup ("super" : Str)).isSome = false)
    (hb : defBody st = [.Expr (.Call (.Attribute (.Call (.Name "super" p0) [] [] p1) "__init__" apos) (e :: es) [] pos) pos2])
    (har : ((defArgs st).posonlyargs ++ (defArgs st).args).head? = some ar) (hself : ps[0]? = some ar.arg)
    (F2 : FnOk P w K mg base (L2.CX P w) k f2 fd2 ps2 sp2) (b2 : Binds K fd2 ps2 [])
    (len : ∀ vs H Q E, sp vs H Q E → vs.length = ps.length)
    (ha : ∀ (cdv : Value) (cc : Addr) (A : Around) (outer : List Env) (s : Shared) (H : Hp) (E : XK), PA (supCx P w K mg base N qual (defScope st) f cdv cc A outer s H E) (e :: es) ta)
    {pl : Env → Sem Bool} (ht : ∀ env : Env, eval (.Call (.Attribute (.Call (.Name "super" p0) [] [] p1) "__init__" apos) (e :: es) [] pos) env = (do
      let ov ← attributeBase (.Call (.Name "super" p0) [] [] p1) "__init__" env (eval (.Call (.Name "super" p0) [] [] p1) env)
      standAt apos.atName
      let (g, first) ← holding [ov] (getMethod ov "__init__" (pl env))
      callWith pos g first (backTo pos (starEach (e :: es) env)) []))
    (hst : ∀ env : Env, starEach (e :: es) env = (false, eval e env) :: starEach es env) (hpl : ∀ env : Env, (backTo pos (starEach es env)).any (·.1) = false)
    (hsp : ∀ vs H Q E, sp vs H Q E → ∃ xa dx fs, vs[0]? = some (.ref xa) ∧ H xa = some (.ins D dx fs) ∧ ta (L2.start N vs) H fun us H1 => sp2 (.ref xa :: us) H1 (fun v H2 => Q .non H2) E) :
    FnOk P w K mg base (L2.CX P w) (k + 1) f (fdAt K f) ps sp := by
  obtain ⟨oc, od, cc, kV, doc, pm, an, cdv, ct, osl, lk, hcd⟩ := F.ex
  have efd : fdAt K f = PySem.W.fnX x qual (defArgs st) (defBody st) (defScope st) [("__class__", cc)] .none kV doc pm an cdv ct := by
    unfold fdAt
    rw [lk]
  rw [efd]
  have O : SupOk K f D f2 z cc cdv := supB_ok hB lk rfl
  refine ⟨len, fun A outer s H args us vs Q E hr e0 hbd r hq => ?_⟩
  have hl := len _ _ _ _ hq
  have KX : K.In s.heap := e0.mod.kin.keeps fun b o e => (e0.bs b o e).1
  have lim : s.heap.NoLimit := e0.mod.nolimit.keeps fun b o e => (e0.bs b o e).1
  have hloc : ∀ y ∈ ps.zip us, (defScope st).names.lookup y.1 = some .local := fun ⟨n, v⟩ hy => S.par n (List.of_mem_zip hy).1
  refine PySem.ks_codeAny_call_defAt (fd := PySem.W.fnX x qual (defArgs st) (defBody st) (defScope st) [("__class__", cc)] .none kV doc pm an cdv ct) hr.depth (KX _ _ lk) rfl lim (PySem.W.codeRec_of KX hcd) rfl hbd S.nocell hloc (fun h₁ hns hk₁ => ?_) S.co S.gen S.kind
  have I := sup_inv (qual := qual) (E := E) (tk := s.toks + (ps.zip us).length) S O hr.hd e0 hl r hns hk₁
  obtain ⟨xa, dx, fs, hv0, hx, hta⟩ := hsp _ _ _ _ hq
  -- the body
  have hex : execs (defBody st) (PySem.W.ksEnv qual (defScope st) s.heap.objs.size f cdv cc) = execs [.Expr (.Call (.Attribute (.Call (.Name "super" p0) [] [] p1) "__init__" apos) (e :: es) [] pos) pos2] (PySem.W.ksEnv qual (defScope st) s.heap.objs.size f cdv cc) := by rw [hb]
  show PySem.wpAt (model P w) (A.deeper (PySem.W.ksEnv qual (defScope st) s.heap.objs.size f cdv cc)) (.func (defBody st) (PySem.W.ksEnv qual (defScope st) s.heap.objs.size f cdv cc)) (execs (defBody st) (PySem.W.ksEnv qual (defScope st) s.heap.objs.size f cdv cc)) _ _ _
  rw [hex]
  have hint : interactive (PySem.W.ksEnv qual (defScope st) s.heap.objs.size f cdv cc) = false := I.quiet
  have X1 : K.In h₁ := KX.keeps hk₁
  obtain ⟨cl, cld, csl, hcell⟩ := O.cell
  obtain ⟨c, ccl, cdd, vcs, ccs, tf, ecd, hcode, hvs⟩ := O.code
  obtain ⟨cdD, hcD⟩ := O.cls
  have hvs' : vcs[2]? = some (.str z tf) := by rw [← Array.getElem?_toList]; exact hvs
  obtain ⟨oD, hD1, hD2⟩ : ∃ oD, h₁.get? D = some oD ∧ oD.data = .cls cdD := by
    unfold PySem.W.clsIn at hcD
    split at hcD
    · rename_i ho
      cases hcD
      exact ⟨_, X1 _ _ ho, rfl⟩
    · cases hcD
  obtain ⟨of, hof, hofc⟩ : ∃ of, K.lookup f2 = some of ∧ of.cls = .type "function" := by
    have ht : (K.lookup f2).map (fun o => o.cls) = some (.type "function") := O.ty
    cases q : K.lookup f2 with
    | none => rw [q] at ht; cases ht
    | some o => rw [q] at ht; exact ⟨o, rfl, Option.some.inj ht⟩
  obtain ⟨mA, OM, _⟩ := ins_get I.hok hx
  obtain ⟨odx, J, _⟩ := OM.look
  obtain ⟨mb, hmb, hbb⟩ := e0.mod.blt
  have up0 : ∀ b o, base.get? b = some o → h₁.get? b = some o := fun b o q => hk₁ b o (e0.bs b o q).1
  have hself2 : (fun y => (ps.zip us).reverse.lookup y) ar.arg = some (Value.ref xa) := by
    obtain ⟨u, hu, ru⟩ := r.get hv0
    have ru' : u = Value.ref xa := ru
    subst ru'
    exact rev_look (by rw [← S.pre]; exact S.nd) hself hu
  have hka : (defScope st).names.lookup ar.arg = some .local := S.par _ (List.mem_of_getElem? hself)
  refine PySem.ks_wpAt_execs_cons (PySem.ks_wpAt_Expr_any (PySem.ks_wpAt_MethodCall ?_ (ht _)) hint rfl)
  refine PySem.ks_wpAt_super_base (attr := "__init__") (env := PySem.W.ksEnv qual (defScope st) s.heap.objs.size f cdv cc) (f := f) (cc := c) (ar := ar) (fd := PySem.W.fnX x qual (defArgs st) (defBody st) (defScope st) [("__class__", cc)] .none kV doc pm an cdv ct) S.ks S.kc (by decide) rfl (X1 _ _ lk) rfl har ecd (X1 _ _ hcode) rfl hvs' hz htop ?_
  refine PySem.W.ks_loadName_global S.kind S.ks (PySem.Calls.loadGlobal_builtin (env := PySem.W.ksEnv qual (defScope st) s.heap.objs.size f cdv cc) (e0.mod.glob.keeps up0) (PySem.W.mg_none_of e0.mod.kin e0.mod.glob O.bsup) (hmb.keeps up0) ((hbb _ (by decide +kernel)).trans (by decide +kernel)) ⟨rfl, ?_⟩)
  refine wpAny_loadName_free S.kind S.kc rfl ⟨_, X1 _ _ hcell, rfl⟩ ?_
  refine wpAny_loadName_local S.kind hka hns hself2 ?_
  refine PySem.ks_wpAny_isType_cls hD1 hD2 ⟨rfl, ?_⟩
  refine PySem.ks_wpAny_call_super hD1 hD2 J.at_ J.cls (fun c e => ?_) (PySem.W.looks_mroIn X1 O.mro) (fun h' es' kk => ?_)
  · have := J.no
    unfold PySem.W.notCls at this
    rw [e] at this
    exact Bool.noConfusion this
  -- the super object stands; its __init__, bound
  have I2 := I.kept (h' := h') (t' := s.toks + (ps.zip us).length) kk
  have X2 : K.In h' := X1.keeps kk
  have hal : PySem.W.alongIn K "__init__" ((cdD.mro.dropWhile (· != .ref D)).drop 1) = some (some (.ref f2)) := by
    have q := O.sup
    unfold PySem.W.ks_superIn at q
    rw [hcD] at q
    exact q
  refine PySem.ks_wpAny_getMethod_super es' (PySem.W.looks_opaque X2 O.thrd) (l₀ := cdD.mro) ?_ rfl X2 hal (X2 _ _ hof) hofc (PySem.W.ks_ne X1 J hcD) (by decide) ?_
  · exact fun A Q E s k q => wpAny_bind ((PySem.W.looks_clsIn X2 hcD) A _ E s k (wpAny_pure q))
  have km : ∀ b o, h'.get? b = some o → (h'.push { cls := .type "method", data := .fields #[.ref f2, .ref xa] }).get? b = some o := fun b o q => Heap.get?_push_of_some _ q
  have I3 := I2.kept (h' := h'.push { cls := .type "method", data := .fields #[.ref f2, .ref xa] }) (t' := s.toks + (ps.zip us).length + 1) km
  have hq3 : (h'.push { cls := .type "method", data := .fields #[.ref f2, .ref xa] }).get? h'.objs.size = some (PySem.W.methodObj (.ref f2) (.ref xa)) := Heap.get?_push_at rfl rfl
  have I4 := I3.pins_of (pins' := [(h'.objs.size, PySem.W.methodObj (.ref f2) (.ref xa))]) fun p hp => by
    have e : p = (h'.objs.size, PySem.W.methodObj (.ref f2) (.ref xa)) := by simpa using hp
    subst e
    exact ⟨hq3, I2.hok.fresh (Nat.le_refl _), Nat.ne_of_gt I2.lt, I2.nofs (Nat.le_refl _), fun v q => nomatch q⟩
  have hE : (backToKw pos (keywordEach [] (PySem.W.ksEnv qual (defScope st) s.heap.objs.size f cdv cc))) = [] := rfl
  rw [hst]
  refine PySem.W.callWith_of (P := PySem.W.MethP K h'.objs.size f2 (.ref xa)) (by show ((false || (backTo pos (starEach es _)).any (fun x => x.1)) || false) = false; rw [hpl]; rfl) (PySem.W.keeps_M O.fi) (Calls.evalArgs_plain ?_)
  have hrun := (ha cdv cc A outer s H E).run pos _ _ _ _ _ I4 hta
  rw [hst] at hrun
  refine thn hrun fun us2 s4 ⟨vs2, H2, I5, r2, q2⟩ => ?_
  have hm4 : s4.heap.get? h'.objs.size = some (PySem.W.methodObj (.ref f2) (.ref xa)) := (I5.pin _ (List.mem_cons_self ..)).1
  refine ⟨⟨hm4, I5.kIn⟩, wpAny_call (PySem.W.method_call hm4 ?_)⟩
  have hr2 : Room k (supCx P w K mg base N qual (defScope st) f cdv cc A outer s H E).A := hr.deeper _
  refine codeAny_mono (run_fnR (us := .ref xa :: us2) (vs := .ref xa :: vs2) ((F2.raw b2 .nil).imp fun vs H Q E q => by rw [List.append_nil]; exact q) hr2 (passes_call (takes_of rfl rfl rfl rfl) fun _ _ _ _ q => q) I5 (.cons rfl r2) q2) fun rr s5 hq5 => ?_
  cases rr with
  | error er => exact hq5
  | ok fl =>
    cases fl with
    | ret u =>
      obtain ⟨v, H', J5, _, q⟩ := hq5
      exact wpAt_of_wpAny (wpAny_execs_nil ⟨.non, H', J5.os, J5.bare, J5.base, J5.hok, rfl, q⟩)
    | next => exact False.elim hq5
    | brk => exact False.elim hq5
    | cont => exact False.elim hq5
theorem FunC.binds {K : Frag} {x qual y : Str} {st : Stmt} {f : Addr} {ps : List Str} (F : FunC K x qual y st f)
    (h : ∀ (cc : Addr) (kV doc pm : Value) (an : Option Addr) (cdv ct : Value) (us : List Value), us.length = ps.length → bindArgs (PySem.W.fnX x qual (defArgs st) (defBody st) (defScope st) [(y, cc)] .none kV doc pm an cdv ct) ⟨us, []⟩ = pure (ps.zip us)) : L2.Binds K (fdAt K f) ps [] := by
  obtain ⟨oc, od, cc, kV, doc, pm, an, cdv, ct, osl, lk, hcd⟩ := F.ex
  have efd : fdAt K f = PySem.W.fnX x qual (defArgs st) (defBody st) (defScope st) [(y, cc)] .none kV doc pm an cdv ct := by
    unfold fdAt
    rw [lk]
  rw [efd]
  exact .all (h cc kV doc pm an cdv ct)
end Fw

/-! Fw, part C: lines of any kind; calls by keywords alone; what stays of the heap. -/
namespace Fw
open PySem PySem.Spec PyProof.Rows L2
open He (ga ma eqO eqO_ok)
/-! ### calls -/
/-- f(k = v, ..), no positional value -/
theorem pe_callN0 {X : Cx} {CX : CXT} {k : Nat} {f : Addr} {fd : FuncData} {ps ks : List Str} {sp : Sp} {E : XK} {x : Str} {p pos : Pos} {kws : List Keyword} {tk : TA} {g : List Value → List Value → List Value} {gV : List V → List V → List V}
    (F : FnOk X.prog X.w X.K X.mg X.base CX k f fd ps sp) (hr : Room k X.A) (hg : Gl X x) (hm : X.mg x = some (.ref f)) (hk : PySem.W.keepIn X.K (.ref f) = true) (hb : KBn X.K fd ps 0 ks g gV) (hx : Passes CX X E) (hkw : PK X kws tk)
    (hall : (backToKw pos (keywordEach kws X.env)).all (fun q => q.1.isSome) = true := by rfl) (hks : (backToKw pos (keywordEach kws X.env)).filterMap (fun q => q.1) = ks := by rfl) (hdb : (x == ("__debug__" : Str)) = false := by decide)
    (hpl : ((backTo pos (starEach [] X.env)).any (fun q => q.1) || (backToKw pos (keywordEach kws X.env)).any (fun q => q.1.isNone)) = false := by rfl) :
    PE X (.Call (.Name x p) [] kws pos) (tCallN 0 ks.length sp gV E tNil tk) := by
  refine ⟨fun pins s σ H Q I h => ?_⟩
  refine wpAny_Call_Name_kw (ld_glob I hg hm ?_ hdb)
  refine PySem.W.callWith_KW0 (h₀ := X.base) I.ok.mod.kin hk hall ?_ hpl
  refine thn (hkw.run pos pins s σ H _ I h) fun ws s2 ⟨zs, H2, I2, rz, l1, l2, q2⟩ => ⟨I2.kIn, ?_⟩
  rw [hks]
  exact run_fnN (us := []) (vs := []) F hr hb hx I2 .nil rz rfl l2 q2
/-- how keywords bind where the def has no defaults: h by cases of the lists, each one rfl -/
theorem Fun.kb {K : Frag} {x qual : Str} {st : Stmt} {f : Addr} {fd : FuncData} {ps : List Str} (F : Fun K x qual st f fd) (n : Nat) (ks : List Str) (g : {α : Type} → List α → List α → List α)
    (hrel : ∀ {vs zs : List V} {us ws : List Value}, Vals vs us → Vals zs ws → Vals (g vs zs) (g us ws))
    (h : ∀ (kV doc pm : Value) (an : Option Addr) (cdv ct : Value) (us ws : List Value), us.length = n → ws.length = ks.length → bindArgs (PySem.W.fnOf x qual (defArgs st) (defBody st) (defScope st) .none kV doc pm an cdv ct) ⟨us, ks.zip ws⟩ = pure (ps.zip (g us ws))) :
    KBn K fd ps n ks g g := by
  obtain ⟨oc, od, kV, doc, pm, an, cdv, ct, osl, rfl, lk, hcd⟩ := F.ex
  exact ⟨fun s us ws _ l1 l2 => .of_eq (h kV doc pm an cdv ct us ws l1 l2), fun r1 r2 => hrel r1 r2⟩
/-- the items at these places -/
def pick {α : Type} (l : List α) (is : List Nat) : List α := is.filterMap fun i => l[i]?
theorem Vals.pick {vs : List V} {us : List Value} (r : Vals vs us) (is : List Nat) : Vals (Fw.pick vs is) (Fw.pick us is) := by
  unfold Fw.pick
  induction is with
  | nil => exact .nil
  | cons i is ih =>
    rw [List.filterMap_cons, List.filterMap_cons]
    cases e : vs[i]? with
    | none => rw [r.none_of e]; exact ih
    | some v =>
      obtain ⟨u, hu, rv⟩ := r.get e
      rw [hu]
      exact .cons rv ih
/-! ### lines -/
inductive LK where
  | line | walk | stop
  deriving DecidableEq
def cA (K : Frag) : LK → Addr
  | .line => ga K "Line"
  | .walk => ga K "Walk"
  | .stop => ga K "Stop"
/-- the numbers of a line -/
structure N3 where
  e : Int
  a : Int
  r : Int
  deriving DecidableEq
def N3.ok (n : N3) : Prop := 1 ≤ n.e ∧ 0 ≤ n.a ∧ n.a < n.e ∧ 0 ≤ n.r
def lf (n : N3) : List (Str × V) := putF "held_ride" (.int n.r) (putF "held_at" (.int n.a) (putF "held_every" (.int n.e) []))
theorem lf_e (n : N3) : (lf n).lookup ("held_every" : Str) = some (.int n.e) := by
  unfold lf
  rw [lookup_putF, if_neg (by decide +kernel), lookup_putF, if_neg (by decide +kernel), lookup_putF, if_pos rfl]
theorem lf_a (n : N3) : (lf n).lookup ("held_at" : Str) = some (.int n.a) := by
  unfold lf
  rw [lookup_putF, if_neg (by decide +kernel), lookup_putF, if_pos rfl]
theorem lf_r (n : N3) : (lf n).lookup ("held_ride" : Str) = some (.int n.r) := by
  unfold lf
  rw [lookup_putF, if_pos rfl]
theorem lf_no (n : N3) {m : Str} (h1 : ¬ m = "held_ride") (h2 : ¬ m = "held_at") (h3 : ¬ m = "held_every") : (lf n).lookup m = none := by
  unfold lf
  rw [lookup_putF, if_neg h1, lookup_putF, if_neg h2, lookup_putF, if_neg h3]
  rfl
/-- at a stands a line of the kind k with the numbers n -/
def LnAt (K : Frag) (H : Hp) (a : Addr) (k : LK) (n : N3) : Prop := ∃ dx, H a = some (.ins (cA K k) dx (lf n))
theorem LnAt.same {K : Frag} {H H' : Hp} {a : Addr} {k : LK} {n : N3} (h : LnAt K H a k n) (s : Same H H') : LnAt K H' a k n := let ⟨dx, e⟩ := h; ⟨dx, s _ _ e⟩
/-- what the top must say of the three classes -/
structure LnF (K : Frag) : Prop where
  cls : ∀ k, Cls K (cA K k)
  nE : ∀ k, NoAttr K (cA K k) "held_every"
  nA : ∀ k, NoAttr K (cA K k) "held_at"
  nR : ∀ k, NoAttr K (cA K k) "held_ride"
/-- e.f, a property of lines whose getter hands back the field hf -/
def tLG (K : Frag) (ta : TE) (g : N3 → Int) : TE := fun σ H Q => ta σ H fun x H1 => ∃ a k n, x = .ref a ∧ LnAt K H1 a k n ∧ Q (.int (g n)) H1
theorem pe_lget {X : Cx} {f hf : Str} {g : Addr} {fd : FuncData} {e : Expr} {pos : Pos} {ta : TE} {gg : N3 → Int} (he : PE X e ta) (L : LnF X.K) (hp : ∀ k, ∃ p, PropOf X.K (cA X.K k) f p g)
    (F : ∀ k, FnOk X.prog X.w X.K X.mg X.base (L2.CX X.prog X.w) 1 g fd ["self"] (getSp (cA X.K k) hf)) (hb : Binds X.K fd ["self"] []) (hr : Room 2 X.A) (hl : ∀ n, (lf n).lookup hf = some (.int (gg n)))
    (hab : attributeBase e f X.env (eval e X.env) = eval e X.env) : PE X (.Attribute e f pos) (tLG X.K ta gg) := by
  refine ⟨fun pins s σ H Q I h => ?_⟩
  refine attr_of hab (thn (he.run pins s σ H _ I h) fun u s1 ⟨x, H1, I1, rx, a, k, n, ex, ⟨dx, ea⟩, q⟩ => ?_)
  subst ex
  obtain rfl : u = Value.ref a := rx
  obtain ⟨p, hp⟩ := hp k
  exact getprop_ok I1 ea (L.cls k) hp (F k) hr hb .nil passL ⟨a, dx, _, _, rfl, ea, hl n, q⟩
theorem ok_getter {P : Program} {w : World} {K : Frag} {mg : Str → Option Value} {base : Heap} {CX : CXT} {x qual hf : Str} {st : Stmt} {g C : Addr} {fd : FuncData} {N : List Str} {p1 p2 p3 : Pos} (F : Fun K x qual st g fd) (S : FnScope N ["self"] (defScope st))
    (hN : N[0]? = some ("self" : Str)) (hb : defBody st = [.Return (some (.Attribute (.Name "self" p1) hf p2)) p3]) (c : Cls K C) (n : NoAttr K C hf) : FnOk P w K mg base CX 1 g fd ["self"] (getSp C hf) := by
  obtain ⟨oc, od, kV, doc, pm, an, cdv, ct, osl, rfl, lk, hcd⟩ := F.ex
  exact fn_getter lk hcd S hN hb c n
/-- o.m(e, ..), o a line, m the same def in all three classes -/
def tLM (K : Frag) (sp : Sp) (E : XK) (ta : TE) (t : TA) : TE := fun σ H Q => ta σ H fun x H1 => ∃ a k n, x = .ref a ∧ LnAt K H1 a k n ∧ t σ H1 fun vs H2 => sp (.ref a :: vs) H2 Q E
theorem pe_lmeth {X : Cx} {k0 : Nat} {f : Addr} {fd : FuncData} {ps : List Str} {sp : Sp} {E : XK} {m : Str} {pos apos : Pos} {e o : Expr} {es : List Expr} {ta : TE} {t : TA} {pl : Sem Bool} (he : PE X o ta) (L : LnF X.K) (hm : ∀ k, Meth X.K (cA X.K k) m f)
    (F : FnOk X.prog X.w X.K X.mg X.base (L2.CX X.prog X.w) k0 f fd ps sp) (hr : Room k0 X.A) (hb : Binds X.K fd ps []) (hx : Passes (L2.CX X.prog X.w) X E) (ha : PA X (e :: es) t)
    (n1 : ¬ m = "held_ride" := by decide +kernel) (n2 : ¬ m = "held_at" := by decide +kernel) (n3 : ¬ m = "held_every" := by decide +kernel)
    (hst : starEach (e :: es) X.env = (false, eval e X.env) :: starEach es X.env := by rfl) (hpl : (backTo pos (starEach es X.env)).any (fun q => q.1) = false := by rfl)
    (ht : eval (.Call (.Attribute o m apos) (e :: es) [] pos) X.env = (do
      let ov ← eval o X.env
      standAt apos.atName
      let (g, first) ← holding [ov] (getMethod ov m pl)
      callWith pos g first (backTo pos (starEach (e :: es) X.env)) (backToKw pos (keywordEach [] X.env))) := by rfl) :
    PE X (.Call (.Attribute o m apos) (e :: es) [] pos) (tLM X.K sp E ta t) := by
  refine ⟨fun pins s σ H Q I h => ?_⟩
  refine PySem.W.methodCall_KW (pl := pl) (thn (he.run pins s σ H _ I h) fun u s1 ⟨x, H1, I1, rx, a, k, n, ex, ⟨dx, ea⟩, q⟩ => ?_) ht
  subst ex
  obtain rfl : u = Value.ref a := rx
  refine getmeth_ok I1 ea (L.cls k) (hm k) (lf_no n n1 n2 n3) ?_
  refine PySem.W.callWith_K (first := [.ref a]) (h₀ := X.base) I.ok.mod.kin (hm k).kp (thn (ha.run pos pins s1 σ H1 _ I1 q) fun us s2 ⟨vs, H2, I2, r, q2⟩ => ⟨I2.kIn, ?_⟩) hst hpl
  exact run_fn (us := .ref a :: us) (vs := .ref a :: vs) F hr hb .nil hx I2 (.cons rfl r) (by rw [List.append_nil]; exact q2)
/-- o.m(), o a line -/
theorem pe_lmeth0 {X : Cx} {k0 : Nat} {f : Addr} {fd : FuncData} {ps : List Str} {sp : Sp} {E : XK} {m : Str} {pos apos : Pos} {o : Expr} {ta : TE} {pl : Sem Bool} (he : PE X o ta) (L : LnF X.K) (hm : ∀ k, Meth X.K (cA X.K k) m f)
    (F : FnOk X.prog X.w X.K X.mg X.base (L2.CX X.prog X.w) k0 f fd ps sp) (hr : Room k0 X.A) (hb : Binds X.K fd ps []) (hx : Passes (L2.CX X.prog X.w) X E)
    (n1 : ¬ m = "held_ride" := by decide +kernel) (n2 : ¬ m = "held_at" := by decide +kernel) (n3 : ¬ m = "held_every" := by decide +kernel)
    (ht : eval (.Call (.Attribute o m apos) [] [] pos) X.env = (do
      let ov ← eval o X.env
      standAt apos.atName
      let (g, first) ← holding [ov] (getMethod ov m pl)
      callWith pos g first (backTo pos (starEach [] X.env)) (backToKw pos (keywordEach [] X.env))) := by rfl) :
    PE X (.Call (.Attribute o m apos) [] [] pos) (tLM X.K sp E ta tNil) := by
  refine ⟨fun pins s σ H Q I h => ?_⟩
  refine PySem.W.methodCall_KW (pl := pl) (thn (he.run pins s σ H _ I h) fun u s1 ⟨x, H1, I1, rx, a, k, n, ex, ⟨dx, ea⟩, q⟩ => ?_) ht
  subst ex
  obtain rfl : u = Value.ref a := rx
  refine getmeth_ok I1 ea (L.cls k) (hm k) (lf_no n n1 n2 n3) ?_
  exact PySem.W.callWith_K0 (first := [.ref a]) I1.kIn (hm k).kp (run_fn (us := [.ref a]) (vs := [.ref a]) F hr hb .nil hx I1 (.cons rfl .nil) (by rw [List.append_nil]; exact q))
/-- line(e, ..) -/
theorem pe_lcall {X : Cx} {k0 : Nat} {g : Addr} {sp : Sp} {E : XK} {fe e : Expr} {es : List Expr} {tf : TE} {t : TA} {pos : Pos} (hf : PE X fe tf) (c : ∀ k, StX.CallO X.K (cA X.K k) g) (F : FnR X.prog X.w X.K X.mg X.base (L2.CX X.prog X.w) k0 g sp) (hr : Room k0 X.A) (hx : Passes (L2.CX X.prog X.w) X E)
    (ha : PA X (e :: es) t) (ht : eval (.Call fe (e :: es) [] pos) X.env = (do callWith pos (← eval fe X.env) [] (backTo pos (starEach (e :: es) X.env)) (backToKw pos (keywordEach [] X.env))) := by rfl)
    (he : starEach (e :: es) X.env = (false, eval e X.env) :: starEach es X.env := by rfl) (hpl : (backTo pos (starEach es X.env)).any (fun q => q.1) = false := by rfl) :
    PE X (.Call fe (e :: es) [] pos) (fun σ H Q => tf σ H fun y H1 => ∃ a, y = V.ref a ∧ t σ H1 fun vs H2 => (∃ k n, LnAt X.K H2 a k n) ∧ sp (V.ref a :: vs) H2 Q E) := by
  refine ⟨fun pins s σ H Q I h => ?_⟩
  refine Call_ (thn (hf.run pins s σ H _ I h) fun u s1 ⟨y, H1, I1, ry, a, ey, q⟩ => ?_) ht
  subst ey
  obtain rfl : u = Value.ref a := ry
  refine StX.callO_with (thn (ha.run pos pins s1 σ H1 _ I1 q) fun us s2 ⟨vs, H2, I2, r, ⟨k, n, dx, hi⟩, q2⟩ => ?_) he hpl
  have hI : StX.InsC X H2 a (cA X.K k) := .inr ⟨dx, _, hi⟩
  obtain ⟨ox, od, J, hd⟩ := StX.insC_at I2 hI
  exact ⟨⟨_, ox, od, J, hd⟩, StX.run_callO (c k) F hr hx I2 hI r q2⟩

/-! ### heaps: what stays -/
/-- all but what M holds is as it was -/
def Ext (M : Addr → Prop) (H H' : Hp) : Prop := ∀ b o, ¬ M b → H b = some o → H' b = some o
theorem Ext.refl {M : Addr → Prop} {H : Hp} : Ext M H H := fun _ _ _ e => e
theorem Ext.trans {M : Addr → Prop} {H H1 H2 : Hp} (a : Ext M H H1) (b : Ext M H1 H2) : Ext M H H2 := fun c o n e => b c o n (a c o n e)
theorem Ext.same {M : Addr → Prop} {H H' : Hp} (s : Same H H') : Ext M H H' := fun b o _ e => s b o e
theorem Same.new {H : Hp} {p : Addr} {o : HO} (h : H p = none) : Same H (upd H p o) := fun b u e => by rw [upd_ne (ne_of_none e h)]; exact e
theorem Ext.new {M : Addr → Prop} {H : Hp} {p : Addr} {o : HO} (h : H p = none) : Ext M H (upd H p o) := Ext.same (Same.new h)
end Fw

/-! Fw, part D: the tank of draws; numbers; the mathematics of one line taken again and again. -/
namespace Fw
open PySem PySem.Spec PyProof.Rows L2
/-! ### great numbers -/
theorem pow_lt_two {n : Nat} {i : Int} (h1 : -(2 ^ n : Int) < i) (h2 : i < (2 ^ n : Int)) : i.natAbs < 2 ^ n := by
  have e : ((2 ^ n : Nat) : Int) = (2 : Int) ^ n := by simp
  rw [← e] at h1 h2
  omega
/-- i lies within b bits -/
def Sz (b : Nat) (i : Int) : Prop := i.natAbs < 2 ^ b
theorem Sz.of {b : Nat} {i : Int} (h1 : -(2 ^ b : Int) < i) (h2 : i < (2 ^ b : Int)) : Sz b i := pow_lt_two h1 h2
theorem Sz.mono {a b : Nat} {i : Int} (h : Sz a i) (l : a ≤ b) : Sz b i := Nat.lt_of_lt_of_le h (Nat.pow_le_pow_right (by decide) l)
theorem Sz.mul {a b : Nat} {i j : Int} (h : Sz a i) (g : Sz b j) : Sz (a + b) (i * j) := wide_lt h g
theorem Sz.add {a : Nat} {i j : Int} (h : Sz a i) (g : Sz a j) : Sz (a + 1) (i + j) := by
  unfold Sz at *
  rw [Nat.pow_succ]
  omega
theorem Sz.sub {a : Nat} {i j : Int} (h : Sz a i) (g : Sz a j) : Sz (a + 1) (i - j) := by
  unfold Sz at *
  rw [Nat.pow_succ]
  omega
theorem Sz.mod {a : Nat} {i j : Int} (h : 0 < j) (g : Sz a j) : Sz a (i % j) := by
  have h1 := Int.emod_nonneg i (show j ≠ 0 by omega)
  have h2 := Int.emod_lt_of_pos i h
  unfold Sz at *
  omega
theorem Sz.cmul {a b : Nat} {i j : Int} (h : Sz a i) (g : Sz b j) (ha : 0 < a := by decide) (hb : 0 < b := by decide) (l : a + b ≤ 1000000 := by decide) : CMulW i j := wide_mul h g ha hb l
theorem Sz.div {b : Nat} {i j : Int} (h : 0 < j) (g : Sz b j) (hb : 0 < b := by decide) (l : b ≤ 9000 := by decide) : CDivW i j := wide_div h g hb l
theorem Sz.le {a : Nat} {i j : Int} (h0 : 0 ≤ i) (h : i ≤ j) (g : Sz a j) : Sz a i := wide_le h0 h g
/-! ### the tank: a list [c, mixed, drawn], c the list of the digits -/
def tkM (a c : Addr) (b : Addr) : Prop := b = a ∨ b = c
abbrev M127 : Int := 170141183460469231731687303715884105727
/-- N draws may still be made -/
def Tk (a c : Addr) (N : Nat) (H : Hp) : Prop := ∃ (ds : List Int) (m n : Int), H a = some (.lst [.ref c, .int m, .int n]) ∧ H c = some (.lst (ds.map V.int)) ∧ ds.length ≤ 100 ∧ 0 ≤ m ∧ m < M127 ∧ 0 ≤ n ∧ n + (N : Int) ≤ 2 ^ 40
theorem Tk.less {a c : Addr} {N N' : Nat} {H : Hp} (h : Tk a c N H) (l : N' ≤ N) : Tk a c N' H := by
  obtain ⟨ds, m, n, h1, h2, h3, h4, h5, h6, h7⟩ := h
  exact ⟨ds, m, n, h1, h2, h3, h4, h5, h6, by omega⟩
theorem Tk.same {a c : Addr} {N : Nat} {H H' : Hp} (h : Tk a c N H) (s : Same H H') : Tk a c N H' := by
  obtain ⟨ds, m, n, h1, h2, h3⟩ := h
  exact ⟨ds, m, n, s _ _ h1, s _ _ h2, h3⟩
theorem Tk.ne {a c : Addr} {N : Nat} {H : Hp} (h : Tk a c N H) : a ≠ c := by
  obtain ⟨ds, m, n, h1, h2, _⟩ := h
  intro e
  subst e
  rw [h1] at h2
  cases ds with
  | nil => cases h2
  | cons d r => cases h2
/-- an object that is no list is none of the tank's -/
theorem Tk.out {a c p : Addr} {N : Nat} {H : Hp} {o : HO} (h : Tk a c N H) (e : H p = some o) (d : ∀ xs, o ≠ .lst xs) : ¬ tkM a c p := by
  obtain ⟨ds, m, n, h1, h2, _⟩ := h
  rintro (rfl | rfl)
  · rw [h1] at e; cases e; exact d _ rfl
  · rw [h2] at e; cases e; exact d _ rfl
theorem Tk.fresh {a c p : Addr} {N : Nat} {H : Hp} (h : Tk a c N H) (e : H p = none) : ¬ tkM a c p := by
  obtain ⟨ds, m, n, h1, h2, _⟩ := h
  rintro (rfl | rfl)
  · rw [h1] at e; cases e
  · rw [h2] at e; cases e
theorem Tk.tup {a c p : Addr} {N : Nat} {H H' : Hp} {xs : List V} (h : Tk a c N H) (x : Ext (tkM a c) H H') (e : H p = some (.tup xs)) : H' p = some (.tup xs) := x _ _ (h.out e fun _ z => nomatch z) e
theorem Tk.line {K : Frag} {a c p : Addr} {N : Nat} {H H' : Hp} {k : LK} {n : N3} (h : Tk a c N H) (x : Ext (tkM a c) H H') (e : LnAt K H p k n) : LnAt K H' p k n := let ⟨dx, e⟩ := e; ⟨dx, x _ _ (h.out e fun _ z => nomatch z) e⟩
theorem Tk.script {K : Frag} {a c p : Addr} {N : Nat} {H H' : Hp} {xs : List V} (h : Tk a c N H) (x : Ext (tkM a c) H H') (e : SqL K H p xs) (hn : ¬ tkM a c p) : SqL K H' p xs := by
  rcases e with (e | ⟨o, e⟩) | e
  · exact .inl (.inl (x _ _ hn e))
  · exact .inl (.inr ⟨o, x _ _ hn e⟩)
  · exact .inr e
/-- sip(tank, many): some number below many, and one draw less -/
def spSip (K : Frag) : Sp := fun vs H Q _ => ∃ (a c : Addr) (N : Nat) (m : Int), vs = [.ref a, .int m] ∧ Tk a c (N + 1) H ∧ 1 ≤ m ∧ Sz 8000 m ∧
  ∀ (v : Int) (H' : Hp), 0 ≤ v → v < m → Ext (tkM a c) H H' → Tk a c N H' → Q (.int v) H'
/-- what the deep == says of a list of ints and the empty list -/
theorem eqv_nil (ds : List PyData) : PyData.eqv (.list ds) (.list []) = decide (ds = []) := by
  cases ds with
  | nil => rfl
  | cons d r => rfl
theorem dpAll_ints {K : Frag} {H : Hp} : ∀ ds : List Int, DpAll K H (ds.map V.int) (ds.map PyData.int)
  | [] => .nil
  | d :: r => .cons (.int d) (dpAll_ints r)
theorem canLay_ints : ∀ ds : List Int, PyData.canLayAll0 (ds.map PyData.int) = true
  | [] => by simp [PyData.canLayAll0]
  | d :: r => by
    rw [List.map_cons]
    simp only [PyData.canLayAll0, PyData.canLay0, canLay_ints r, Bool.and_self]
theorem depth_ints : ∀ ds : List Int, PyData.depthAll (ds.map PyData.int) = 0
  | [] => by simp [PyData.depthAll]
  | d :: r => by
    rw [List.map_cons]
    simp only [PyData.depthAll, PyData.depth, depth_ints r, Nat.max_self]
theorem shaped_ints (ds : List Int) : SeqAt.shaped (.list (ds.map PyData.int)) = true := by
  unfold SeqAt.shaped
  simp only [PyData.canLay0, canLay_ints, PyData.depth, depth_ints, Bool.true_and]
  decide
theorem ifT {p A B : Prop} [Decidable p] (h : p) (a : A) : if decide p = true then A else B := by
  rw [if_pos (decide_eq_true h)]
  exact a
theorem ifF {p A B : Prop} [Decidable p] (h : ¬ p) (b : B) : if decide p = true then A else B := by
  rw [if_neg (by rw [decide_eq_false h]; exact Bool.false_ne_true)]
  exact b
theorem ifD {p A B : Prop} [Decidable p] (h : p → A) (g : ¬ p → B) : if decide p = true then A else B := by
  by_cases c : p
  · exact ifT c (h c)
  · exact ifF c (g c)
theorem qT {p : Prop} [Decidable p] {Q : VK} {H : Hp} (h : p) (q : Q (.bl true) H) : Q (.bl (decide p)) H := by
  rw [decide_eq_true h]
  exact q
theorem qF {p : Prop} [Decidable p] {Q : VK} {H : Hp} (h : ¬ p) (q : Q (.bl false) H) : Q (.bl (decide p)) H := by
  rw [decide_eq_false h]
  exact q
theorem at0 {α : Type} {x : α} {xs : List α} : atI (x :: xs) 0 = some x := atI_nat (j := 0) rfl
theorem ix0 {n : Nat} : ixN (n + 1) 0 = some 0 := by
  unfold ixN
  rw [if_pos (by decide), if_pos (by omega)]
  rfl
theorem sq0 {n : Nat} : seqIndex? 0 (n + 1) = some 0 := by
  have h := (ixN_seq (ix0 (n := n))).1
  exact h
theorem Sz.m127 {m : Int} (h0 : 0 ≤ m) (h1 : m < M127) : Sz 127 m := by
  have a : (0 : Int) < 2 ^ 127 := by decide
  exact Sz.of (by omega) (Int.lt_of_lt_of_le h1 (by decide))
theorem Sz.n40 {n : Int} (h0 : 0 ≤ n) (h1 : n ≤ 2 ^ 40) : Sz 41 n := by
  have a : (0 : Int) < 2 ^ 41 := by decide
  have b : (2 : Int) ^ 40 < 2 ^ 41 := by decide
  exact Sz.of (by omega) (by omega)
/-- the items of a cut list of ints -/
def cutI (ns : List Int) (lo hi : Option Int) : List Int := (ns.drop (HT.sIx ns.length 0 lo)).take (HT.sIx ns.length ns.length hi - HT.sIx ns.length 0 lo)
theorem cutV_ints (ns : List Int) (lo hi : Option Int) : cutV (ns.map V.int) lo hi = (cutI ns lo hi).map V.int := by
  unfold cutV cutI
  rw [List.length_map, List.map_take, List.map_drop]
theorem cutI_le (ns : List Int) (lo hi : Option Int) : (cutI ns lo hi).length ≤ ns.length := by
  unfold cutI
  rw [List.length_take, List.length_drop]
  omega
theorem get_ints {ns : List Int} {i : Nat} {x : V} (h : (ns.map V.int)[i]? = some x) : ∃ z, ns[i]? = some z ∧ x = .int z := by
  rw [List.getElem?_map] at h
  cases e : ns[i]? with
  | none => rw [e] at h; cases h
  | some z => rw [e] at h; exact ⟨z, rfl, (Option.some.inj h).symm⟩
/-! ### rounds -/
def dep (n : N3) (t : Int) : Int := t + (n.a - t) % n.e
def rl (n : N3) : Int := n.r + (0 - n.r) % n.e
def arr (n : N3) (t m : Int) : Int := dep n t + (m - 1) * rl n + n.r
def optV : Option Int → V
  | none => .non
  | some i => .int i
def ovt (x y : N3) (t : Int) : Option Int := if arr y t 1 - arr x t 1 < 0 then some 1 else if 0 < rl x - rl y then some (2 + (arr y t 1 - arr x t 1) / (rl x - rl y)) else none
/-- the time from the first departure to the end of m rounds -/
def RR (n : N3) (m : Int) : Int := (m - 1) * rl n + n.r
theorem arr_RR (n : N3) (t m : Int) : arr n t m = dep n t + RR n m := by
  unfold arr RR
  omega
theorem rl_dvd {n : N3} (h : 0 < n.e) : ∃ k, rl n = n.e * k := by
  unfold rl
  have e := Int.emod_add_mul_ediv (0 - n.r) n.e
  refine ⟨-((0 - n.r) / n.e), ?_⟩
  rw [Int.mul_neg]
  omega
theorem RR_mod {n : N3} (h : 0 < n.e) (m : Int) : (0 - RR n m) % n.e = (0 - n.r) % n.e := by
  obtain ⟨k, e⟩ := rl_dvd h
  unfold RR
  rw [e, show (0 : Int) - ((m - 1) * (n.e * k) + n.r) = (0 - n.r) + n.e * (-((m - 1) * k)) by
    rw [Int.mul_neg, Int.mul_left_comm]
    omega]
  exact Int.add_mul_emod_self_left ..
theorem RR_add {n : N3} (h : 0 < n.e) (j k : Int) : RR n j + (0 - RR n j) % n.e + RR n k = RR n (j + k) := by
  rw [RR_mod h]
  have e : rl n = n.r + (0 - n.r) % n.e := rfl
  generalize hd : (0 - n.r) % n.e = d at e
  unfold RR
  rw [e]
  have e1 : (j + k - 1) * (n.r + d) = (j - 1) * (n.r + d) + (k - 1) * (n.r + d) + (n.r + d) := by
    rw [← Int.add_mul, show j + k - 1 = (j - 1 + (k - 1)) + 1 by omega, Int.add_mul _ 1, Int.one_mul]
  omega
theorem rl_nn {n : N3} (h : n.ok) : n.r ≤ rl n ∧ rl n < n.r + n.e := by
  obtain ⟨h1, h2, h3, h4⟩ := h
  have a := Int.emod_nonneg (0 - n.r) (show n.e ≠ 0 by omega)
  have b := Int.emod_lt_of_pos (0 - n.r) (show 0 < n.e by omega)
  unfold rl
  omega
theorem dep_le {n : N3} (h : n.ok) (t : Int) : t ≤ dep n t ∧ dep n t < t + n.e := by
  obtain ⟨h1, h2, h3, h4⟩ := h
  have a := Int.emod_nonneg (n.a - t) (show n.e ≠ 0 by omega)
  have b := Int.emod_lt_of_pos (n.a - t) (show 0 < n.e by omega)
  unfold dep
  omega
/-- the law's own arrival after m rounds -/
def farN (n : N3) (s m : Int) : Int := if m = 0 then s else arr n s m
theorem at_mem {α : Type} {xs : List α} {v : Int} (h0 : 0 ≤ v) (h1 : v < (xs.length : Int)) : ∃ x, atI xs v = some x ∧ x ∈ xs := by
  obtain ⟨j, rfl⟩ : ∃ j : Nat, v = (j : Int) := ⟨v.toNat, by omega⟩
  have hj : j < xs.length := by omega
  exact ⟨xs[j], atI_nat (List.getElem?_eq_getElem hj), List.getElem_mem hj⟩
theorem at_ints (is : List Int) {v : Int} (h0 : 0 ≤ v) (h1 : v < (is.length : Int)) : ∃ i, atI (is.map V.int) v = some (.int i) ∧ i ∈ is := by
  obtain ⟨x, e, m⟩ := at_mem (xs := is.map V.int) h0 (by rw [List.length_map]; exact h1)
  obtain ⟨i, hi, rfl⟩ := List.mem_map.mp m
  exact ⟨i, e, hi⟩
theorem mk_same {H : Hp} {x dx : Addr} {o o1 o2 : HO} (hx : H x = none) (hd : H dx = none) : Same H (upd (upd (upd H dx o) x o1) x o2) := fun b u e => by
  rw [upd_ne (ne_of_none e hx), upd_ne (ne_of_none e hx), upd_ne (ne_of_none e hd)]
  exact e
/-- a tuple of a line's three numbers -/
def T3 (H : Hp) (p : Addr) (n : N3) : Prop := H p = some (.tup [.int n.e, .int n.a, .int n.r])
theorem T3.same {H H' : Hp} {p : Addr} {n : N3} (h : T3 H p n) (s : Same H H') : T3 H' p n := s _ _ h
end Fw
namespace Fw
open PySem PySem.Spec PyProof.Rows L2
theorem lead_m (x y : N3) (s m : Int) (hm : 1 ≤ m) : farN x s m - farN y s m = (m - 1) * (rl x - rl y) - (arr y s 1 - arr x s 1) := by
  unfold farN
  rw [if_neg (by omega), if_neg (by omega)]
  unfold arr
  rw [Int.mul_sub]
  simp only [Int.sub_self, Int.zero_mul]
  omega
theorem ovt_right {x y : N3} {s : Int} (hA : arr y s 1 - arr x s 1 ≤ 10 ^ 60) :
    (ovt x y s = none ∧ arr x s 1 - arr y s 1 ≤ 0 ∧ rl x - rl y ≤ 0) ∨
    (∃ t, ovt x y s = some t ∧ ¬ (arr x s 1 - arr y s 1 ≤ 0 ∧ rl x - rl y ≤ 0) ∧ 1 ≤ t ∧ t ≤ 10 ^ 61 ∧ (1 < t → ¬ 0 < farN x s (t - 1) - farN y s (t - 1)) ∧ 0 < farN x s t - farN y s t) := by
  unfold ovt
  generalize hA' : arr y s 1 - arr x s 1 = A at *
  have eA : arr x s 1 - arr y s 1 = -A := by omega
  rw [eA]
  by_cases c : A < 0
  · rw [if_pos c]
    refine .inr ⟨1, rfl, by omega, by omega, by decide, fun h => absurd h (by decide), ?_⟩
    rw [lead_m x y s 1 (by decide), hA']
    simp only [Int.sub_self, Int.zero_mul]
    omega
  · rw [if_neg c]
    by_cases d : 0 < rl x - rl y
    · rw [if_pos d]
      have q0 : 0 ≤ A / (rl x - rl y) := Int.ediv_nonneg (by omega) (by omega)
      have q1 : A / (rl x - rl y) ≤ A := Int.ediv_le_self _ (by omega)
      have q2 := Int.emod_add_mul_ediv A (rl x - rl y)
      have q3 := Int.emod_nonneg A (show rl x - rl y ≠ 0 by omega)
      have q4 := Int.emod_lt_of_pos A d
      rw [Int.mul_comm] at q2
      refine .inr ⟨_, rfl, by omega, by omega, by omega, fun _ => ?_, ?_⟩
      · rw [lead_m x y s _ (by omega), hA', show 2 + A / (rl x - rl y) - 1 - 1 = A / (rl x - rl y) by omega]
        omega
      · rw [lead_m x y s _ (by omega), hA', show 2 + A / (rl x - rl y) - 1 = A / (rl x - rl y) + 1 by omega, Int.add_mul, Int.one_mul]
        omega
    · rw [if_neg d]
      exact .inl ⟨rfl, by omega, by omega⟩
end Fw

/-! Fw, part E: rounds. -/
namespace Fw
open PySem PySem.Spec PyProof.Rows L2
theorem farN_RR {n : N3} {s m : Int} (h : 1 ≤ m) : farN n s m = dep n s + RR n m := by
  unfold farN
  rw [if_neg (by omega), arr_RR]
theorem dep_mod {n : N3} (h : n.ok) (s : Int) : ∃ k, dep n s = n.a + n.e * k := by
  unfold dep
  have e := Int.emod_add_mul_ediv (n.a - s) n.e
  refine ⟨-((n.a - s) / n.e), ?_⟩
  rw [Int.mul_neg]
  omega
theorem farN_add {n : N3} (h : n.ok) {s m k : Int} (hm : 0 ≤ m) (hk : 0 ≤ k) : farN n (farN n s m) k = farN n s (m + k) := by
  by_cases m0 : m = 0
  · subst m0
    rw [Int.zero_add]
    unfold farN
    rw [if_pos rfl]
  by_cases k0 : k = 0
  · subst k0
    rw [Int.add_zero]
    generalize farN n s m = z
    unfold farN
    rw [if_pos rfl]
  have he : 0 < n.e := by have := h.1; omega
  rw [farN_RR (s := farN n s m) (by omega), farN_RR (s := s) (m := m) (by omega), farN_RR (by omega), ← RR_add he m k]
  obtain ⟨j, e⟩ := dep_mod h s
  have q : dep n (dep n s + RR n m) = dep n s + RR n m + (0 - RR n m) % n.e := by
    show dep n s + RR n m + (n.a - (dep n s + RR n m)) % n.e = _
    rw [show n.a - (dep n s + RR n m) = (0 - RR n m) + n.e * (-j) by rw [Int.mul_neg]; omega, Int.add_mul_emod_self_left]
  rw [q]
  omega
theorem Sz.log {b : Nat} {i : Int} (h : Sz b i) (hb : b ≤ 1920 := by decide) (h0 : 0 < b := by decide) : i.natAbs.log2 < 1920 := by
  by_cases z : i.natAbs = 0
  · rw [z]
    decide
  · have := (Nat.log2_lt z).mpr h
    omega
theorem dep_sz {n : N3} (h : n.ok) {s : Int} {b : Nat} (hs : Sz b s) (he : Sz b n.e) : Sz (b + 1) (dep n s) := by
  have d := dep_le h s
  have h1 := h.1
  unfold Sz at *
  rw [Nat.pow_succ]
  omega
def untl (n : N3) (t g : Int) : Option Int := if g ≤ t then some 0 else if g ≤ arr n t 1 then some 1 else if rl n = 0 then none else some (1 - (arr n t 1 - g) / rl n)
theorem arr1 (n : N3) (t : Int) : arr n t 1 = dep n t + n.r := by
  unfold arr
  simp only [Int.sub_self, Int.zero_mul]
  omega
theorem untl_some {n : N3} {t g : Int} (h : n.ok) (h0 : t < g) (h1 : ¬ (n.r = 0 ∧ dep n t + n.r < g)) :
    ∃ k, untl n t g = some k ∧ 1 ≤ k ∧ k ≤ g - t + rl n + 1 ∧ g ≤ farN n t k ∧ farN n t (k - 1) < g := by
  have d := dep_le h t
  have hr := rl_nn h
  have h4 := h.2.2.2
  unfold untl
  rw [if_neg (by omega), arr1]
  by_cases c : g ≤ dep n t + n.r
  · rw [if_pos c]
    refine ⟨1, rfl, by decide, by omega, ?_, ?_⟩
    · unfold farN
      rw [if_neg (by decide), arr1]
      exact c
    · unfold farN
      rw [if_pos (by decide)]
      exact h0
  · rw [if_neg c]
    have r0 : ¬ n.r = 0 := fun z => h1 ⟨z, by omega⟩
    have l0 : 0 < rl n := by omega
    rw [if_neg (by omega)]
    have e := Int.emod_add_mul_ediv (dep n t + n.r - g) (rl n)
    have m0 := Int.emod_nonneg (dep n t + n.r - g) (show rl n ≠ 0 by omega)
    have m1 := Int.emod_lt_of_pos (dep n t + n.r - g) l0
    have q0 : (dep n t + n.r - g) / rl n < 0 := Int.ediv_lt_of_lt_mul l0 (by omega)
    generalize (dep n t + n.r - g) / rl n = q at *
    generalize (dep n t + n.r - g) % rl n = r at *
    have q1 : rl n * q ≤ 1 * q := Int.mul_le_mul_of_nonpos_right (by omega) (by omega)
    refine ⟨1 - q, rfl, by omega, by omega, ?_, ?_⟩
    · unfold farN
      rw [if_neg (by omega)]
      unfold arr
      rw [show 1 - q - 1 = -q by omega, Int.neg_mul, Int.mul_comm q]
      omega
    · unfold farN
      rw [if_neg (by omega)]
      unfold arr
      rw [show 1 - q - 1 - 1 = -q - 1 by omega, Int.sub_mul, Int.neg_mul, Int.mul_comm q, Int.one_mul]
      omega
theorem untl_none {n : N3} {t g : Int} (h : n.ok) (h0 : t < g) (h1 : n.r = 0) (h2 : dep n t + n.r < g) : untl n t g = none := by
  have hr : rl n = 0 := by
    unfold rl
    rw [h1]
    simp
  unfold untl
  rw [if_neg (by omega), arr1, if_neg (by omega), if_pos hr]
/-! ### rounds one by one -/
def ends41 (n : N3) (s : Int) : List Int := (List.range 41).map fun (i : Nat) => farN n s i
/-! ### comprehensions -/
/-- i items of ys stand in the new list at D, all else is as in H1 -/
def LcP (H1 : Hp) (D : Addr) (ys : List V) (i : Nat) (H : Hp) : Prop := Same H1 H ∧ H D = some (.lst (ys.take i))
theorem LcP.start {H1 : Hp} {D : Addr} {ys : List V} (hD : H1 D = none) : LcP H1 D ys 0 (upd H1 D (.lst [])) := ⟨Same.new hD, upd_same⟩
theorem LcP.step {H1 H H4 : Hp} {D : Addr} {ys : List V} {i : Nat} {y : V} (p : LcP H1 D ys i H) (hD : H1 D = none) (hz : ys.length < sizeLine) (s : Same H H4) (hy : ys[i]? = some y) :
    ∃ acc, H4 D = some (.lst acc) ∧ acc.length < sizeLine ∧ LcP H1 D ys (i + 1) (upd H4 D (.lst (acc ++ [y]))) := by
  obtain ⟨p1, p2⟩ := p
  refine ⟨_, s _ _ p2, Nat.lt_of_le_of_lt (by rw [List.length_take]; omega) hz, fun b o e => ?_, ?_⟩
  · rw [upd_ne (ne_of_none e hD)]
    exact s _ _ (p1 _ _ e)
  · rw [upd_same, List.take_add_one, hy]
    rfl
theorem LcP.done {H1 H : Hp} {D : Addr} {ys : List V} {i : Nat} (p : LcP H1 D ys i H) (h : ys.length ≤ i) : H D = some (.lst ys) := by
  rw [p.2, List.take_of_length_le h]
end Fw

namespace Fw
/-- what two ways share: the goal after them, found by the first that comes to it (apply share) -/
theorem share {P G : Prop} (f : P → G) (p : P) : G := f p
end Fw

namespace My
open PySem PySem.Spec PyProof.Rows L2 Fw
open He (ga ma)
abbrev PP : Program := PySem.Challenge.pw_onwardlines_k41_rounds_one_by_one
def top (i : Nat) : Stmt := PySem.Challenge.pw_onwardlines_k41_rounds_one_by_one.main.body.getD i (.Pass ⟨0, 0, 0, 0⟩)
abbrev s_is_integer : Stmt := top 14
abbrev s_are_numbers : Stmt := top 15
abbrev s_Line_init : Stmt := inClass (top 18) 1
abbrev s_Walk_init : Stmt := inClass (top 19) 1
abbrev s_Stop_init : Stmt := inClass (top 20) 1
abbrev s_Line_every : Stmt := inClass (top 18) 2
abbrev s_Line_at : Stmt := inClass (top 18) 3
abbrev s_Line_ride : Stmt := inClass (top 18) 4
abbrev s_Line_departure : Stmt := inClass (top 18) 6
abbrev s_round_length : Stmt := top 8
abbrev s_arrival_after : Stmt := top 9
abbrev s_after_rounds : Stmt := top 10
abbrev s_rounds_until : Stmt := top 11
abbrev s__law_tank : Stmt := top 22
abbrev s__law_sip : Stmt := top 23
abbrev s__law_three : Stmt := top 24
abbrev s__law_made : Stmt := top 25
abbrev s__law_start : Stmt := top 27
abbrev s__law_arrived : Stmt := top 26
abbrev s__law_until_right : Stmt := top 28
abbrev s__law_right : Stmt := top 29
abbrev s_law : Stmt := top 30
theorem sc_is_integer : FnScope ["thing"] ["thing"] (defScope s_is_integer) := ⟨rfl, rfl, rfl, by decide +kernel, rfl, by decide +kernel, by decide +kernel⟩
theorem sc_are_numbers : FnScope ["every", "at", "ride"] ["every", "at", "ride"] (defScope s_are_numbers) := ⟨rfl, rfl, rfl, by decide +kernel, rfl, by decide +kernel, by decide +kernel⟩
theorem sc_Line_init : FnScope ["self", "every", "at", "ride"] ["self", "every", "at", "ride"] (defScope s_Line_init) := ⟨rfl, rfl, rfl, by decide +kernel, rfl, by decide +kernel, by decide +kernel⟩
theorem sc_Walk_init : SupScope ["self", "ride"] ["self", "ride"] (defScope s_Walk_init) := ⟨rfl, rfl, rfl, by decide +kernel, rfl, by decide +kernel, by decide +kernel, by decide +kernel, rfl, rfl⟩
theorem sc_Stop_init : SupScope ["self", "every", "at"] ["self", "every", "at"] (defScope s_Stop_init) := ⟨rfl, rfl, rfl, by decide +kernel, rfl, by decide +kernel, by decide +kernel, by decide +kernel, rfl, rfl⟩
theorem sc_Line_every : FnScope ["self"] ["self"] (defScope s_Line_every) := ⟨rfl, rfl, rfl, by decide +kernel, rfl, by decide +kernel, by decide +kernel⟩
theorem sc_Line_at : FnScope ["self"] ["self"] (defScope s_Line_at) := ⟨rfl, rfl, rfl, by decide +kernel, rfl, by decide +kernel, by decide +kernel⟩
theorem sc_Line_ride : FnScope ["self"] ["self"] (defScope s_Line_ride) := ⟨rfl, rfl, rfl, by decide +kernel, rfl, by decide +kernel, by decide +kernel⟩
theorem sc_Line_departure : FnScope ["self", "time"] ["self", "time"] (defScope s_Line_departure) := ⟨rfl, rfl, rfl, by decide +kernel, rfl, by decide +kernel, by decide +kernel⟩
theorem sc_round_length : FnScope ["line"] ["line"] (defScope s_round_length) := ⟨rfl, rfl, rfl, by decide +kernel, rfl, by decide +kernel, by decide +kernel⟩
theorem sc_arrival_after : FnScope ["line", "time", "number"] ["line", "time", "number"] (defScope s_arrival_after) := ⟨rfl, rfl, rfl, by decide +kernel, rfl, by decide +kernel, by decide +kernel⟩
theorem sc_after_rounds : FnScope ["line", "time", "number"] ["line", "time", "number"] (defScope s_after_rounds) := ⟨rfl, rfl, rfl, by decide +kernel, rfl, by decide +kernel, by decide +kernel⟩
theorem sc_rounds_until : FnScope ["line", "time", "goal", "first", "length"] ["line", "time", "goal"] (defScope s_rounds_until) := ⟨rfl, rfl, rfl, by decide +kernel, rfl, by decide +kernel, by decide +kernel⟩
theorem sc__law_tank : FnScope ["script", "mix", "cell"] ["script"] (defScope s__law_tank) := ⟨rfl, rfl, rfl, by decide +kernel, rfl, by decide +kernel, by decide +kernel⟩
theorem sc__law_sip : FnScope ["tank", "many", "found", "mix"] ["tank", "many"] (defScope s__law_sip) := ⟨rfl, rfl, rfl, by decide +kernel, rfl, by decide +kernel, by decide +kernel⟩
theorem sc__law_three : FnScope ["tank", "wide", "headway", "leave", "far"] ["tank", "wide"] (defScope s__law_three) := ⟨rfl, rfl, rfl, by decide +kernel, rfl, by decide +kernel, by decide +kernel⟩
theorem sc__law_made : FnScope ["three", "headway", "leave", "far"] ["three"] (defScope s__law_made) := ⟨rfl, rfl, rfl, by decide +kernel, rfl, by decide +kernel, by decide +kernel⟩
theorem sc__law_start : FnScope ["tank", "wide"] ["tank", "wide"] (defScope s__law_start) := ⟨rfl, rfl, rfl, by decide +kernel, rfl, by decide +kernel, by decide +kernel⟩
theorem sc__law_arrived : FnScope ["three", "start", "headway", "leave", "far"] ["three", "start"] (defScope s__law_arrived) := ⟨rfl, rfl, rfl, by decide +kernel, rfl, by decide +kernel, by decide +kernel⟩
theorem sc__law_until_right : FnScope ["made", "three", "start", "ends", "spot", "end", "aim", "due", "told", "many"] ["made", "three", "start", "ends"] (defScope s__law_until_right) := ⟨rfl, rfl, rfl, by decide +kernel, rfl, by decide +kernel, by decide +kernel⟩
theorem sc__law_right : FnScope ["tank", "three", "made", "start", "ends", "turn", "many", "end", "told"] ["tank", "three"] (defScope s__law_right) := ⟨rfl, rfl, rfl, by decide +kernel, rfl, by decide +kernel, by decide +kernel⟩
theorem sc_law : FnScope ["script", "tank", "lap"] ["script"] (defScope s_law) := ⟨rfl, rfl, rfl, by decide +kernel, rfl, by decide +kernel, by decide +kernel⟩
def cks : List Ck := ([cFree "abs", cFree "bool", cFree "enumerate", cFree "int", cFree "isinstance", cFree "len", cFree "min", cFree "range", cFree "repr", cInt "MOST_ROUNDS_rounds" (10 ^ 30), cGlo "is_integer", cGlo "are_numbers", cGlo "round_length", cGlo "arrival_after", cGlo "after_rounds", cGlo "rounds_until", cGlo "_law_tank", cGlo "_law_sip", cGlo "_law_three", cGlo "_law_made", cGlo "_law_start", cGlo "_law_arrived", cGlo "_law_until_right", cGlo "_law_right", cGlo "law", cGlo "Line", cCls "Line", cMkr "Line", cGlo "Walk", cCls "Walk"] : List Ck) ++ ([cMkr "Walk", cGlo "Stop", cCls "Stop", cMkr "Stop", cNoat "Line" "held_every", cNoat "Walk" "held_every", cNoat "Stop" "held_every", cNoat "Line" "held_at", cNoat "Walk" "held_at", cNoat "Stop" "held_at", cNoat "Line" "held_ride", cNoat "Walk" "held_ride", cNoat "Stop" "held_ride", cProp "Line" "every", cProp "Walk" "every", cSameP "Walk" "Line" "every", cProp "Stop" "every", cSameP "Stop" "Line" "every", cProp "Line" "ride", cProp "Walk" "ride", cSameP "Walk" "Line" "ride", cProp "Stop" "ride", cSameP "Stop" "Line" "ride", cMeth "Line" "departure", cMeth "Walk" "departure", cSameM "Walk" "Line" "departure", cMeth "Stop" "departure", cSameM "Stop" "Line" "departure", cSup "Walk" "Line" "/claim/cut.py", cSup "Stop" "Line" "/claim/cut.py"] : List Ck)
def fns : List DefM := ([⟨fun K => ga K "is_integer", "is_integer", "is_integer", s_is_integer, []⟩, ⟨fun K => ga K "are_numbers", "are_numbers", "are_numbers", s_are_numbers, []⟩, ⟨fun K => ma K (ga K "Line") "__init__", "__init__", "Line.__init__", s_Line_init, []⟩, ⟨fun K => ma K (ga K "Walk") "__init__", "__init__", "Walk.__init__", s_Walk_init, ["__class__"]⟩, ⟨fun K => ma K (ga K "Stop") "__init__", "__init__", "Stop.__init__", s_Stop_init, ["__class__"]⟩, ⟨fun K => prA K (ga K "Line") "every", "every", "Line.every", s_Line_every, []⟩, ⟨fun K => prA K (ga K "Line") "at", "at", "Line.at", s_Line_at, []⟩, ⟨fun K => prA K (ga K "Line") "ride", "ride", "Line.ride", s_Line_ride, []⟩, ⟨fun K => ma K (ga K "Line") "departure", "departure", "Line.departure", s_Line_departure, []⟩, ⟨fun K => ga K "round_length", "round_length", "round_length", s_round_length, []⟩, ⟨fun K => ga K "arrival_after", "arrival_after", "arrival_after", s_arrival_after, []⟩, ⟨fun K => ga K "after_rounds", "after_rounds", "after_rounds", s_after_rounds, []⟩, ⟨fun K => ga K "rounds_until", "rounds_until", "rounds_until", s_rounds_until, []⟩, ⟨fun K => ga K "_law_tank", "_law_tank", "_law_tank", s__law_tank, []⟩, ⟨fun K => ga K "_law_sip", "_law_sip", "_law_sip", s__law_sip, []⟩] : List DefM) ++ ([⟨fun K => ga K "_law_three", "_law_three", "_law_three", s__law_three, []⟩, ⟨fun K => ga K "_law_made", "_law_made", "_law_made", s__law_made, []⟩, ⟨fun K => ga K "_law_start", "_law_start", "_law_start", s__law_start, []⟩, ⟨fun K => ga K "_law_arrived", "_law_arrived", "_law_arrived", s__law_arrived, []⟩, ⟨fun K => ga K "_law_until_right", "_law_until_right", "_law_until_right", s__law_until_right, []⟩, ⟨fun K => ga K "_law_right", "_law_right", "_law_right", s__law_right, []⟩, ⟨fun K => ga K "law", "law", "law", s_law, []⟩] : List DefM)
section
variable {K : Frag} {mg : Str → Option Value}
theorem n_abs (Z : Zs cks fns K mg) : mg "abs" = none := Z.free (Z.c 0)
theorem n_bool (Z : Zs cks fns K mg) : mg "bool" = none := Z.free (Z.c 1)
theorem n_enumerate (Z : Zs cks fns K mg) : mg "enumerate" = none := Z.free (Z.c 2)
theorem n_int (Z : Zs cks fns K mg) : mg "int" = none := Z.free (Z.c 3)
theorem n_isinstance (Z : Zs cks fns K mg) : mg "isinstance" = none := Z.free (Z.c 4)
theorem n_len (Z : Zs cks fns K mg) : mg "len" = none := Z.free (Z.c 5)
theorem n_min (Z : Zs cks fns K mg) : mg "min" = none := Z.free (Z.c 6)
theorem n_range (Z : Zs cks fns K mg) : mg "range" = none := Z.free (Z.c 7)
theorem n_repr (Z : Zs cks fns K mg) : mg "repr" = none := Z.free (Z.c 8)
theorem i_MOST_ROUNDS_rounds (Z : Zs cks fns K mg) : ∃ u, mg "MOST_ROUNDS_rounds" = some u ∧ RelV (.int (10 ^ 30)) u := Z.int (Z.c 9)
theorem g_is_integer (Z : Zs cks fns K mg) : mg "is_integer" = some (.ref (ga K "is_integer")) := Z.glo (Z.c 10)
theorem u_is_integer (Z : Zs cks fns K mg) : Fun K "is_integer" "is_integer" s_is_integer (ga K "is_integer") (fdAt K (ga K "is_integer")) := Z.f 0
theorem b_is_integer (Z : Zs cks fns K mg) : L2.Binds K (fdAt K (ga K "is_integer")) ["thing"] [] := (u_is_integer Z).binds (ps := ["thing"]) fun _ _ _ _ _ _ us hl => match us, hl with | [_], _ => rfl
theorem g_are_numbers (Z : Zs cks fns K mg) : mg "are_numbers" = some (.ref (ga K "are_numbers")) := Z.glo (Z.c 11)
theorem u_are_numbers (Z : Zs cks fns K mg) : Fun K "are_numbers" "are_numbers" s_are_numbers (ga K "are_numbers") (fdAt K (ga K "are_numbers")) := Z.f 1
theorem b_are_numbers (Z : Zs cks fns K mg) : L2.Binds K (fdAt K (ga K "are_numbers")) ["every", "at", "ride"] [] := (u_are_numbers Z).binds (ps := ["every", "at", "ride"]) fun _ _ _ _ _ _ us hl => match us, hl with | [_, _, _], _ => rfl
theorem u_Line_init (Z : Zs cks fns K mg) : Fun K "__init__" "Line.__init__" s_Line_init (ma K (ga K "Line") "__init__") (fdAt K (ma K (ga K "Line") "__init__")) := Z.f 2
theorem b_Line_init (Z : Zs cks fns K mg) : L2.Binds K (fdAt K (ma K (ga K "Line") "__init__")) ["self", "every", "at", "ride"] [] := (u_Line_init Z).binds (ps := ["self", "every", "at", "ride"]) fun _ _ _ _ _ _ us hl => match us, hl with | [_, _, _, _], _ => rfl
theorem u_Walk_init (Z : Zs cks fns K mg) : FunC K "__init__" "Walk.__init__" "__class__" s_Walk_init (ma K (ga K "Walk") "__init__") := Z.fc 3
theorem b_Walk_init (Z : Zs cks fns K mg) : L2.Binds K (fdAt K (ma K (ga K "Walk") "__init__")) ["self", "ride"] [] := FunC.binds (ps := ["self", "ride"]) (u_Walk_init Z) fun _ _ _ _ _ _ _ us hl => match us, hl with | [_, _], _ => rfl
theorem u_Stop_init (Z : Zs cks fns K mg) : FunC K "__init__" "Stop.__init__" "__class__" s_Stop_init (ma K (ga K "Stop") "__init__") := Z.fc 4
theorem b_Stop_init (Z : Zs cks fns K mg) : L2.Binds K (fdAt K (ma K (ga K "Stop") "__init__")) ["self", "every", "at"] [] := FunC.binds (ps := ["self", "every", "at"]) (u_Stop_init Z) fun _ _ _ _ _ _ _ us hl => match us, hl with | [_, _, _], _ => rfl
theorem u_Line_every (Z : Zs cks fns K mg) : Fun K "every" "Line.every" s_Line_every (prA K (ga K "Line") "every") (fdAt K (prA K (ga K "Line") "every")) := Z.f 5
theorem b_Line_every (Z : Zs cks fns K mg) : L2.Binds K (fdAt K (prA K (ga K "Line") "every")) ["self"] [] := (u_Line_every Z).binds (ps := ["self"]) fun _ _ _ _ _ _ us hl => match us, hl with | [_], _ => rfl
theorem u_Line_at (Z : Zs cks fns K mg) : Fun K "at" "Line.at" s_Line_at (prA K (ga K "Line") "at") (fdAt K (prA K (ga K "Line") "at")) := Z.f 6
theorem b_Line_at (Z : Zs cks fns K mg) : L2.Binds K (fdAt K (prA K (ga K "Line") "at")) ["self"] [] := (u_Line_at Z).binds (ps := ["self"]) fun _ _ _ _ _ _ us hl => match us, hl with | [_], _ => rfl
theorem u_Line_ride (Z : Zs cks fns K mg) : Fun K "ride" "Line.ride" s_Line_ride (prA K (ga K "Line") "ride") (fdAt K (prA K (ga K "Line") "ride")) := Z.f 7
theorem b_Line_ride (Z : Zs cks fns K mg) : L2.Binds K (fdAt K (prA K (ga K "Line") "ride")) ["self"] [] := (u_Line_ride Z).binds (ps := ["self"]) fun _ _ _ _ _ _ us hl => match us, hl with | [_], _ => rfl
theorem u_Line_departure (Z : Zs cks fns K mg) : Fun K "departure" "Line.departure" s_Line_departure (ma K (ga K "Line") "departure") (fdAt K (ma K (ga K "Line") "departure")) := Z.f 8
theorem b_Line_departure (Z : Zs cks fns K mg) : L2.Binds K (fdAt K (ma K (ga K "Line") "departure")) ["self", "time"] [] := (u_Line_departure Z).binds (ps := ["self", "time"]) fun _ _ _ _ _ _ us hl => match us, hl with | [_, _], _ => rfl
theorem g_round_length (Z : Zs cks fns K mg) : mg "round_length" = some (.ref (ga K "round_length")) := Z.glo (Z.c 12)
theorem u_round_length (Z : Zs cks fns K mg) : Fun K "round_length" "round_length" s_round_length (ga K "round_length") (fdAt K (ga K "round_length")) := Z.f 9
theorem b_round_length (Z : Zs cks fns K mg) : L2.Binds K (fdAt K (ga K "round_length")) ["line"] [] := (u_round_length Z).binds (ps := ["line"]) fun _ _ _ _ _ _ us hl => match us, hl with | [_], _ => rfl
theorem g_arrival_after (Z : Zs cks fns K mg) : mg "arrival_after" = some (.ref (ga K "arrival_after")) := Z.glo (Z.c 13)
theorem u_arrival_after (Z : Zs cks fns K mg) : Fun K "arrival_after" "arrival_after" s_arrival_after (ga K "arrival_after") (fdAt K (ga K "arrival_after")) := Z.f 10
theorem b_arrival_after (Z : Zs cks fns K mg) : L2.Binds K (fdAt K (ga K "arrival_after")) ["line", "time", "number"] [] := (u_arrival_after Z).binds (ps := ["line", "time", "number"]) fun _ _ _ _ _ _ us hl => match us, hl with | [_, _, _], _ => rfl
theorem g_after_rounds (Z : Zs cks fns K mg) : mg "after_rounds" = some (.ref (ga K "after_rounds")) := Z.glo (Z.c 14)
theorem u_after_rounds (Z : Zs cks fns K mg) : Fun K "after_rounds" "after_rounds" s_after_rounds (ga K "after_rounds") (fdAt K (ga K "after_rounds")) := Z.f 11
theorem b_after_rounds (Z : Zs cks fns K mg) : L2.Binds K (fdAt K (ga K "after_rounds")) ["line", "time", "number"] [] := (u_after_rounds Z).binds (ps := ["line", "time", "number"]) fun _ _ _ _ _ _ us hl => match us, hl with | [_, _, _], _ => rfl
theorem g_rounds_until (Z : Zs cks fns K mg) : mg "rounds_until" = some (.ref (ga K "rounds_until")) := Z.glo (Z.c 15)
theorem u_rounds_until (Z : Zs cks fns K mg) : Fun K "rounds_until" "rounds_until" s_rounds_until (ga K "rounds_until") (fdAt K (ga K "rounds_until")) := Z.f 12
theorem b_rounds_until (Z : Zs cks fns K mg) : L2.Binds K (fdAt K (ga K "rounds_until")) ["line", "time", "goal"] [] := (u_rounds_until Z).binds (ps := ["line", "time", "goal"]) fun _ _ _ _ _ _ us hl => match us, hl with | [_, _, _], _ => rfl
theorem g__law_tank (Z : Zs cks fns K mg) : mg "_law_tank" = some (.ref (ga K "_law_tank")) := Z.glo (Z.c 16)
theorem u__law_tank (Z : Zs cks fns K mg) : Fun K "_law_tank" "_law_tank" s__law_tank (ga K "_law_tank") (fdAt K (ga K "_law_tank")) := Z.f 13
theorem b__law_tank (Z : Zs cks fns K mg) : L2.Binds K (fdAt K (ga K "_law_tank")) ["script"] [] := (u__law_tank Z).binds (ps := ["script"]) fun _ _ _ _ _ _ us hl => match us, hl with | [_], _ => rfl
theorem g__law_sip (Z : Zs cks fns K mg) : mg "_law_sip" = some (.ref (ga K "_law_sip")) := Z.glo (Z.c 17)
theorem u__law_sip (Z : Zs cks fns K mg) : Fun K "_law_sip" "_law_sip" s__law_sip (ga K "_law_sip") (fdAt K (ga K "_law_sip")) := Z.f 14
theorem b__law_sip (Z : Zs cks fns K mg) : L2.Binds K (fdAt K (ga K "_law_sip")) ["tank", "many"] [] := (u__law_sip Z).binds (ps := ["tank", "many"]) fun _ _ _ _ _ _ us hl => match us, hl with | [_, _], _ => rfl
theorem g__law_three (Z : Zs cks fns K mg) : mg "_law_three" = some (.ref (ga K "_law_three")) := Z.glo (Z.c 18)
theorem u__law_three (Z : Zs cks fns K mg) : Fun K "_law_three" "_law_three" s__law_three (ga K "_law_three") (fdAt K (ga K "_law_three")) := Z.f 15
theorem b__law_three (Z : Zs cks fns K mg) : L2.Binds K (fdAt K (ga K "_law_three")) ["tank", "wide"] [] := (u__law_three Z).binds (ps := ["tank", "wide"]) fun _ _ _ _ _ _ us hl => match us, hl with | [_, _], _ => rfl
theorem g__law_made (Z : Zs cks fns K mg) : mg "_law_made" = some (.ref (ga K "_law_made")) := Z.glo (Z.c 19)
theorem u__law_made (Z : Zs cks fns K mg) : Fun K "_law_made" "_law_made" s__law_made (ga K "_law_made") (fdAt K (ga K "_law_made")) := Z.f 16
theorem b__law_made (Z : Zs cks fns K mg) : L2.Binds K (fdAt K (ga K "_law_made")) ["three"] [] := (u__law_made Z).binds (ps := ["three"]) fun _ _ _ _ _ _ us hl => match us, hl with | [_], _ => rfl
theorem g__law_start (Z : Zs cks fns K mg) : mg "_law_start" = some (.ref (ga K "_law_start")) := Z.glo (Z.c 20)
theorem u__law_start (Z : Zs cks fns K mg) : Fun K "_law_start" "_law_start" s__law_start (ga K "_law_start") (fdAt K (ga K "_law_start")) := Z.f 17
theorem b__law_start (Z : Zs cks fns K mg) : L2.Binds K (fdAt K (ga K "_law_start")) ["tank", "wide"] [] := (u__law_start Z).binds (ps := ["tank", "wide"]) fun _ _ _ _ _ _ us hl => match us, hl with | [_, _], _ => rfl
theorem g__law_arrived (Z : Zs cks fns K mg) : mg "_law_arrived" = some (.ref (ga K "_law_arrived")) := Z.glo (Z.c 21)
theorem u__law_arrived (Z : Zs cks fns K mg) : Fun K "_law_arrived" "_law_arrived" s__law_arrived (ga K "_law_arrived") (fdAt K (ga K "_law_arrived")) := Z.f 18
theorem b__law_arrived (Z : Zs cks fns K mg) : L2.Binds K (fdAt K (ga K "_law_arrived")) ["three", "start"] [] := (u__law_arrived Z).binds (ps := ["three", "start"]) fun _ _ _ _ _ _ us hl => match us, hl with | [_, _], _ => rfl
theorem g__law_until_right (Z : Zs cks fns K mg) : mg "_law_until_right" = some (.ref (ga K "_law_until_right")) := Z.glo (Z.c 22)
theorem u__law_until_right (Z : Zs cks fns K mg) : Fun K "_law_until_right" "_law_until_right" s__law_until_right (ga K "_law_until_right") (fdAt K (ga K "_law_until_right")) := Z.f 19
theorem b__law_until_right (Z : Zs cks fns K mg) : L2.Binds K (fdAt K (ga K "_law_until_right")) ["made", "three", "start", "ends"] [] := (u__law_until_right Z).binds (ps := ["made", "three", "start", "ends"]) fun _ _ _ _ _ _ us hl => match us, hl with | [_, _, _, _], _ => rfl
theorem g__law_right (Z : Zs cks fns K mg) : mg "_law_right" = some (.ref (ga K "_law_right")) := Z.glo (Z.c 23)
theorem u__law_right (Z : Zs cks fns K mg) : Fun K "_law_right" "_law_right" s__law_right (ga K "_law_right") (fdAt K (ga K "_law_right")) := Z.f 20
theorem b__law_right (Z : Zs cks fns K mg) : L2.Binds K (fdAt K (ga K "_law_right")) ["tank", "three"] [] := (u__law_right Z).binds (ps := ["tank", "three"]) fun _ _ _ _ _ _ us hl => match us, hl with | [_, _], _ => rfl
theorem g_law (Z : Zs cks fns K mg) : mg "law" = some (.ref (ga K "law")) := Z.glo (Z.c 24)
theorem u_law (Z : Zs cks fns K mg) : Fun K "law" "law" s_law (ga K "law") (fdAt K (ga K "law")) := Z.f 21
theorem b_law (Z : Zs cks fns K mg) : L2.Binds K (fdAt K (ga K "law")) ["script"] [] := (u_law Z).binds (ps := ["script"]) fun _ _ _ _ _ _ us hl => match us, hl with | [_], _ => rfl
theorem k_after_rounds_0_number_time_line (Z : Zs cks fns K mg) : KBn K (fdAt K (ga K "after_rounds")) ["line", "time", "number"] 0 ["number", "time", "line"] (fun us ws => pick (us ++ ws) [2, 1, 0]) (fun us ws => pick (us ++ ws) [2, 1, 0]) := Fun.kb (ps := ["line", "time", "number"]) (u_after_rounds Z) 0 ["number", "time", "line"] (fun us ws => pick (us ++ ws) [2, 1, 0]) (fun r1 r2 => Fw.Vals.pick (r1.append r2) _) fun _ _ _ _ _ _ us ws l1 l2 => match us, ws, l1, l2 with | [], [_, _, _], _, _ => rfl
theorem k_rounds_until_0_goal_time_line (Z : Zs cks fns K mg) : KBn K (fdAt K (ga K "rounds_until")) ["line", "time", "goal"] 0 ["goal", "time", "line"] (fun us ws => pick (us ++ ws) [2, 1, 0]) (fun us ws => pick (us ++ ws) [2, 1, 0]) := Fun.kb (ps := ["line", "time", "goal"]) (u_rounds_until Z) 0 ["goal", "time", "line"] (fun us ws => pick (us ++ ws) [2, 1, 0]) (fun r1 r2 => Fw.Vals.pick (r1.append r2) _) fun _ _ _ _ _ _ us ws l1 l2 => match us, ws, l1, l2 with | [], [_, _, _], _, _ => rfl
theorem lnF (Z : Zs cks fns K mg) : LnF K := ⟨fun k => match k with | .line => cls_of (Z.c 26) | .walk => cls_of (Z.c 29) | .stop => cls_of (Z.c 32), fun k => match k with | .line => noat_of (Z.c 34) | .walk => noat_of (Z.c 35) | .stop => noat_of (Z.c 36), fun k => match k with | .line => noat_of (Z.c 37) | .walk => noat_of (Z.c 38) | .stop => noat_of (Z.c 39), fun k => match k with | .line => noat_of (Z.c 40) | .walk => noat_of (Z.c 41) | .stop => noat_of (Z.c 42)⟩
theorem g_Line (Z : Zs cks fns K mg) : mg "Line" = some (.ref (ga K "Line")) := Z.glo (Z.c 25)
theorem M_Line (Z : Zs cks fns K mg) : Mk K (ga K "Line") (ma K (ga K "Line") "__init__") := mkr_of (Z.c 27)
theorem g_Walk (Z : Zs cks fns K mg) : mg "Walk" = some (.ref (ga K "Walk")) := Z.glo (Z.c 28)
theorem M_Walk (Z : Zs cks fns K mg) : Mk K (ga K "Walk") (ma K (ga K "Walk") "__init__") := mkr_of (Z.c 30)
theorem g_Stop (Z : Zs cks fns K mg) : mg "Stop" = some (.ref (ga K "Stop")) := Z.glo (Z.c 31)
theorem M_Stop (Z : Zs cks fns K mg) : Mk K (ga K "Stop") (ma K (ga K "Stop") "__init__") := mkr_of (Z.c 33)
theorem hp_every (Z : Zs cks fns K mg) : ∀ k, ∃ p, PropOf K (cA K k) "every" p (prA K (ga K "Line") "every") := fun k => match k with | .line => ⟨_, prop_of (Z.c 43)⟩ | .walk => ⟨_, by have h := prop_of (Z.c 44); rw [show prA K (ga K "Walk") "every" = prA K (ga K "Line") "every" from of_decide_eq_true (Z.c 45)] at h; exact h⟩ | .stop => ⟨_, by have h := prop_of (Z.c 46); rw [show prA K (ga K "Stop") "every" = prA K (ga K "Line") "every" from of_decide_eq_true (Z.c 47)] at h; exact h⟩
theorem hp_ride (Z : Zs cks fns K mg) : ∀ k, ∃ p, PropOf K (cA K k) "ride" p (prA K (ga K "Line") "ride") := fun k => match k with | .line => ⟨_, prop_of (Z.c 48)⟩ | .walk => ⟨_, by have h := prop_of (Z.c 49); rw [show prA K (ga K "Walk") "ride" = prA K (ga K "Line") "ride" from of_decide_eq_true (Z.c 50)] at h; exact h⟩ | .stop => ⟨_, by have h := prop_of (Z.c 51); rw [show prA K (ga K "Stop") "ride" = prA K (ga K "Line") "ride" from of_decide_eq_true (Z.c 52)] at h; exact h⟩
theorem hm_departure (Z : Zs cks fns K mg) : ∀ k, Meth K (cA K k) "departure" (ma K (ga K "Line") "departure") := fun k => match k with | .line => meth_of (Z.c 53) | .walk => (by have h := meth_of (Z.c 54); rw [show ma K (ga K "Walk") "departure" = ma K (ga K "Line") "departure" from of_decide_eq_true (Z.c 55)] at h; exact h) | .stop => (by have h := meth_of (Z.c 56); rw [show ma K (ga K "Stop") "departure" = ma K (ga K "Line") "departure" from of_decide_eq_true (Z.c 57)] at h; exact h)
theorem sup_Walk (Z : Zs cks fns K mg) : supB K (ma K (ga K "Walk") "__init__") (ga K "Walk") (ma K (ga K "Line") "__init__") "/claim/cut.py" = true := Z.c 58
theorem sup_Stop (Z : Zs cks fns K mg) : supB K (ma K (ga K "Stop") "__init__") (ga K "Stop") (ma K (ga K "Line") "__init__") "/claim/cut.py" = true := Z.c 59
end
abbrev R : PySem.W.OpenRow := PySem.W.OpenLaw.row PySem.Challenge.rw_onwardlines_k41_rounds_one_by_one
abbrev hk : PySem.W.Hook := hookM 6 cks fns
def ob (s : PySem.W.SharedT) : AlM := obsMG 6 cks fns (HandSHeadRun.getT s)
theorem ob_eq (s : PySem.W.SharedT) : ob s = hk.obs s.abs := obsMG_eq (HandSHeadRun.getT_eq s)
def loose : List PySem.Str := (["_wall", "HeadwayError", "InvalidLine", "InvalidNumber", "NotFitting", "MOST_ROUNDS_rounds", "round_length", "arrival_after", "after_rounds", "rounds_until", "MOST_ROUNDS_lines", "is_integer", "are_numbers", "fit", "taken_after", "Line", "Walk", "Stop", "_law_tank", "_law_sip", "_law_three", "_law_made", "_law_arrived", "_law_start", "_law_until_right", "_law_right"] : List PySem.Str)
set_option maxHeartbeats 0 in
theorem run (w : World) : HandSHeadRun.RunEq R (PySem.W.view R.prog [30]) hk ob 20000 loose w := by
  intro os
  kernel_rfl
section
variable {w : World} {K : Frag} {mg : Str → Option Value} {base : Heap}
def sp_is_integer (K : Frag) : Sp := fun vs H Q E => ∃ (x : V) (t : Value) (b1 : Bool) (b2 : Bool), vs = [x] ∧ TyX K H x t ∧ PySem.W.kitOne K t (.type "int") = some b1 ∧ PySem.W.kitOne K t (.type "bool") = some b2 ∧ Q (.bl (b1 && !b2)) H
theorem ok_is_integer (Z : Zs cks fns K mg) : FnOk PP w K mg base (L2.CX PP w) 1 (ga K "is_integer") (fdAt K (ga K "is_integer")) ["thing"] (sp_is_integer K) := by
  refine (u_is_integer Z).okX sc_is_integer (fun vs H Q E h => ?_) (fun cdv A outer s H vs Q E hr h => ?_)
  · obtain ⟨_, _, _, _, rfl, _⟩ := h
    rfl
  · obtain ⟨x, t, b1, b2, rfl, ⟨ht, h1, h2, hq⟩⟩ := h
    refine ⟨_, (pss_one (ps_ret (pe_and (pe_callB call_isi rfl (n_isinstance Z) (by decide +kernel) (pa_cons (pv 0) (pa_cons (pe_bltn (v := .ty "int") (u := .type "int") rfl (n_int Z) (by decide +kernel) rfl) pa_nil))) (pe_one (pe_not (pe_callB call_isi rfl (n_isinstance Z) (by decide +kernel) (pa_cons (pv 0) (pa_cons (pe_bltn (v := .ty "bool") (u := .type "bool") rfl (n_bool Z) (by decide +kernel) rfl) pa_nil)))))))), ?_⟩
    refine ⟨x, rfl, x, .ty "int", t, .type "int", b1, rfl, .ty _, ht, h1, b1, rfl, ?_⟩
    cases b1 with
    | true => exact iteT ⟨_, rfl, _, _, _, _, b2, rfl, .ty _, ht, h2, _, rfl, hq⟩
    | false => exact iteF hq
def sp_are_numbers (K : Frag) : Sp := fun vs H Q E => ∃ (n : N3), vs = [.int n.e, .int n.a, .int n.r] ∧ n.ok ∧ Q (.bl true) H
theorem ok_are_numbers (Z : Zs cks fns K mg) : FnOk PP w K mg base (L2.CX PP w) 2 (ga K "are_numbers") (fdAt K (ga K "are_numbers")) ["every", "at", "ride"] (sp_are_numbers K) := by
  refine (u_are_numbers Z).okX sc_are_numbers (fun vs H Q E h => ?_) (fun cdv A outer s H vs Q E hr h => ?_)
  · obtain ⟨_, rfl, _⟩ := h
    rfl
  · obtain ⟨n, rfl, ⟨⟨h1, h2, h3, h4⟩, hq⟩⟩ := h
    refine ⟨_, (pss_cons (ps_if (PW.pt (pw_or (pt_not (pt_val (pe_call (ok_is_integer Z) (hr.mono (by decide)) rfl (g_is_integer Z) (u_is_integer Z).kp (b_is_integer Z) .nil passL (pa_cons (pv 0) pa_nil)))) (pw_or (pt_not (pt_val (pe_call (ok_is_integer Z) (hr.mono (by decide)) rfl (g_is_integer Z) (u_is_integer Z).kp (b_is_integer Z) .nil passL (pa_cons (pv 1) pa_nil)))) (pw_or1 (pt_not (pt_val (pe_call (ok_is_integer Z) (hr.mono (by decide)) rfl (g_is_integer Z) (u_is_integer Z).kp (b_is_integer Z) .nil passL (pa_cons (pv 2) pa_nil))))))))
        (pss_one (ps_ret pe_bl))
        pss_nil)
      (pss_one (ps_ret (pe_and (pe_cmpR op_ge (pv 0) pe_int (nomark _)) (pe_and (pe_chain op_le op_lt pe_int (pv 1) (pv 0)) (pe_one (pe_cmpR op_ge (pv 2) pe_int (nomark _)))))))), ?_⟩
    refine ⟨_, rfl, ⟨_, _, true, false, rfl, .base (.int _), kit_ty (by decide +kernel), kit_ty (by decide +kernel), _, rfl, iteF ?_⟩⟩
    refine ⟨_, rfl, ⟨_, _, true, false, rfl, .base (.int _), kit_ty (by decide +kernel), kit_ty (by decide +kernel), _, rfl, iteF ?_⟩⟩
    refine ⟨_, rfl, ⟨_, _, true, false, rfl, .base (.int _), kit_ty (by decide +kernel), kit_ty (by decide +kernel), _, rfl, iteF ?_⟩⟩
    refine ⟨_, rfl, _, _, rfl, rfl, _, rfl, ifT h1 ?_⟩
    refine ⟨_, rfl, _, _, rfl, rfl, _, rfl, ifT h2 ⟨_, rfl, _, _, rfl, rfl, _, rfl, ifT h3 ?_⟩⟩
    exact ⟨_, rfl, _, _, rfl, rfl, qT h4 hq⟩
theorem lf_len1 {v : V} : (putF "held_every" v []).length < 1000 := by
  have h := length_putF "held_every" v []
  have e : ([] : List (Str × V)).length = 0 := rfl
  omega
theorem lf_len2 {v u : V} : (putF "held_at" u (putF "held_every" v [])).length < 1000 := by
  have h := length_putF "held_every" v []
  have g := length_putF "held_at" u (putF "held_every" v [])
  have e : ([] : List (Str × V)).length = 0 := rfl
  omega
def sp_Line_init (K : Frag) : Sp := fun vs H Q E => ∃ (k : LK) (p : Addr) (dx : Addr) (n : N3), vs = [.ref p, .int n.e, .int n.a, .int n.r] ∧ n.ok ∧ H p = some (.ins (cA K k) dx []) ∧ Q .non (upd H p (.ins (cA K k) dx (lf n)))
theorem ok_Line_init (Z : Zs cks fns K mg) : FnOk PP w K mg base (L2.CX PP w) 3 (ma K (ga K "Line") "__init__") (fdAt K (ma K (ga K "Line") "__init__")) ["self", "every", "at", "ride"] (sp_Line_init K) := by
  refine (u_Line_init Z).okX sc_Line_init (fun vs H Q E h => ?_) (fun cdv A outer s H vs Q E hr h => ?_)
  · obtain ⟨_, _, _, _, rfl, _⟩ := h
    rfl
  · obtain ⟨k, p, dx, n, rfl, ⟨hok, hp, hq⟩⟩ := h
    refine ⟨_, (pss_cons (ps_if (pt_not (pt_val (pe_call (ok_are_numbers Z) (hr.mono (by decide)) rfl (g_are_numbers Z) (u_are_numbers Z).kp (b_are_numbers Z) .nil passL (pa_cons (pv 1) (pa_cons (pv 2) (pa_cons (pv 3) pa_nil))))))
        (pss_one ps_never)
        pss_nil)
      (pss_cons (ps_fld (pv 0) (pv 1) rfl)
      (pss_cons (ps_fld (pv 0) (pv 2) rfl)
      (pss_one (ps_fld (pv 0) (pv 3) rfl))))), ?_⟩
    refine ⟨_, rfl, _, rfl, _, rfl, ⟨n, rfl, hok, _, rfl, iteF ?_⟩⟩
    refine ⟨_, rfl, _, rfl, p, _, dx, [], rfl, hp, (lnF Z).cls k, (lnF Z).nE k, (by decide), ?_⟩
    refine ⟨_, rfl, _, rfl, p, _, dx, _, rfl, upd_same, (lnF Z).cls k, (lnF Z).nA k, lf_len1, ?_⟩
    refine ⟨_, rfl, _, rfl, p, _, dx, _, rfl, upd_same, (lnF Z).cls k, (lnF Z).nR k, lf_len2, ?_⟩
    rw [upd_upd, upd_upd]
    exact hq
def sp_Walk_init (K : Frag) : Sp := fun vs H Q E => ∃ (p : Addr) (dx : Addr) (r : Int), vs = [.ref p, .int r] ∧ 0 ≤ r ∧ H p = some (.ins (cA K .walk) dx []) ∧ Q .non (upd H p (.ins (cA K .walk) dx (lf ⟨1, 0, r⟩)))
theorem ok_Walk_init (Z : Zs cks fns K mg) : FnOk PP w K mg base (L2.CX PP w) 4 (ma K (ga K "Walk") "__init__") (fdAt K (ma K (ga K "Walk") "__init__")) ["self", "ride"] (sp_Walk_init K) :=
  fn_super (z := "/claim/cut.py") (D := ga K "Walk") (u_Walk_init Z) sc_Walk_init (sup_Walk Z) (by decide +kernel) (by decide +kernel) rfl rfl rfl (ok_Line_init Z) (b_Line_init Z)
    (fun vs H Q E h => by obtain ⟨p, dx, r, rfl, _⟩ := h; rfl) (fun cdv cc A outer s H E => pa_cons pe_int (pa_cons pe_int (pa_cons (pv 1) pa_nil))) (fun _ => rfl) (fun _ => rfl) (fun _ => rfl)
    (fun vs H Q E h => by
      obtain ⟨p, dx, r, rfl, h0, hp, hq⟩ := h
      exact ⟨p, dx, [], rfl, hp, _, rfl, ⟨.walk, p, dx, ⟨1, 0, r⟩, rfl, ⟨Int.le_refl 1, Int.le_refl 0, (by show (0 : Int) < 1; decide), h0⟩, hp, hq⟩⟩)
def sp_Stop_init (K : Frag) : Sp := fun vs H Q E => ∃ (p : Addr) (dx : Addr) (e : Int) (l : Int), vs = [.ref p, .int e, .int l] ∧ 1 ≤ e ∧ 0 ≤ l ∧ l < e ∧ H p = some (.ins (cA K .stop) dx []) ∧ Q .non (upd H p (.ins (cA K .stop) dx (lf ⟨e, l, 0⟩)))
theorem ok_Stop_init (Z : Zs cks fns K mg) : FnOk PP w K mg base (L2.CX PP w) 4 (ma K (ga K "Stop") "__init__") (fdAt K (ma K (ga K "Stop") "__init__")) ["self", "every", "at"] (sp_Stop_init K) :=
  fn_super (z := "/claim/cut.py") (D := ga K "Stop") (u_Stop_init Z) sc_Stop_init (sup_Stop Z) (by decide +kernel) (by decide +kernel) rfl rfl rfl (ok_Line_init Z) (b_Line_init Z)
    (fun vs H Q E h => by obtain ⟨p, dx, e, l, rfl, _⟩ := h; rfl) (fun cdv cc A outer s H E => pa_cons (pv 1) (pa_cons (pv 2) (pa_cons pe_int pa_nil))) (fun _ => rfl) (fun _ => rfl) (fun _ => rfl)
    (fun vs H Q E h => by
      obtain ⟨p, dx, e, l, rfl, h1, h2, h3, hp, hq⟩ := h
      exact ⟨p, dx, [], rfl, hp, _, rfl, _, rfl, ⟨.stop, p, dx, ⟨e, l, 0⟩, rfl, ⟨h1, h2, h3, Int.le_refl 0⟩, hp, hq⟩⟩)
abbrev sp_Line_every : Frag → Sp := fun K => getSp (ga K "Line") "held_every"
theorem ok_Line_every (Z : Zs cks fns K mg) : ∀ k, FnOk PP w K mg base (L2.CX PP w) 1 (prA K (ga K "Line") "every") (fdAt K (prA K (ga K "Line") "every")) ["self"] (getSp (cA K k) "held_every") := fun k => ok_getter (u_Line_every Z) sc_Line_every rfl rfl ((lnF Z).cls k) ((lnF Z).nE k)
abbrev sp_Line_at : Frag → Sp := fun K => getSp (ga K "Line") "held_at"
theorem ok_Line_at (Z : Zs cks fns K mg) : ∀ k, FnOk PP w K mg base (L2.CX PP w) 1 (prA K (ga K "Line") "at") (fdAt K (prA K (ga K "Line") "at")) ["self"] (getSp (cA K k) "held_at") := fun k => ok_getter (u_Line_at Z) sc_Line_at rfl rfl ((lnF Z).cls k) ((lnF Z).nA k)
abbrev sp_Line_ride : Frag → Sp := fun K => getSp (ga K "Line") "held_ride"
theorem ok_Line_ride (Z : Zs cks fns K mg) : ∀ k, FnOk PP w K mg base (L2.CX PP w) 1 (prA K (ga K "Line") "ride") (fdAt K (prA K (ga K "Line") "ride")) ["self"] (getSp (cA K k) "held_ride") := fun k => ok_getter (u_Line_ride Z) sc_Line_ride rfl rfl ((lnF Z).cls k) ((lnF Z).nR k)
def sp_Line_departure (K : Frag) : Sp := fun vs H Q E => ∃ (a : Addr) (k : LK) (n : N3) (t : Int), vs = [.ref a, .int t] ∧ LnAt K H a k n ∧ n.ok ∧ Q (.int (dep n t)) H
theorem ok_Line_departure (Z : Zs cks fns K mg) : FnOk PP w K mg base (L2.CX PP w) 1 (ma K (ga K "Line") "departure") (fdAt K (ma K (ga K "Line") "departure")) ["self", "time"] (sp_Line_departure K) := by
  refine (u_Line_departure Z).okX sc_Line_departure (fun vs H Q E h => ?_) (fun cdv A outer s H vs Q E hr h => ?_)
  · obtain ⟨_, _, _, _, rfl, _⟩ := h
    rfl
  · obtain ⟨a, k, n, t, rfl, ⟨⟨dx, hA⟩, ⟨h1, _, _, _⟩, hq⟩⟩ := h
    refine ⟨_, (pss_one (ps_ret (pe_op op_add (pv 1) (pe_op op_mod (pe_op op_sub (pe_fld (pv 0) rfl) (pv 1)) (pe_fld (pv 0) rfl))))), ?_⟩
    refine ⟨_, rfl, _, rfl, a, _, dx, _, _, rfl, hA, (lnF Z).cls k, (lnF Z).nA k, lf_a n, _, rfl, _, _, rfl, rfl, ?_⟩
    exact ⟨_, rfl, a, _, dx, _, _, rfl, hA, (lnF Z).cls k, (lnF Z).nE k, lf_e n, _, _, rfl, rfl, (by show 0 < n.e; omega), _, _, rfl, rfl, hq⟩
def sp_round_length (K : Frag) : Sp := fun vs H Q E => ∃ (a : Addr) (k : LK) (n : N3), vs = [.ref a] ∧ LnAt K H a k n ∧ n.ok ∧ Q (.int (rl n)) H
theorem ok_round_length (Z : Zs cks fns K mg) : FnOk PP w K mg base (L2.CX PP w) 3 (ga K "round_length") (fdAt K (ga K "round_length")) ["line"] (sp_round_length K) := by
  refine (u_round_length Z).okX sc_round_length (fun vs H Q E h => ?_) (fun cdv A outer s H vs Q E hr h => ?_)
  · obtain ⟨_, _, _, rfl, _⟩ := h
    rfl
  · obtain ⟨a, k, n, rfl, ⟨hL, ⟨h1, _, _, _⟩, hq⟩⟩ := h
    refine ⟨_, (pss_one (ps_ret (pe_op op_add (pe_lget (pv 0) (lnF Z) (hp_ride Z) (ok_Line_ride Z) (b_Line_ride Z) (hr.mono (by decide)) lf_r rfl) (pe_op op_mod (pe_op op_sub pe_int (pe_lget (pv 0) (lnF Z) (hp_ride Z) (ok_Line_ride Z) (b_Line_ride Z) (hr.mono (by decide)) lf_r rfl)) (pe_lget (pv 0) (lnF Z) (hp_every Z) (ok_Line_every Z) (b_Line_every Z) (hr.mono (by decide)) lf_e rfl))))), ?_⟩
    exact ⟨_, rfl, a, k, n, rfl, hL, _, rfl, a, k, n, rfl, hL, _, _, rfl, rfl, _, rfl, a, k, n, rfl, hL, _, _, rfl, rfl, (by show 0 < n.e; omega), _, _, rfl, rfl, hq⟩
def sp_arrival_after (K : Frag) : Sp := fun vs H Q E => ∃ (a : Addr) (k : LK) (n : N3) (t : Int) (m : Int), vs = [.ref a, .int t, .int m] ∧ LnAt K H a k n ∧ n.ok ∧ Sz 2000 (m - 1) ∧ Sz 2000 (rl n) ∧ Q (.int (arr n t m)) H
theorem ok_arrival_after (Z : Zs cks fns K mg) : FnOk PP w K mg base (L2.CX PP w) 4 (ga K "arrival_after") (fdAt K (ga K "arrival_after")) ["line", "time", "number"] (sp_arrival_after K) := by
  refine (u_arrival_after Z).okX sc_arrival_after (fun vs H Q E h => ?_) (fun cdv A outer s H vs Q E hr h => ?_)
  · obtain ⟨_, _, _, _, _, rfl, _⟩ := h
    rfl
  · obtain ⟨a, k, n, t, m, rfl, ⟨hL, hok, hm, hr2, hq⟩⟩ := h
    refine ⟨_, (pss_one (ps_ret (pe_op op_add (pe_op op_add (pe_lmeth (pv 0) (lnF Z) (hm_departure Z) (ok_Line_departure Z) (hr.mono (by decide)) (b_Line_departure Z) passL (pa_cons (pv 1) pa_nil)) (pe_op op_mulW (pe_op op_sub (pv 2) pe_int) (pe_call (ok_round_length Z) (hr.mono (by decide)) rfl (g_round_length Z) (u_round_length Z).kp (b_round_length Z) .nil passL (pa_cons (pv 0) pa_nil)))) (pe_lget (pv 0) (lnF Z) (hp_ride Z) (ok_Line_ride Z) (b_Line_ride Z) (hr.mono (by decide)) lf_r rfl)))), ?_⟩
    refine ⟨_, rfl, a, k, n, rfl, hL, _, rfl, ⟨a, k, n, t, rfl, hL, hok, _, rfl, _, _, rfl, rfl, _, rfl, ⟨a, k, n, rfl, hL, hok, _, _, rfl, rfl, hm.cmul hr2, ?_⟩⟩⟩
    exact ⟨_, _, rfl, rfl, _, rfl, a, k, n, rfl, hL, _, _, rfl, rfl, hq⟩
end
section
variable {w : World} {K : Frag} {mg : Str → Option Value} {base : Heap}
theorem farN_mono {n : N3} (h : n.ok) {s i j : Int} (hi : 0 ≤ i) (hj : i ≤ j) : farN n s i ≤ farN n s j := by
  have d := dep_le h s
  have hr := rl_nn h
  have h4 := h.2.2.2
  by_cases z : j = 0
  · rw [show i = j by omega]
    exact Int.le_refl _
  · unfold farN
    rw [if_neg z]
    by_cases y : i = 0
    · rw [if_pos y]
      unfold arr
      have q : 0 ≤ (j - 1) * rl n := Int.mul_nonneg (by omega) (by omega)
      omega
    · rw [if_neg y]
      unfold arr
      have q : (i - 1) * rl n ≤ (j - 1) * rl n := Int.mul_le_mul_of_nonneg_right (by omega) (by omega)
      omega
theorem take1_range {N k : Nat} {p : Nat → Bool} (hk : k < N) (hp : p k = true) (hl : ∀ j, j < k → p j = false) : ((List.range N).filter p).take 1 = [k] := by
  rw [List.take_one, List.head?_filter, List.find?_range_eq_some.mpr ⟨hp, List.mem_range.mpr hk, fun j hj => by rw [hl j hj]; rfl⟩]
  rfl
theorem take1_none {N : Nat} {p : Nat → Bool} (hl : ∀ j, j < N → p j = false) : ((List.range N).filter p).take 1 = [] := by
  rw [List.take_one, List.head?_filter, List.find?_range_eq_none.mpr fun j hj => by rw [hl j hj]; rfl]
  rfl
def PA (n : N3) (s aim : Int) (m : Nat) : Bool := decide (aim ≤ farN n s m)
def dueF (n : N3) (s aim : Int) (j : Nat) : List Int := ((List.range j).filter (PA n s aim)).map fun (m : Nat) => (m : Int)
theorem cut1 (ds : List Int) : cutI ds none (some 1) = ds.take 1 := by
  unfold cutI
  have e : HT.sIx ds.length ds.length (some 1) = min 1 ds.length := HT.sIx_nat ds.length ds.length 1
  rw [e]
  show ((ds.drop 0).take _) = _
  cases ds with
  | nil => rfl
  | cons d r =>
    show List.take (min 1 (r.length + 1) - 0) (d :: r) = _
    rw [show min 1 (r.length + 1) - 0 = 1 by omega]
theorem due_cases {n : N3} {s aim : Int} (h : n.ok) :
    (∃ k : Nat, (dueF n s aim 41).take 1 = [(k : Int)] ∧ untl n s aim = some (k : Int) ∧ k ≤ 41) ∨
    ((dueF n s aim 41).take 1 = [] ∧ (n.r = 0 → untl n s aim = none) ∧ (0 < n.r → ∃ k, untl n s aim = some k ∧ 41 ≤ k)) := by
  have f0 : farN n s 0 = s := by unfold farN; rw [if_pos rfl]
  unfold dueF
  rw [← List.map_take]
  by_cases c : aim ≤ s
  · refine .inl ⟨0, ?_, ?_, by decide⟩
    · rw [take1_range (k := 0) (by decide) (by unfold PA; exact decide_eq_true (by rw [show ((0 : Nat) : Int) = 0 from rfl, f0]; exact c)) (by intro j hj; omega)]
      rfl
    · unfold untl
      rw [if_pos c]
      rfl
  by_cases z : n.r = 0 ∧ dep n s + n.r < aim
  · refine .inr ⟨?_, fun _ => untl_none h (by omega) z.1 z.2, fun q => by omega⟩
    rw [take1_none]
    · rfl
    · intro j hj
      refine decide_eq_false fun q => ?_
      unfold farN at q
      have hr : rl n = 0 := by
        unfold rl
        rw [z.1]
        simp
      by_cases y : ((j : Nat) : Int) = 0
      · rw [if_pos y] at q
        omega
      · rw [if_neg y] at q
        unfold arr at q
        rw [hr, Int.mul_zero] at q
        omega
  · obtain ⟨k, ek, k1, k2, k3, k4⟩ := untl_some h (show s < aim by omega) z
    obtain ⟨m, rfl⟩ : ∃ m : Nat, k = (m : Int) := ⟨k.toNat, by omega⟩
    have below : ∀ j : Nat, j < m → PA n s aim j = false := fun j hj => decide_eq_false fun q => by
      have := farN_mono h (s := s) (show (0 : Int) ≤ (j : Int) by omega) (show (j : Int) ≤ (m : Int) - 1 by omega)
      omega
    by_cases y : m < 41
    · refine .inl ⟨m, ?_, ek, by omega⟩
      rw [take1_range y (decide_eq_true k3) below]
      rfl
    · refine .inr ⟨?_, fun q => ?_, fun _ => ⟨_, ek, by omega⟩⟩
      · rw [take1_none fun j hj => below j (by omega)]
        rfl
      · refine absurd k3 ?_
        have hr : rl n = 0 := by
          unfold rl
          rw [q]
          simp
        have e1 : farN n s (m : Int) = farN n s ((m : Int) - 1) := by
          unfold farN
          rw [if_neg (by omega), if_neg (by omega)]
          unfold arr
          rw [hr, Int.mul_zero, Int.mul_zero]
        omega
def sp_after_rounds (K : Frag) : Sp := fun vs H Q E => ∃ (a : Addr) (k : LK) (n : N3) (t : Int) (m : Int), vs = [.ref a, .int t, .int m] ∧ LnAt K H a k n ∧ n.ok ∧ 0 ≤ m ∧ m ≤ 10 ^ 30 ∧ Sz 2000 (rl n) ∧ Q (.int (farN n t m)) H
theorem ok_after_rounds (Z : Zs cks fns K mg) : FnOk PP w K mg base (L2.CX PP w) 5 (ga K "after_rounds") (fdAt K (ga K "after_rounds")) ["line", "time", "number"] (sp_after_rounds K) := by
  refine (u_after_rounds Z).okX sc_after_rounds (fun vs H Q E h => ?_) (fun cdv A outer s H vs Q E hr h => ?_)
  · obtain ⟨_, _, _, _, _, rfl, _⟩ := h
    rfl
  · obtain ⟨a, k, n, t, m, rfl, ⟨hL, hok, h0, h1, hr2, hq⟩⟩ := h
    refine ⟨_, (pss_cons (ps_if (pt_not (pt_chain op_le op_le pe_int (pv 2) (C8.pe_gc rfl (i_MOST_ROUNDS_rounds Z))))
        (pss_one ps_never)
        pss_nil)
      (pss_one (ps_ret (pe_ifExp (pt_cmpR op_eq (pv 2) pe_int (nomark _)) (pv 1) (pe_call (ok_arrival_after Z) (hr.mono (by decide)) rfl (g_arrival_after Z) (u_arrival_after Z).kp (b_arrival_after Z) .nil passL (pa_cons (pv 0) (pa_cons (pv 1) (pa_cons (pv 2) pa_nil)))))))), ?_⟩
    refine ⟨_, rfl, _, _, rfl, rfl, _, rfl, ifT h0 ⟨_, _, rfl, rfl, _, rfl, iteNS h1 ?_⟩⟩
    refine ⟨_, rfl, rfl, _, rfl, ?_⟩
    unfold farN at hq
    refine ifD (fun c => ?_) (fun c => ?_)
    · rw [if_pos (V.int.inj c)] at hq
      exact ⟨_, rfl, hq⟩
    · have m0 : ¬ m = 0 := fun z => c (congrArg V.int z)
      rw [if_neg m0] at hq
      exact ⟨_, rfl, _, rfl, _, rfl, ⟨a, k, n, t, m, rfl, hL, hok, Sz.mono (a := 200) (Sz.le (by omega) (show m - 1 ≤ 10 ^ 30 by omega) (Sz.of (by decide +kernel) (by decide +kernel))) (by decide), hr2, hq⟩⟩
def sp_rounds_until (K : Frag) : Sp := fun vs H Q E => ∃ (a : Addr) (k : LK) (n : N3) (t : Int) (g : Int), vs = [.ref a, .int t, .int g] ∧ LnAt K H a k n ∧ n.ok ∧ Sz 2000 (rl n) ∧ Q (optV (untl n t g)) H
theorem ok_rounds_until (Z : Zs cks fns K mg) : FnOk PP w K mg base (L2.CX PP w) 5 (ga K "rounds_until") (fdAt K (ga K "rounds_until")) ["line", "time", "goal"] (sp_rounds_until K) := by
  refine (u_rounds_until Z).okX sc_rounds_until (fun vs H Q E h => ?_) (fun cdv A outer s H vs Q E hr h => ?_)
  · obtain ⟨_, _, _, _, _, rfl, _⟩ := h
    rfl
  · obtain ⟨a, k, n, t, g, rfl, ⟨hL, hok, hr2, hq⟩⟩ := h
    refine ⟨_, (pss_cons (ps_if (pt_cmpR op_ge (pv 1) (pv 2) (nomark _))
        (pss_one (ps_ret pe_int))
        pss_nil)
      (pss_cons (ps_set (i := 3) sc_rounds_until.nd rfl (Or.inl rfl) (pe_call (ok_arrival_after Z) (hr.mono (by decide)) rfl (g_arrival_after Z) (u_arrival_after Z).kp (b_arrival_after Z) .nil passL (pa_cons (pv 0) (pa_cons (pv 1) (pa_cons pe_int pa_nil)))))
      (pss_cons (ps_if (pt_cmpR op_ge (pv 3) (pv 2) (nomark _))
        (pss_one (ps_ret pe_int))
        pss_nil)
      (pss_cons (ps_set (i := 4) sc_rounds_until.nd rfl (Or.inl rfl) (pe_call (ok_round_length Z) (hr.mono (by decide)) rfl (g_round_length Z) (u_round_length Z).kp (b_round_length Z) .nil passL (pa_cons (pv 0) pa_nil)))
      (pss_one (ps_ret (pe_ifExp (pt_cmpR op_eq (pv 4) pe_int (nomark _)) pe_non (pe_op op_sub pe_int (pe_op op_fdivW (pe_op op_sub (pv 3) (pv 2)) (pv 4)))))))))), ?_⟩
    have s0 : Sz 2000 (1 - 1) := (by show (0 : Int).natAbs < 2 ^ 2000; exact Nat.two_pow_pos 2000)
    unfold untl at hq
    refine ⟨_, rfl, _, rfl, _, _, rfl, rfl, _, rfl, ifD (fun c => ?_) (fun c => ?_)⟩
    · rw [if_pos c] at hq
      exact hq
    rw [if_neg c] at hq
    refine ⟨_, rfl, _, rfl, ⟨a, k, n, t, 1, rfl, hL, hok, s0, hr2, ?_⟩⟩
    refine ⟨_, rfl, _, rfl, _, _, rfl, rfl, _, rfl, ifD (fun c => ?_) (fun c => ?_)⟩
    · rw [if_pos c] at hq
      exact hq
    rw [if_neg c] at hq
    refine ⟨_, rfl, ⟨a, k, n, rfl, hL, hok, ?_⟩⟩
    refine ⟨_, rfl, rfl, _, rfl, ifD (fun c => ?_) (fun c => ?_)⟩
    · rw [if_pos (V.int.inj c)] at hq
      exact hq
    · have m0 : ¬ rl n = 0 := fun z => c (congrArg V.int z)
      rw [if_neg m0] at hq
      have hrl := rl_nn hok
      have hrn := hok.2.2.2
      exact ⟨_, rfl, _, rfl, _, _, rfl, rfl, _, rfl, _, _, rfl, rfl, Sz.div (by omega) hr2, _, _, rfl, rfl, hq⟩
def sp__law_arrived (K : Frag) : Sp := fun vs H Q E => ∃ (p : Addr) (n : N3) (s0 : Int), vs = [.ref p, .int s0] ∧ T3 H p n ∧ n.ok ∧ Q (.int (dep n s0 + n.r)) H
theorem ok__law_arrived (Z : Zs cks fns K mg) : FnOk PP w K mg base (L2.CX PP w) 1 (ga K "_law_arrived") (fdAt K (ga K "_law_arrived")) ["three", "start"] (sp__law_arrived K) := by
  refine (u__law_arrived Z).okX sc__law_arrived (fun vs H Q E h => ?_) (fun cdv A outer s H vs Q E hr h => ?_)
  · obtain ⟨_, _, _, rfl, _⟩ := h
    rfl
  · obtain ⟨p, n, s0, rfl, ⟨hT, hok, hq⟩⟩ := h
    refine ⟨_, (pss_cons (ps_asg (pv 0) (pg_tup rfl (pgs_cons (pg_name (i := 2) sc__law_arrived.nd rfl (Or.inl rfl)) (pgs_cons (pg_name (i := 3) sc__law_arrived.nd rfl (Or.inl rfl)) (pgs_cons (pg_name (i := 4) sc__law_arrived.nd rfl (Or.inl rfl)) pgs_nil)))))
      (pss_one (ps_ret (pe_op op_add (pe_op op_add (pv 1) (pe_op op_mod (pe_op op_sub (pv 3) (pv 1)) (pv 2))) (pv 4))))), ?_⟩
    obtain ⟨e, l, r⟩ := n
    obtain ⟨h1, h2, h3, h4⟩ := id hok
    have he : 0 < e := h1
    refine ⟨_, rfl, p, _, rfl, SqT.of hT, rfl, _, _, rfl, _, _, rfl, _, _, rfl, rfl, ?_⟩
    exact ⟨_, rfl, _, rfl, _, rfl, _, _, rfl, rfl, _, rfl, _, _, rfl, rfl, he, _, _, rfl, rfl, _, rfl, _, _, rfl, rfl, hq⟩
end
section
variable {w : World} {K : Frag} {mg : Str → Option Value} {base : Heap}
def sp__law_tank (K : Frag) : Sp := fun vs H Q E => ∃ (a : Addr) (ns : List Int), vs = [.ref a] ∧ SqL K H a (ns.map V.int) ∧ ns.length ≤ 63 ∧ ∀ (p c : Addr) (H' : Hp), Same H H' → H p = none → H c = none → Tk p c (2 ^ 39) H' → Q (.ref p) H'
theorem ok__law_tank (Z : Zs cks fns K mg) : FnOk PP w K mg base (L2.CX PP w) 1 (ga K "_law_tank") (fdAt K (ga K "_law_tank")) ["script"] (sp__law_tank K) := by
  refine (u__law_tank Z).okX sc__law_tank (fun vs H Q E h => ?_) (fun cdv A outer s H vs Q E hr h => ?_)
  · obtain ⟨_, _, rfl, _⟩ := h
    rfl
  · obtain ⟨a, ns, rfl, ⟨hS, hlen, hq⟩⟩ := h
    refine ⟨_, (pss_cons (ps_set (i := 1) sc__law_tank.nd rfl (Or.inl rfl) (pe_op op_pow pe_int pe_int))
      (C8.pss_cut (ps_for (passes_of rfl) rfl (pi_list (pe_slice sl_list (pv 0) po_none (po_some pe_int))) (pg_name (i := 2) sc__law_tank.nd rfl (Or.inl rfl))
        (pss_one (ps_set (i := 1) sc__law_tank.nd rfl (Or.inl rfl) (pe_op op_mod (pe_op op_add (pe_op op_mul (pv 1) pe_int) (pv 2)) pe_int))))
      (pss_one (ps_ret (pe_lst (pa_cons (pe_lc (own := [("cell", 2)]) rfl sc__law_tank.nd (pi_list (pe_slice sl_list (pv 0) po_none (po_some pe_int))) (blkOk_by (own := [("cell", 2)]) (N := ["script", "mix", "cell"]) (sc := defScope s__law_tank) (by decide +kernel)) (fun _ _ _ _ _ => (pg_name (i := 2) sc__law_tank.nd rfl (Or.inl rfl))) (fun _ _ _ _ _ => pts_one (pt_cmpR op_ge (pe_callB call_abs rfl (n_abs Z) (by decide +kernel) (pa_cons (pv 2) pa_nil)) (pe_op op_pow pe_int pe_int) (nomark _))) (fun _ _ _ _ _ => (pe_callB call_abs rfl (n_abs Z) (by decide +kernel) (pa_cons (pv 2) pa_nil)))) (pa_cons (pv 1) (pa_cons pe_int pa_nil)))))))), ?_⟩
    have hle := cutI_le ns none (some 40)
    refine ⟨_, _, rfl, rfl, ⟨by decide, by decide, by decide⟩, ?_⟩
    -- the mixed number
    refine ⟨fun σ H1 => ∃ (m : Int) (v : Option V), σ = [some (.ref a), some (.int m), v] ∧ 0 ≤ m ∧ m < M127 ∧ Same H H1, ?_, ?_⟩
    · refine ⟨_, rfl, 40, rfl, a, _, rfl, hS, fun p hp => ⟨p, rfl, ⟨_, SqL.of upd_same⟩, ?_⟩⟩
      rw [cutV_ints]
      refine for_list (K := K) (a := p) (xs := (cutI ns none (some 40)).map V.int) (fun i σ H1 => ∃ (m : Int) (v : Option V), σ = [some (.ref a), some (.int m), v] ∧ 0 ≤ m ∧ m < M127 ∧ Same (upd H p (.lst ((cutI ns none (some 40)).map V.int))) H1)
        ⟨23 ^ 27, none, rfl, by decide, by decide, Same.refl _⟩ (fun i σ H1 _ ⟨_, _, _, _, _, s⟩ => s.seq (SqL.of upd_same)) ?_ ?_
      · rintro i x σ H1 hi ⟨m, v, rfl, h0, h1, s⟩
        obtain ⟨z, _, rfl⟩ := get_ints hi
        refine ⟨_, rfl, _, _, rfl, rfl, .inr ⟨by decide, by decide⟩, _, rfl, _, _, rfl, rfl, _, _, rfl, rfl, (by show (0 : Int) < M127; decide), ?_⟩
        exact ⟨_, _, rfl, Int.emod_nonneg _ (by decide), Int.emod_lt_of_pos _ (by decide), s⟩
      · rintro σ H1 ⟨m, v, rfl, h0, h1, s⟩
        exact ⟨m, v, rfl, h0, h1, (Same.new hp).trans s⟩
    -- the digits
    rintro σ H1 ⟨m, v, rfl, h0, h1, s1⟩
    refine ⟨_, rfl, 40, rfl, a, _, rfl, s1.seq hS, fun p hp => ⟨p, rfl, ⟨_, SqL.of upd_same⟩, fun D hD => ?_⟩⟩
    rw [cutV_ints] at hD ⊢
    have npD : p ≠ D := ne_of_none upd_same hD
    have hD1 : H1 D = none := by
      have q := hD
      rw [upd_ne npD.symm] at q
      exact q
    refine lc_list (K := K) (a := p) (xs := (cutI ns none (some 40)).map V.int) (fun i H2 => ∃ ds : List Int, ds.length ≤ i ∧ H2 D = some (.lst (ds.map V.int)) ∧ Same H1 H2 ∧ H2 p = some (.lst ((cutI ns none (some 40)).map V.int)))
      ⟨[], Nat.zero_le _, upd_same, (Same.new hp).trans (Same.new hD), by rw [upd_ne npD]; exact upd_same⟩ (fun i H2 _ ⟨_, _, _, _, e⟩ => SqL.of e) ?_ ?_
    · rintro i x H2 hi ⟨ds, hl, hd, s2, e2⟩
      obtain ⟨z, _, rfl⟩ := get_ints hi
      have hi2 : i < 64 := by
        have q := (List.getElem?_eq_some_iff.mp hi).1
        rw [List.length_map] at q
        omega
      refine ⟨rfl, _, rfl, _, rfl, _, _, rfl, rfl, ⟨by decide, by decide, by decide⟩, _, _, rfl, rfl, _, rfl, ifD (fun c => ?_) (fun c => ?_)⟩
      · refine ⟨_, rfl, _, rfl, _, hd, ?_, ?_⟩
        · rw [List.length_map]
          exact Nat.lt_of_le_of_lt (Nat.le_trans hl (Nat.le_of_lt hi2)) (by decide)
        · refine ⟨ds ++ [_], by rw [List.length_append]; simp; omega, by rw [upd_same, List.map_append]; rfl, ?_, by rw [upd_ne npD]; exact e2⟩
          exact fun b o e => by rw [upd_ne (ne_of_none e hD1)]; exact s2 b o e
      · exact ⟨ds, by omega, hd, s2, e2⟩
    · rintro H2 ⟨ds, hl, hd, s2, e2⟩
      rw [List.length_map] at hl
      refine ⟨_, rfl, (by show 3 ≤ sizeLine; decide), fun q hq' => ?_⟩
      have nqD : q ≠ D := (ne_of_none hd hq').symm
      have s3 : Same H1 (upd H2 q (.lst [.ref D, .int m, .int 0])) := s2.trans (Same.new hq')
      refine hq q D _ (s1.trans s3) (s1.free (s2.free hq')) (s1.free hD1) ⟨ds, m, 0, upd_same, by rw [upd_ne nqD.symm]; exact hd, by omega, h0, h1, Int.le_refl 0, by decide⟩
abbrev sp__law_sip : Frag → Sp := spSip
theorem ok__law_sip (Z : Zs cks fns K mg) : FnOk PP w K mg base (L2.CX PP w) 2 (ga K "_law_sip") (fdAt K (ga K "_law_sip")) ["tank", "many"] (sp__law_sip K) := by
  refine (u__law_sip Z).okX sc__law_sip (fun vs H Q E h => ?_) (fun cdv A outer s H vs Q E hr h => ?_)
  · obtain ⟨_, _, _, _, rfl, _⟩ := h
    rfl
  · obtain ⟨a, c, N, m, rfl, ⟨hT, hm, hs, hq⟩⟩ := h
    refine ⟨_, (C8.pss_cut (ps_while (passes_of rfl) (PW.pt (pw_and (pt_cmpR (op_neD hr.units) (pe_ix ix_list (pv 0) pe_int (fun _ _ => rfl)) (pe_lst pa_nil) (nomark _)) (pw_and1 (pt_cmpR op_lt (pe_ix ix_list (pe_ix ix_list (pv 0) pe_int (fun _ _ => rfl)) pe_int (fun _ _ => rfl)) pe_int (nomark _)))))
        (pss_one (ps_expr (pe_bm PySem.F.plainAttrs_list PySem.F.slot_list_pop PySem.F.type_list_pop mt_popAt (pe_ix ix_list (pv 0) pe_int (fun _ _ => rfl)) (pa_cons pe_int pa_nil)))))
      (pss_cons (ps_if (pt_cmpR (op_neD hr.units) (pe_ix ix_list (pv 0) pe_int (fun _ _ => rfl)) (pe_lst pa_nil) (nomark _))
        (pss_cons (ps_set (i := 2) sc__law_sip.nd rfl (Or.inl rfl) (pe_op op_mod (pe_ix ix_list (pe_ix ix_list (pv 0) pe_int (fun _ _ => rfl)) pe_int (fun _ _ => rfl)) (pv 1)))
      (pss_cons (ps_asg (pe_op op_fdivW (pe_ix ix_list (pe_ix ix_list (pv 0) pe_int (fun _ _ => rfl)) pe_int (fun _ _ => rfl)) (pv 1)) (pg_sub (pe_ix ix_list (pv 0) pe_int (fun _ _ => rfl)) pe_int set_list))
      (pss_one (ps_ret (pv 2)))))
        pss_nil)
      (pss_cons (ps_asg (pe_op op_add (pe_ix ix_list (pv 0) pe_int (fun _ _ => rfl)) pe_int) (pg_sub (pv 0) pe_int set_list))
      (pss_cons (ps_set (i := 3) sc__law_sip.nd rfl (Or.inl rfl) (pe_op op_add (pe_op op_mulW (pe_ix ix_list (pv 0) pe_int (fun _ _ => rfl)) (pe_ix ix_list (pv 0) pe_int (fun _ _ => rfl))) (pe_op op_mulW (pe_op op_mul pe_int (pe_ix ix_list (pv 0) pe_int (fun _ _ => rfl))) (pe_ix ix_list (pv 0) pe_int (fun _ _ => rfl)))))
      (pss_cons (ps_asg (pe_op op_mod (pe_op op_add (pv 3) (pe_op op_mul pe_int (pe_ix ix_list (pv 0) pe_int (fun _ _ => rfl)))) pe_int) (pg_sub (pv 0) pe_int set_list))
      (pss_cons (ps_set (i := 3) sc__law_sip.nd rfl (Or.inl rfl) (pe_op op_add (pe_op op_mulW (pe_ix ix_list (pv 0) pe_int (fun _ _ => rfl)) (pe_ix ix_list (pv 0) pe_int (fun _ _ => rfl))) (pe_op op_mul pe_int (pe_ix ix_list (pv 0) pe_int (fun _ _ => rfl)))))
      (pss_one (ps_ret (pe_op op_mod (pe_op op_fdivW (pe_op op_add (pe_op op_mulW (pe_ix ix_list (pv 0) pe_int (fun _ _ => rfl)) (pe_op op_pow pe_int pe_int)) (pe_op op_mod (pv 3) pe_int)) (pe_op op_pow pe_int pe_int)) (pv 1)))))))))), ?_⟩
    have nac := hT.ne
    obtain ⟨ds, m0, n, h1, h2, h3, h4, h5, h6, h7⟩ := hT
    refine ⟨fun σ H1 => ∃ (es : List Int), σ = [some (.ref a), some (.int m), none, none] ∧ Ext (tkM a c) H H1 ∧ H1 a = some (.lst [.ref c, .int m0, .int n]) ∧ H1 c = some (.lst (es.map V.int)) ∧ es.length ≤ 100, ?_, ?_⟩
    · refine ⟨fun k σ H1 => ∃ (es : List Int), k = es.length ∧ σ = [some (.ref a), some (.int m), none, none] ∧ Ext (tkM a c) H H1 ∧ H1 a = some (.lst [.ref c, .int m0, .int n]) ∧ H1 c = some (.lst (es.map V.int)) ∧ es.length ≤ 100,
        ⟨_, ds, rfl, rfl, Ext.refl, h1, h2, h3⟩, ?_⟩
      rintro k σ H1 ⟨es, rfl, rfl, x1, e1, e2, l1⟩
      refine ⟨_, rfl, a, _, _, _, rfl, rfl, SqL.of e1, at0, Nat.zero_le _, fun p hp => ?_⟩
      have npa : a ≠ p := ne_of_none e1 hp
      have npc : c ≠ p := ne_of_none e2 hp
      refine ⟨.list (es.map PyData.int), .list [], .lst (SqL.of (by rw [upd_ne npc]; exact e2)) (dpAll_ints es), .lst (SqL.of upd_same) .nil, shaped_ints es, by decide, _, rfl, ?_⟩
      have xp : Ext (tkM a c) H (upd H1 p (.lst [])) := x1.trans (Ext.new hp)
      cases es with
      | nil => exact iteF ⟨[], rfl, xp, by rw [upd_ne npa]; exact e1, by rw [upd_ne npc]; exact e2, l1⟩
      | cons d r =>
        refine iteT ?_
        have ea : (upd H1 p (.lst [])) a = some (.lst [.ref c, .int m0, .int n]) := by rw [upd_ne npa]; exact e1
        have ec : (upd H1 p (.lst [])) c = some (.lst ((d :: r).map V.int)) := by rw [upd_ne npc]; exact e2
        refine ⟨_, rfl, a, _, _, _, rfl, rfl, SqL.of ea, at0, c, _, _, _, rfl, rfl, SqL.of ec, at0, _, _, rfl, rfl, _, rfl, ifD (fun q => ?_) (fun q => ?_)⟩
        · refine ⟨_, fun _ _ h => h, ?_⟩
          refine ⟨_, rfl, a, _, _, _, rfl, rfl, SqL.of ea, at0, Or.inl ⟨rfl, _, SqL.of ec⟩, ?_⟩
          refine ⟨c, _, 0, 0, .int d, rfl, rfl, ec, by decide, by decide, sq0, rfl, ?_⟩
          refine ⟨r.length, Nat.lt_succ_self _, r, rfl, rfl, ?_, by rw [upd_ne nac, upd_ne npa]; exact e1, upd_same, Nat.le_trans (Nat.le_succ _) l1⟩
          exact fun b o nb e => by rw [upd_ne (fun z => nb (.inr z))]; exact xp b o nb e
        · exact ⟨d :: r, rfl, xp, by rw [upd_ne npa]; exact e1, by rw [upd_ne npc]; exact e2, l1⟩
    rintro σ H1 ⟨es, rfl, x1, e1, e2, l1⟩
    refine ⟨_, rfl, a, _, _, _, rfl, rfl, SqL.of e1, at0, Nat.zero_le _, fun p hp => ?_⟩
    have npa : a ≠ p := ne_of_none e1 hp
    have npc : c ≠ p := ne_of_none e2 hp
    have xp : Ext (tkM a c) H (upd H1 p (.lst [])) := x1.trans (Ext.new hp)
    refine ⟨.list (es.map PyData.int), .list [], .lst (SqL.of (by rw [upd_ne npc]; exact e2)) (dpAll_ints es), .lst (SqL.of upd_same) .nil, shaped_ints es, by decide, _, rfl, ?_⟩
    have a1 : (upd H1 p (.lst [])) a = some (.lst [.ref c, .int m0, .int n]) := by rw [upd_ne npa]; exact e1
    have c1 : (upd H1 p (.lst [])) c = some (.lst (es.map V.int)) := by rw [upd_ne npc]; exact e2
    revert a1 c1 xp
    generalize upd H1 p (.lst []) = H2
    intro xp a1 c1
    cases es with
    | cons d r =>
      refine iteT ?_
      refine ⟨_, rfl, a, _, _, _, rfl, rfl, SqL.of a1, at0, c, _, _, _, rfl, rfl, SqL.of c1, at0, _, rfl, _, _, rfl, rfl, (by show 0 < m; omega), ?_⟩
      refine ⟨_, rfl, a, _, _, _, rfl, rfl, SqL.of a1, at0, c, _, _, _, rfl, rfl, SqL.of c1, at0, _, rfl, _, _, rfl, rfl, hs.div (by omega) (by decide) (by decide), ?_⟩
      refine ⟨_, rfl, a, _, _, _, rfl, rfl, SqL.of a1, at0, c, _, 0, 0, rfl, rfl, c1, ix0, ?_⟩
      refine ⟨_, rfl, hq _ _ (Int.emod_nonneg _ (by omega)) (Int.emod_lt_of_pos _ (by omega)) ?_ ?_⟩
      · exact fun b o nb e => by rw [upd_ne (fun z => nb (.inr z))]; exact xp b o nb e
      · exact ⟨(d / m) :: r, m0, n, by rw [upd_ne nac]; exact a1, upd_same, l1, h4, h5, h6, by omega⟩
    | nil =>
      refine iteF ?_
      have sn : Sz 41 n := Sz.n40 h6 (by omega)
      have sn1 : Sz 41 (n + 1) := Sz.n40 (by omega) (by omega)
      have sm := Sz.m127 h4 h5
      -- tank[2] = tank[2] + 1
      refine ⟨_, rfl, a, _, _, _, rfl, rfl, SqL.of a1, rfl, _, _, rfl, rfl, _, rfl, a, _, 2, 2, rfl, rfl, a1, rfl, ?_⟩
      have x2 : Ext (tkM a c) H (upd H2 a (.lst [.ref c, .int m0, .int (n + 1)])) := fun b o nb e => by rw [upd_ne (fun z => nb (.inl z))]; exact xp b o nb e
      have c2 : (upd H2 a (.lst [.ref c, .int m0, .int (n + 1)])) c = some (.lst ([] : List V)) := by rw [upd_ne nac.symm]; exact c1
      have a2 : (upd H2 a (.lst [.ref c, .int m0, .int (n + 1)])) a = some (.lst [.ref c, .int m0, .int (n + 1)]) := upd_same
      -- mix = tank[1] * tank[1] + 30011 * tank[2] * tank[2]
      have s16 : Sz 16 30011 := Sz.of (by decide) (by decide)
      refine ⟨_, rfl, a, _, _, _, rfl, rfl, SqL.of a2, rfl, _, rfl, a, _, _, _, rfl, rfl, SqL.of a2, rfl, _, _, rfl, rfl, sm.cmul sm (by decide) (by decide) (by decide), _, rfl, a, _, _, _, rfl, rfl, SqL.of a2, rfl, _, _, rfl, rfl, Or.inl ⟨by decide, by decide⟩, _, rfl, a, _, _, _, rfl, rfl, SqL.of a2, rfl, _, _, rfl, rfl, (s16.mul sn1).cmul sn1 (by decide) (by decide) (by decide), _, _, rfl, rfl, ?_⟩
      -- tank[1] = (mix + 17 * tank[2]) % ..
      refine ⟨_, rfl, _, rfl, a, _, _, _, rfl, rfl, SqL.of a2, rfl, _, _, rfl, rfl, Or.inl ⟨by decide, by decide⟩, _, _, rfl, rfl, _, _, rfl, rfl, (by show (0 : Int) < M127; decide), _, rfl, a, _, 1, 1, rfl, rfl, a2, rfl, ?_⟩
      have g0 : 0 ≤ ((m0 * m0 + 30011 * (n + 1) * (n + 1) + 17 * (n + 1)) % M127) := Int.emod_nonneg _ (by decide)
      have g1 : ((m0 * m0 + 30011 * (n + 1) * (n + 1) + 17 * (n + 1)) % M127) < M127 := Int.emod_lt_of_pos _ (by decide)
      have sm1 := Sz.m127 g0 g1
      have x3 : Ext (tkM a c) H (upd (upd H2 a (.lst [.ref c, .int m0, .int (n + 1)])) a (.lst [.ref c, .int ((m0 * m0 + 30011 * (n + 1) * (n + 1) + 17 * (n + 1)) % M127), .int (n + 1)])) := fun b o nb e => by rw [upd_ne (fun z => nb (.inl z))]; exact x2 b o nb e
      have c3 : (upd (upd H2 a (.lst [.ref c, .int m0, .int (n + 1)])) a (.lst [.ref c, .int ((m0 * m0 + 30011 * (n + 1) * (n + 1) + 17 * (n + 1)) % M127), .int (n + 1)])) c = some (.lst ([] : List V)) := by rw [upd_ne nac.symm]; exact c2
      have a3 : (upd (upd H2 a (.lst [.ref c, .int m0, .int (n + 1)])) a (.lst [.ref c, .int ((m0 * m0 + 30011 * (n + 1) * (n + 1) + 17 * (n + 1)) % M127), .int (n + 1)])) a = some (.lst [.ref c, .int ((m0 * m0 + 30011 * (n + 1) * (n + 1) + 17 * (n + 1)) % M127), .int (n + 1)]) := upd_same
      -- mix = tank[1] * tank[1] + 50021 * tank[2]
      refine ⟨_, rfl, a, _, _, _, rfl, rfl, SqL.of a3, rfl, _, rfl, a, _, _, _, rfl, rfl, SqL.of a3, rfl, _, _, rfl, rfl, sm1.cmul sm1 (by decide) (by decide) (by decide), _, rfl, a, _, _, _, rfl, rfl, SqL.of a3, rfl, _, _, rfl, rfl, Or.inl ⟨by decide, by decide⟩, _, _, rfl, rfl, ?_⟩
      -- the draw
      have s38 : Sz 127 ((10 : Int) ^ (38 : Int).toNat) := Sz.of (by decide +kernel) (by decide +kernel)
      have s35 : Sz 36 ((2 : Int) ^ (35 : Int).toNat) := Sz.of (by decide +kernel) (by decide +kernel)
      refine ⟨_, rfl, a, _, _, _, rfl, rfl, SqL.of a3, rfl, _, _, rfl, rfl, ⟨by decide, by decide, by decide⟩, _, _, rfl, rfl, sm1.cmul s38 (by decide) (by decide) (by decide), _, rfl, _, _, rfl, rfl, (by show (0 : Int) < M127; decide), _, _, rfl, rfl, _, _, rfl, rfl, ⟨by decide, by decide, by decide⟩, _, _, rfl, rfl, s35.div (by decide +kernel) (by decide) (by decide), _, rfl, _, _, rfl, rfl, (by show 0 < m; omega), ?_⟩
      exact hq _ _ (Int.emod_nonneg _ (by omega)) (Int.emod_lt_of_pos _ (by omega)) x3 ⟨[], _, n + 1, a3, c3, by decide, g0, g1, by omega, by omega⟩
end
section
variable {w : World} {K : Frag} {mg : Str → Option Value} {base : Heap}
def sp__law_three (K : Frag) : Sp := fun vs H Q E => ∃ (a : Addr) (c : Addr) (N : Nat) (wide : Int), vs = [.ref a, .int wide] ∧ Tk a c (N + 8) H ∧ 1 ≤ wide ∧ Sz 4000 wide ∧ ∀ (p : Addr) (n : N3) (H' : Hp), n.ok → n.e ≤ wide → n.r ≤ 3 * wide → Ext (tkM a c) H H' → Tk a c N H' → H p = none → T3 H' p n → Q (.ref p) H'
theorem ok__law_three (Z : Zs cks fns K mg) : FnOk PP w K mg base (L2.CX PP w) 3 (ga K "_law_three") (fdAt K (ga K "_law_three")) ["tank", "wide"] (sp__law_three K) := by
  refine (u__law_three Z).okX sc__law_three (fun vs H Q E h => ?_) (fun cdv A outer s H vs Q E hr h => ?_)
  · obtain ⟨_, _, _, _, rfl, _⟩ := h
    rfl
  · obtain ⟨a, c, N, wide, rfl, ⟨hT, hw, hs, hq⟩⟩ := h
    refine ⟨_, (pss_cons (ps_set (i := 2) sc__law_three.nd rfl (Or.inl rfl) (pe_ix ix_list (pe_lst (pa_cons (pe_op op_add pe_int (pe_call (ok__law_sip Z) (hr.mono (by decide)) rfl (g__law_sip Z) (u__law_sip Z).kp (b__law_sip Z) .nil passL (pa_cons (pv 0) (pa_cons (pv 1) pa_nil)))) (pa_cons (pe_op op_add pe_int (pe_call (ok__law_sip Z) (hr.mono (by decide)) rfl (g__law_sip Z) (u__law_sip Z).kp (b__law_sip Z) .nil passL (pa_cons (pv 0) (pa_cons (pv 1) pa_nil)))) (pa_cons pe_int (pa_cons (pv 1) pa_nil))))) (pe_call (ok__law_sip Z) (hr.mono (by decide)) rfl (g__law_sip Z) (u__law_sip Z).kp (b__law_sip Z) .nil passL (pa_cons (pv 0) (pa_cons pe_int pa_nil))) (fun _ _ => rfl)))
      (pss_cons (ps_set (i := 3) sc__law_three.nd rfl (Or.inl rfl) (pe_ix ix_list (pe_lst (pa_cons (pe_call (ok__law_sip Z) (hr.mono (by decide)) rfl (g__law_sip Z) (u__law_sip Z).kp (b__law_sip Z) .nil passL (pa_cons (pv 0) (pa_cons (pv 2) pa_nil))) (pa_cons (pe_op op_sub (pv 2) pe_int) (pa_cons pe_int pa_nil)))) (pe_call (ok__law_sip Z) (hr.mono (by decide)) rfl (g__law_sip Z) (u__law_sip Z).kp (b__law_sip Z) .nil passL (pa_cons (pv 0) (pa_cons pe_int pa_nil))) (fun _ _ => rfl)))
      (pss_cons (ps_set (i := 4) sc__law_three.nd rfl (Or.inl rfl) (pe_ix ix_list (pe_lst (pa_cons (pe_call (ok__law_sip Z) (hr.mono (by decide)) rfl (g__law_sip Z) (u__law_sip Z).kp (b__law_sip Z) .nil passL (pa_cons (pv 0) (pa_cons (pe_op op_add (pe_op op_mul pe_int (pv 1)) pe_int) pa_nil))) (pa_cons (pe_op op_mulW (pv 2) (pe_call (ok__law_sip Z) (hr.mono (by decide)) rfl (g__law_sip Z) (u__law_sip Z).kp (b__law_sip Z) .nil passL (pa_cons (pv 0) (pa_cons pe_int pa_nil)))) (pa_cons pe_int (pa_cons pe_int pa_nil))))) (pe_call (ok__law_sip Z) (hr.mono (by decide)) rfl (g__law_sip Z) (u__law_sip Z).kp (b__law_sip Z) .nil passL (pa_cons (pv 0) (pa_cons pe_int pa_nil))) (fun _ _ => rfl)))
      (pss_one (ps_ret (pe_tup (pa_cons (pv 2) (pa_cons (pv 3) (pa_cons (pv 4) pa_nil))))))))), ?_⟩
    have s8 : Sz 8000 wide := hs.mono (by decide)
    have s4 : Sz 8000 4 := Sz.of (by decide +kernel) (by decide +kernel)
    have s3 : Sz 8000 3 := Sz.of (by decide +kernel) (by decide +kernel)
    -- the headway
    refine ⟨_, rfl, _, rfl, ⟨a, c, N + 7, wide, rfl, hT, hw, s8, fun v1 H1 g1 l1 x1 t1 => ⟨_, _, rfl, rfl, ?_⟩⟩⟩
    refine ⟨_, rfl, _, rfl, ⟨a, c, N + 6, wide, rfl, t1, hw, s8, fun v2 H2 g2 l2 x2 t2 => ⟨_, _, rfl, rfl, ?_⟩⟩⟩
    refine ⟨_, rfl, (by show 4 ≤ sizeLine; decide), fun p hp => ?_⟩
    refine ⟨_, rfl, ⟨a, c, N + 5, 4, rfl, t2.same (Same.new hp), by decide, s4, fun v3 H3 g3 l3 x3 t3 => ?_⟩⟩
    have e3 : H3 p = some (.lst (([1 + v1, 1 + v2, 1, wide] : List Int).map V.int)) := x3 p _ (t2.fresh hp) upd_same
    obtain ⟨hw', ha', hm'⟩ := at_ints [1 + v1, 1 + v2, 1, wide] g3 l3
    refine ⟨p, _, v3, _, rfl, rfl, SqL.of e3, ha', ?_⟩
    have hh : 1 ≤ hw' ∧ hw' ≤ wide := by
      simp only [List.mem_cons, List.not_mem_nil, or_false] at hm'
      rcases hm' with e | e | e | e <;> omega
    have s8' : Sz 8000 hw' := s8.le (by omega) hh.2
    have y3 : Ext (tkM a c) H H3 := x1.trans (x2.trans ((Ext.new hp).trans x3))
    -- the departure
    refine ⟨_, rfl, _, rfl, ⟨a, c, N + 4, hw', rfl, t3, hh.1, s8', fun v4 H4 g4 l4 x4 t4 => ?_⟩⟩
    refine ⟨_, rfl, _, _, rfl, rfl, (by show 3 ≤ sizeLine; decide), fun p2 hp2 => ?_⟩
    refine ⟨_, rfl, ⟨a, c, N + 3, 3, rfl, t4.same (Same.new hp2), by decide, s3, fun v5 H5 g5 l5 x5 t5 => ?_⟩⟩
    have e5 : H5 p2 = some (.lst (([v4, hw' - 1, 0] : List Int).map V.int)) := x5 p2 _ (t4.fresh hp2) upd_same
    obtain ⟨lv, hal, hml⟩ := at_ints [v4, hw' - 1, 0] g5 l5
    refine ⟨p2, _, v5, _, rfl, rfl, SqL.of e5, hal, ?_⟩
    have hl : 0 ≤ lv ∧ lv < hw' := by
      simp only [List.mem_cons, List.not_mem_nil, or_false] at hml
      rcases hml with e | e | e <;> omega
    have y5 : Ext (tkM a c) H H5 := y3.trans (x4.trans ((Ext.new hp2).trans x5))
    -- the ride
    have s9 : Sz 8000 (2 * wide + 1) := by
      have h := hs
      have e : (2 : Nat) ^ 8000 = 2 ^ 4000 * 2 ^ 4000 := by rw [← Nat.pow_add]
      unfold Sz at h ⊢
      rw [e]
      have b : 4 ≤ 2 ^ 4000 := by
        have : (2 : Nat) ^ 2 ≤ 2 ^ 4000 := Nat.pow_le_pow_right (by decide) (by decide)
        exact this
      have d : 4 * 2 ^ 4000 ≤ 2 ^ 4000 * 2 ^ 4000 := Nat.mul_le_mul_right _ b
      omega
    refine ⟨_, rfl, _, rfl, _, _, rfl, rfl, .inl ⟨by decide, by decide⟩, _, _, rfl, rfl, ⟨a, c, N + 2, 2 * wide + 1, rfl, t5, by omega, s9, fun v6 H6 g6 l6 x6 t6 => ?_⟩⟩
    refine ⟨_, rfl, _, rfl, ⟨a, c, N + 1, 4, rfl, t6, by decide, s4, fun v7 H7 g7 l7 x7 t7 => ⟨_, _, rfl, rfl, s8'.cmul (s4.le g7 (by omega)) (by decide) (by decide) (by decide), ?_⟩⟩⟩
    refine ⟨(by show 4 ≤ sizeLine; decide), fun p3 hp3 => ?_⟩
    refine ⟨_, rfl, ⟨a, c, N, 4, rfl, t7.same (Same.new hp3), by decide, s4, fun v8 H8 g8 l8 x8 t8 => ?_⟩⟩
    have e8 : H8 p3 = some (.lst (([v6, hw' * v7, 0, 1] : List Int).map V.int)) := x8 p3 _ (t7.fresh hp3) upd_same
    obtain ⟨fr, haf, hmf⟩ := at_ints [v6, hw' * v7, 0, 1] g8 l8
    refine ⟨p3, _, v8, _, rfl, rfl, SqL.of e8, haf, ?_⟩
    have hf : 0 ≤ fr ∧ fr ≤ 3 * wide := by
      have b1 : 0 ≤ hw' * v7 := Int.mul_nonneg (by omega) g7
      have b2 : hw' * v7 ≤ hw' * 3 := Int.mul_le_mul_of_nonneg_left (by omega) (by omega)
      simp only [List.mem_cons, List.not_mem_nil, or_false] at hmf
      rcases hmf with e | e | e | e <;> omega
    have y8 : Ext (tkM a c) H H8 := y5.trans (x6.trans (x7.trans ((Ext.new hp3).trans x8)))
    refine ⟨_, rfl, _, rfl, _, rfl, (by show 3 ≤ sizeLine; decide), fun q hq8 => ?_⟩
    have hq0 : H q = none := by
      cases e : H q with
      | none => rfl
      | some o => rw [y8 q o (t8.fresh hq8) e] at hq8; cases hq8
    exact hq q ⟨hw', lv, fr⟩ _ ⟨hh.1, hl.1, hl.2, hf.1⟩ hh.2 hf.2 (y8.trans (Ext.new hq8)) (t8.same (Same.new hq8)) hq0 upd_same
def sp__law_made (K : Frag) : Sp := fun vs H Q E => ∃ (p : Addr) (n : N3), vs = [.ref p] ∧ T3 H p n ∧ n.ok ∧ ∀ (q : Addr) (k : LK) (H' : Hp), Same H H' → H q = none → LnAt K H' q k n → Q (.ref q) H'
theorem ok__law_made (Z : Zs cks fns K mg) : FnOk PP w K mg base (L2.CX PP w) 6 (ga K "_law_made") (fdAt K (ga K "_law_made")) ["three"] (sp__law_made K) := by
  refine (u__law_made Z).okX sc__law_made (fun vs H Q E h => ?_) (fun cdv A outer s H vs Q E hr h => ?_)
  · obtain ⟨_, _, rfl, _⟩ := h
    rfl
  · obtain ⟨p, n, rfl, ⟨hT, hok, hq⟩⟩ := h
    refine ⟨_, (pss_cons (ps_asg (pv 0) (pg_tup rfl (pgs_cons (pg_name (i := 1) sc__law_made.nd rfl (Or.inl rfl)) (pgs_cons (pg_name (i := 2) sc__law_made.nd rfl (Or.inl rfl)) (pgs_cons (pg_name (i := 3) sc__law_made.nd rfl (Or.inl rfl)) pgs_nil)))))
      (pss_cons (ps_if (PW.pt (pw_and (pt_cmpR op_eq (pv 1) pe_int (nomark _)) (pw_and1 (pt_cmpR op_eq (pe_op op_mod (pv 3) pe_int) pe_int (nomark _)))))
        (pss_one (ps_ret (pe_make (M_Walk Z) (ok_Walk_init Z) (hr.mono (by decide)) rfl (g_Walk Z) (b_Walk_init Z) .nil passL (pa_cons (pv 3) pa_nil))))
        pss_nil)
      (pss_cons (ps_if (PW.pt (pw_and (pt_cmpR op_eq (pv 3) pe_int (nomark _)) (pw_and1 (pt_cmpR op_eq (pe_op op_mod (pv 2) pe_int) pe_int (nomark _)))))
        (pss_one (ps_ret (pe_make (M_Stop Z) (ok_Stop_init Z) (hr.mono (by decide)) rfl (g_Stop Z) (b_Stop_init Z) .nil passL (pa_cons (pv 1) (pa_cons (pv 2) pa_nil)))))
        pss_nil)
      (pss_one (ps_ret (pe_make (M_Line Z) (ok_Line_init Z) (hr.mono (by decide)) rfl (g_Line Z) (b_Line_init Z) .nil passL (pa_cons (pv 1) (pa_cons (pv 2) (pa_cons (pv 3) pa_nil))))))))), ?_⟩
    obtain ⟨e, l, r⟩ := n
    obtain ⟨h1, h2, h3, h4⟩ := id hok
    refine ⟨_, rfl, p, _, rfl, SqT.of hT, rfl, _, _, rfl, _, _, rfl, _, _, rfl, rfl, ?_⟩
    have g1 : 1 ≤ e := h1
    have g2 : 0 ≤ l := h2
    have g3 : l < e := h3
    have g4 : 0 ≤ r := h4
    have line : ∀ x dx, H x = none → H dx = none → dx ≠ x → sp_Line_init K [.ref x, .int e, .int l, .int r] (upd (upd H dx (.own x)) x (.ins (ga K "Line") dx [])) (fun v H2 => v = .non ∧ Q (.ref x) H2) E0 :=
      fun x dx hx hd hne => ⟨.line, x, dx, ⟨e, l, r⟩, rfl, hok, upd_same, rfl, hq x .line _ (mk_same hx hd) hx ⟨dx, upd_same⟩⟩
    have stop : r = 0 → ∀ x dx, H x = none → H dx = none → dx ≠ x → sp_Stop_init K [.ref x, .int e, .int l] (upd (upd H dx (.own x)) x (.ins (ga K "Stop") dx [])) (fun v H2 => v = .non ∧ Q (.ref x) H2) E0 :=
      fun e0 x dx hx hd hne => by
        subst e0
        exact ⟨x, dx, e, l, rfl, g1, g2, g3, upd_same, rfl, hq x .stop _ (mk_same hx hd) hx ⟨dx, upd_same⟩⟩
    have walk : e = 1 → ∀ x dx, H x = none → H dx = none → dx ≠ x → sp_Walk_init K [.ref x, .int r] (upd (upd H dx (.own x)) x (.ins (ga K "Walk") dx [])) (fun v H2 => v = .non ∧ Q (.ref x) H2) E0 :=
      fun e1 x dx hx hd hne => by
        subst e1
        have l0 : l = 0 := by omega
        subst l0
        exact ⟨x, dx, r, rfl, g4, upd_same, rfl, hq x .walk _ (mk_same hx hd) hx ⟨dx, upd_same⟩⟩
    have rest : ∀ D : Ends, D.rt = Q → tSeq (tIfS (tAnd (tTest (tOp rEq (tVar 3) (tC (.int 0)))) (tTest (tOp rEq (tOp (rI (fun _ j => 0 < j) fun i j => .int (i % j)) (tVar 2) (tC (.int 2))) (tC (.int 0)))))
        (tRet (tMake (ga K "Stop") (sp_Stop_init K) [] E0 (tCons (tVar 1) (tCons (tVar 2) tNil)))) tNext)
        (tRet (tMake (ga K "Line") (sp_Line_init K) [] E0 (tCons (tVar 1) (tCons (tVar 2) (tCons (tVar 3) tNil))))) D [some (.ref p), some (.int e), some (.int l), some (.int r)] H := by
      intro D hD
      refine ⟨_, rfl, rfl, _, rfl, ifD (fun c => ?_) (fun c => ?_)⟩
      · refine ⟨_, rfl, _, _, rfl, rfl, (by show (0 : Int) < 2; decide), rfl, _, rfl, ifD (fun c2 => ?_) (fun c2 => ?_)⟩
        · refine ⟨_, rfl, _, rfl, ?_⟩
          rw [hD]
          exact stop (V.int.inj c)
        · refine ⟨_, rfl, _, rfl, _, rfl, ?_⟩
          rw [hD]
          exact line
      · refine iteF ⟨_, rfl, _, rfl, _, rfl, ?_⟩
        rw [hD]
        exact line
    refine ⟨_, rfl, rfl, _, rfl, ifD (fun c => ?_) (fun c => ?_)⟩
    · refine ⟨_, rfl, _, _, rfl, rfl, (by show (0 : Int) < 2; decide), rfl, _, rfl, ifD (fun c2 => ?_) (fun c2 => ?_)⟩
      · exact ⟨_, rfl, walk (V.int.inj c)⟩
      · exact rest _ rfl
    · exact iteF (rest _ rfl)
def sp__law_start (K : Frag) : Sp := fun vs H Q E => ∃ (a : Addr) (c : Addr) (N : Nat) (wide : Int), vs = [.ref a, .int wide] ∧ Tk a c (N + 3) H ∧ 1 ≤ wide ∧ Sz 4000 wide ∧ ∀ (s : Int) (H' : Hp), -wide ≤ s → s ≤ wide → Ext (tkM a c) H H' → Tk a c N H' → Q (.int s) H'
theorem ok__law_start (Z : Zs cks fns K mg) : FnOk PP w K mg base (L2.CX PP w) 3 (ga K "_law_start") (fdAt K (ga K "_law_start")) ["tank", "wide"] (sp__law_start K) := by
  refine (u__law_start Z).okX sc__law_start (fun vs H Q E h => ?_) (fun cdv A outer s H vs Q E hr h => ?_)
  · obtain ⟨_, _, _, _, rfl, _⟩ := h
    rfl
  · obtain ⟨a, c, N, wide, rfl, ⟨hT, hw, hs, hq⟩⟩ := h
    refine ⟨_, (pss_one (ps_ret (pe_ix ix_list (pe_lst (pa_cons (pe_call (ok__law_sip Z) (hr.mono (by decide)) rfl (g__law_sip Z) (u__law_sip Z).kp (b__law_sip Z) .nil passL (pa_cons (pv 0) (pa_cons (pv 1) pa_nil))) (pa_cons (pe_op op_sub pe_int (pe_call (ok__law_sip Z) (hr.mono (by decide)) rfl (g__law_sip Z) (u__law_sip Z).kp (b__law_sip Z) .nil passL (pa_cons (pv 0) (pa_cons (pv 1) pa_nil)))) (pa_cons pe_int (pa_cons (pe_un un_neg pe_int) pa_nil))))) (pe_call (ok__law_sip Z) (hr.mono (by decide)) rfl (g__law_sip Z) (u__law_sip Z).kp (b__law_sip Z) .nil passL (pa_cons (pv 0) (pa_cons pe_int pa_nil))) (fun _ _ => rfl)))), ?_⟩
    have s8 : Sz 8000 wide := hs.mono (by decide)
    have s4 : Sz 8000 4 := Sz.of (by decide +kernel) (by decide +kernel)
    refine ⟨_, rfl, _, rfl, ⟨a, c, N + 2, wide, rfl, hT, hw, s8, fun v1 H1 g1 l1 x1 t1 => ?_⟩⟩
    refine ⟨_, rfl, _, rfl, ⟨a, c, N + 1, wide, rfl, t1, hw, s8, fun v2 H2 g2 l2 x2 t2 => ⟨_, _, rfl, rfl, ?_⟩⟩⟩
    refine ⟨_, rfl, (by show 4 ≤ sizeLine; decide), fun p hp => ?_⟩
    refine ⟨_, rfl, ⟨a, c, N, 4, rfl, t2.same (Same.new hp), by decide, s4, fun v3 H3 g3 l3 x3 t3 => ?_⟩⟩
    have e3 : H3 p = some (.lst (([v1, 0 - v2, 0, -1] : List Int).map V.int)) := x3 p _ (t2.fresh hp) upd_same
    obtain ⟨z, ha', hm'⟩ := at_ints [v1, 0 - v2, 0, -1] g3 l3
    refine ⟨p, _, v3, _, rfl, rfl, SqL.of e3, ha', ?_⟩
    have hh : -wide ≤ z ∧ z ≤ wide := by
      simp only [List.mem_cons, List.not_mem_nil, or_false] at hm'
      rcases hm' with e | e | e | e <;> omega
    exact hq z _ hh.1 hh.2 (x1.trans (x2.trans ((Ext.new hp).trans x3))) t3
end
section
variable {w : World} {K : Frag} {mg : Str → Option Value} {base : Heap}
def sp__law_until_right (K : Frag) : Sp := fun vs H Q E => ∃ (q : Addr) (k : LK) (p : Addr) (n : N3) (s0 : Int) (e : Addr), vs = [.ref q, .ref p, .int s0, .ref e] ∧ LnAt K H q k n ∧ T3 H p n ∧ n.ok ∧ Sz 200 s0 ∧ n.e ≤ 30 ∧ n.r ≤ 90 ∧ H e = some (.lst ((ends41 n s0).map V.int)) ∧ ∀ H', Same H H' → Q (.bl true) H'
theorem ok__law_until_right (Z : Zs cks fns K mg) : FnOk PP w K mg base (L2.CX PP w) 6 (ga K "_law_until_right") (fdAt K (ga K "_law_until_right")) ["made", "three", "start", "ends"] (sp__law_until_right K) := by
  refine (u__law_until_right Z).okX sc__law_until_right (fun vs H Q E h => ?_) (fun cdv A outer s H vs Q E hr h => ?_)
  · obtain ⟨_, _, _, _, _, _, rfl, _⟩ := h
    rfl
  · obtain ⟨q, k, p, n, s0, e, rfl, ⟨hL, hT, hok, hs0, he, hrd, hE, hq⟩⟩ := h
    refine ⟨_, (C8.pss_cut (ps_for (passes_of rfl) rfl (pi_enum rfl (n_enumerate Z) (pa_cons (pe_op op_cat (pe_slice sl_list (pv 3) po_none (po_some pe_int)) (pe_slice sl_list (pv 3) (po_some (pe_un un_neg pe_int)) po_none)) pa_nil)) (pg_tup rfl (pgs_cons (pg_name (i := 4) sc__law_until_right.nd rfl (Or.inl rfl)) (pgs_cons (pg_name (i := 5) sc__law_until_right.nd rfl (Or.inl rfl)) pgs_nil)))
        (pss_one (ps_for (passes_of rfl) rfl (pi_list (pe_lst (pa_cons (pe_op op_sub (pv 5) pe_int) (pa_cons (pv 5) (pa_cons (pe_op op_add (pv 5) pe_int) pa_nil))))) (pg_name (i := 6) sc__law_until_right.nd rfl (Or.inr rfl))
        (pss_cons (ps_set (i := 7) sc__law_until_right.nd rfl (Or.inl rfl) (pe_slice sl_list (pe_lc (own := [("many", 9)]) rfl sc__law_until_right.nd (pi_range1 rfl (n_range Z) (pa_cons (pe_callB call_len_seq rfl (n_len Z) (by decide +kernel) (pa_cons (pv 3) pa_nil)) pa_nil)) (blkOk_by (own := [("many", 9)]) (N := ["made", "three", "start", "ends", "spot", "end", "aim", "due", "told", "many"]) (sc := defScope s__law_until_right) (by decide +kernel)) (fun _ _ _ _ _ => (pg_name (i := 9) sc__law_until_right.nd rfl (Or.inl rfl))) (fun _ _ _ _ _ => pts_one (pt_cmpR op_ge (pe_ix (show IxR _ (rIxL K) from ix_list) (pv 3) (pv 9) (fun _ _ => rfl)) (pv 6) (nomark _))) (fun _ _ _ _ _ => (pv 9))) po_none (po_some pe_int)))
      (pss_cons (ps_set (i := 8) sc__law_until_right.nd rfl (Or.inl rfl) (pe_call (ok_rounds_until Z) (hr.mono (by decide)) rfl (g_rounds_until Z) (u_rounds_until Z).kp (b_rounds_until Z) .nil passL (pa_cons (pv 0) (pa_cons (pv 2) (pa_cons (pv 6) pa_nil)))))
      (C8.pss_cut (ps_if (pt_cmpR op_eq (pe_op op_mod (pv 4) pe_int) pe_int (nomark _))
        (pss_one (ps_set (i := 8) sc__law_until_right.nd rfl (Or.inl rfl) (pe_callN0 (ok_rounds_until Z) (hr.mono (by decide)) rfl (g_rounds_until Z) (u_rounds_until Z).kp (k_rounds_until_0_goal_time_line Z) passL (pk_cons (pv 6) (pk_cons (pv 2) (pk_cons (pv 0) pk_nil))))))
        pss_nil)
      (pss_cons (ps_if (PW.pt (pw_and (pt_cmpR (op_neD hr.units) (pv 7) (pe_lst pa_nil) (nomark _)) (pw_and1 (pt_cmpR op_ne (pe_callB SkE.call_repr_int rfl (n_repr Z) (by decide +kernel) (pa_cons (pv 8) pa_nil)) (pe_callB SkE.call_repr_int rfl (n_repr Z) (by decide +kernel) (pa_cons (pe_ix ix_list (pv 7) pe_int (fun _ _ => rfl)) pa_nil)) (nomark _)))))
        (pss_one (ps_ret pe_bl))
        pss_nil)
      (pss_cons (ps_if (PW.pt (pw_and (pt_cmpR (op_eqD hr.units) (pv 7) (pe_lst pa_nil) (nomark _)) (pw_and (pt_cmpR op_eq (pe_ix ix_tup (pv 1) pe_int (fun _ _ => rfl)) pe_int (nomark _)) (pw_and1 (pt_cmpR op_notN (pv 8) pe_non (nomark _))))))
        (pss_one (ps_ret pe_bl))
        pss_nil)
      (pss_one (ps_if (PW.pt (pw_and (pt_cmpR (op_eqD hr.units) (pv 7) (pe_lst pa_nil) (nomark _)) (pw_and (pt_cmpR op_gt (pe_ix ix_tup (pv 1) pe_int (fun _ _ => rfl)) pe_int (nomark _)) (pw_and1 (PW.pt (pw_or (pt_cmpR op_isN (pv 8) pe_non (nomark _)) (pw_or1 (pt_cmpR op_lt (pv 8) (pe_callB call_len_seq rfl (n_len Z) (by decide +kernel) (pa_cons (pv 3) pa_nil)) (nomark _)))))))))
        (pss_one (ps_ret pe_bl))
        pss_nil))))))))))
      (pss_one (ps_ret (pe_and (pe_cmpR op_eq (pe_call (ok_rounds_until Z) (hr.mono (by decide)) rfl (g_rounds_until Z) (u_rounds_until Z).kp (b_rounds_until Z) .nil passL (pa_cons (pv 0) (pa_cons (pv 2) (pa_cons (pe_op op_sub (pv 2) (pe_op op_pow pe_int pe_int)) pa_nil)))) pe_int (nomark _)) (pe_one (pe_cmpR op_eq (pe_call (ok_rounds_until Z) (hr.mono (by decide)) rfl (g_rounds_until Z) (u_rounds_until Z).kp (b_rounds_until Z) .nil passL (pa_cons (pv 0) (pa_cons (pv 2) (pa_cons (pv 2) pa_nil)))) pe_int (nomark _))))))), ?_⟩
    have hrl := rl_nn hok
    have hrn := hok.2.2.2
    have sr2 : Sz 2000 (rl n) := Sz.mono (a := 220) (Sz.le (by omega) (show rl n ≤ 10 ^ 60 by omega) (Sz.of (by decide +kernel) (by decide +kernel))) (by decide)
    refine ⟨fun σ H' => (∃ z1 z2 z3 z4 z5 z6, σ = [some (.ref q), some (.ref p), some (.int s0), some (.ref e), z1, z2, z3, z4, z5, z6]) ∧ Same H H', ?_, ?_⟩
    · refine ⟨_, rfl, 12, rfl, e, _, rfl, SqL.of hE, fun p1 hp1 => ?_⟩
      rw [cutV_ints]
      have E1 : (upd H p1 (.lst ((cutI (ends41 n s0) none (some 12)).map V.int))) e = some (.lst ((ends41 n s0).map V.int)) := Same.new hp1 _ _ hE
      refine ⟨_, rfl, _, rfl, -2, rfl, e, _, rfl, SqL.of E1, fun p2 hp2 => ?_⟩
      rw [cutV_ints]
      have c1 := cutI_le (ends41 n s0) none (some 12)
      have c2 := cutI_le (ends41 n s0) (some (-2)) none
      have n12 : p1 ≠ p2 := ne_of_none upd_same hp2
      refine ⟨p1, p2, _, _, rfl, rfl, (by rw [upd_ne n12]; exact upd_same), upd_same, ?_, fun p3 hp3 => ?_⟩
      · rw [List.length_map, List.length_map]
        have c3 : (ends41 n s0).length = 41 := by unfold ends41; rw [List.length_map, List.length_range]
        show _ ≤ 16777216
        omega
      rw [← List.map_append]
      have s3 := ((Same.new (o := .lst ((cutI (ends41 n s0) none (some 12)).map V.int)) hp1).trans (Same.new (o := .lst ((cutI (ends41 n s0) (some (-2)) none).map V.int)) hp2)).trans (Same.new (o := .lst ((cutI (ends41 n s0) none (some 12) ++ cutI (ends41 n s0) (some (-2)) none).map V.int)) hp3)
      refine ⟨p3, (cutI (ends41 n s0) none (some 12) ++ cutI (ends41 n s0) (some (-2)) none).map V.int, rfl, SqL.of upd_same, ?_⟩
      generalize (cutI (ends41 n s0) none (some 12) ++ cutI (ends41 n s0) (some (-2)) none) = AS at *
      refine for_it walk_enum (fun i σ H' => (∃ z1 z2 z3 z4 z5 z6, σ = [some (.ref q), some (.ref p), some (.int s0), some (.ref e), z1, z2, z3, z4, z5, z6]) ∧ Same H H' ∧ H' p3 = some (.lst (AS.map V.int))) ⟨⟨none, none, none, none, none, none, rfl⟩, s3, upd_same⟩ (fun i σ H' _ h => SqL.of h.2.2) ?_ ?_
      · rintro i x σ H' H'' hi ⟨⟨z1, z2, z3, z4, z5, z6, rfl⟩, ss, e3⟩ ⟨T, x1, x2, rfl, hT0, rfl, hx1, hx2⟩
        obtain rfl := Option.some.inj hx1
        obtain ⟨en, ha, rfl⟩ := get_ints hx2
        have ss2 := ss.trans (Same.new (o := .tup [.int (i : Nat), .int en]) hT0)
        refine ⟨T, _, rfl, SqT.of upd_same, rfl, _, _, rfl, _, _, rfl, rfl, ?_⟩
        repeat (first | refine ⟨rfl, ?_⟩ | refine ⟨_, rfl, ?_⟩ | refine ⟨_, _, rfl, rfl, ?_⟩ | refine iteF ?_ | refine iteT ?_ | refine And.intro (by (first | assumption | omega | exact ⟨by decide, by decide, by decide⟩ | exact Or.inl ⟨by decide, by decide⟩ | exact Or.inr ⟨by decide, by decide⟩ | (show _ ≤ sizeLine; simp only [List.length_cons, List.length_nil]; decide) | (show (0 : Int) < _; omega) | decide)) ?_)
        intro p4 hp4
        have ss3 := ss2.trans (Same.new (o := .lst (([en - 1, en, en + 1] : List Int).map V.int)) hp4)
        have e3' : (upd H' T (.tup [.int (i : Nat), .int en])) p3 = some (.lst (AS.map V.int)) := Same.new hT0 _ _ e3
        have n34 : p3 ≠ p4 := ne_of_none e3' hp4
        refine ⟨p4, rfl, ⟨_, SqL.of upd_same⟩, ?_⟩
        refine for_list (K := K) (a := p4) (xs := ([en - 1, en, en + 1] : List Int).map V.int) (fun j σ H5 => (∃ z2 z3 z4 z5, σ = [some (.ref q), some (.ref p), some (.int s0), some (.ref e), some (.int (i : Nat)), z2, z3, z4, z5, z6]) ∧ Same H H5 ∧ H5 p3 = some (.lst (AS.map V.int)) ∧ H5 p4 = some (.lst (([en - 1, en, en + 1] : List Int).map V.int)))
          ⟨⟨_, _, _, _, rfl⟩, ss3, by rw [upd_ne n34]; exact e3', upd_same⟩ (fun j σ H5 _ h => SqL.of h.2.2.2) ?_ ?_
        · rintro j x σ H5 hj ⟨⟨y2, y3, y4, y5, rfl⟩, s5, e5, f5⟩
          obtain ⟨aim, _, rfl⟩ := get_ints hj
          have hE5 := s5 _ _ hE
          repeat (first | refine ⟨rfl, ?_⟩ | refine ⟨_, rfl, ?_⟩ | refine ⟨_, _, rfl, rfl, ?_⟩ | refine iteF ?_ | refine iteT ?_ | refine And.intro (by (first | assumption | omega | exact ⟨by decide, by decide, by decide⟩ | exact Or.inl ⟨by decide, by decide⟩ | exact Or.inr ⟨by decide, by decide⟩ | (show _ ≤ sizeLine; simp only [List.length_cons, List.length_nil]; decide) | (show (0 : Int) < _; omega) | decide)) ?_)
          have e41 : ((ends41 n s0).map V.int).length = 41 := by unfold ends41; rw [List.length_map, List.length_map, List.length_range]
          refine ⟨e, _, rfl, .inl (SqL.of hE5), _, rfl, (by rw [e41]; decide), (by rw [e41]; decide), fun D hD => ?_⟩
          rw [e41]
          refine lc_it (walk_range (lo := 0) (n := 41)) (fun m H6 => Same H5 H6 ∧ H6 D = some (.lst ((dueF n s0 aim m).map V.int))) ⟨Same.new hD, upd_same⟩ (fun _ _ _ _ => trivial) ?_ ?_
          · rintro m x H6 H7 hm ⟨s6, d6⟩ ⟨rfl, rfl⟩
            refine ⟨rfl, ?_⟩
            have am : atI ((ends41 n s0).map V.int) (0 + (m : Int)) = some (.int (farN n s0 m)) := by
              rw [Int.zero_add]
              refine atI_nat ?_
              unfold ends41
              rw [List.getElem?_map, List.getElem?_map, List.getElem?_range hm]
              rfl
            have hE6 := s6 _ _ hE5
            refine ⟨_, rfl, _, rfl, e, _, (0 + (m : Int)), _, rfl, rfl, SqL.of hE6, am, _, rfl, _, _, rfl, rfl, _, rfl, ?_⟩
            have hsuc : ∀ b, PA n s0 aim m = b → dueF n s0 aim (m + 1) = if b = true then dueF n s0 aim m ++ [(m : Int)] else dueF n s0 aim m := by
              intro b hb
              unfold dueF
              rw [List.range_succ, List.filter_append, List.map_append, List.filter_cons, List.filter_nil, hb]
              cases b with
              | true => rfl
              | false => simp
            refine ifD (fun c => ?_) (fun c => ?_)
            · have h1 := hsuc true (decide_eq_true c)
              rw [if_pos rfl] at h1
              refine ⟨_, rfl, _, d6, ?_, fun b o eb => ?_, ?_⟩
              · rw [List.length_map]
                refine Nat.lt_of_le_of_lt (?_ : _ ≤ 41) (by decide)
                unfold dueF
                rw [List.length_map]
                refine Nat.le_trans (List.length_filter_le _ _) ?_
                rw [List.length_range]
                omega
              · rw [upd_ne (ne_of_none eb hD)]
                exact s6 _ _ eb
              · rw [upd_same, h1, List.map_append]
                show some (HO.lst (List.map V.int (dueF n s0 aim m) ++ [V.int (0 + (m : Int))])) = _
                rw [Int.zero_add]
                rfl
            · have h1 := hsuc false (decide_eq_false c)
              rw [if_neg (by decide)] at h1
              rw [h1]
              exact ⟨s6, d6⟩
          · rintro H6 ⟨s6, d6⟩
            refine ⟨_, rfl, D, _, rfl, SqL.of d6, fun p5 hp5 => ?_⟩
            rw [cutV_ints, cut1]
            have s7 : Same H5 (upd H6 p5 (.lst (((dueF n s0 aim 41).take 1).map V.int))) := s6.trans (Same.new hp5)
            have e7 : (upd H6 p5 (.lst (((dueF n s0 aim 41).take 1).map V.int))) p5 = some (.lst (((dueF n s0 aim 41).take 1).map V.int)) := upd_same
            revert s7 e7
            generalize upd H6 p5 (.lst (((dueF n s0 aim 41).take 1).map V.int)) = H7
            intro s7 e7
            refine ⟨_, rfl, _, rfl, _, rfl, ⟨q, k, n, s0, aim, rfl, hL.same (s5.trans s7), hok, sr2, ?_⟩⟩
            refine ⟨fun σ H8 => H8 = H7 ∧ σ = [some (.ref q), some (.ref p), some (.int s0), some (.ref e), some (.int (i : Nat)), y2, some (.int aim), some (.ref p5), some (optV (untl n s0 aim)), z6], ?_, ?_⟩
            · refine ⟨_, rfl, _, _, rfl, rfl, (by show (0 : Int) < 2; decide), rfl, _, rfl, ifD (fun _ => ?_) (fun _ => ?_)⟩
              · exact ⟨_, rfl, _, rfl, _, rfl, rfl, rfl, ⟨q, k, n, s0, aim, rfl, hL.same (s5.trans s7), hok, sr2, rfl, rfl⟩⟩
              · exact ⟨rfl, rfl⟩
            rintro σ H8 ⟨rfl, rfl⟩
            have T8 := hT.same (s5.trans s7)
            have fin : ∀ H9, Same H8 H9 → (∃ z2 z3 z4 z5, ([some (.ref q), some (.ref p), some (.int s0), some (.ref e), some (.int (i : Nat)), y2, some (.int aim), some (.ref p5), some (optV (untl n s0 aim)), z6] : L2.St) = [some (.ref q), some (.ref p), some (.int s0), some (.ref e), some (.int (i : Nat)), z2, z3, z4, z5, z6]) ∧ Same H H9 ∧ H9 p3 = some (.lst (AS.map V.int)) ∧ H9 p4 = some (.lst (([en - 1, en, en + 1] : List Int).map V.int)) :=
              fun H9 s9 => ⟨⟨_, _, _, _, rfl⟩, (s5.trans s7).trans s9, (s7.trans s9) _ _ e5, (s7.trans s9) _ _ f5⟩
            rcases due_cases (s := s0) (aim := aim) hok with ⟨kk, hd, hu, hk⟩ | ⟨hd, hu0, hu1⟩
            · rw [hd] at e7
              rw [hu]
              rw [hu] at fin
              have lg : ((kk : Nat) : Int).natAbs.log2 < 1920 := Sz.log (b := 100) (Sz.of (by omega) (by omega))
              refine ⟨_, rfl, (by show 0 ≤ sizeLine; decide), fun p6 hp6 => ?_⟩
              have n56 : p5 ≠ p6 := ne_of_none e7 hp6
              have e8 : (upd H8 p6 (.lst [])) p5 = some (.lst (([(kk : Int)] : List Int).map V.int)) := by rw [upd_ne n56]; exact e7
              refine ⟨.list (([(kk : Int)] : List Int).map PyData.int), .list [], .lst (SqL.of e8) (dpAll_ints [(kk : Int)]), .lst (SqL.of upd_same) .nil, shaped_ints [(kk : Int)], by decide, _, rfl, iteT ?_⟩
              refine ⟨_, rfl, ⟨_, rfl, lg, _, rfl, p5, _, 0, _, rfl, rfl, SqL.of e8, at0, _, rfl, lg, rfl, _, rfl, iteNS rfl ?_⟩⟩
              refine ⟨_, rfl, (by show 0 ≤ sizeLine; decide), fun p7 hp7 => ?_⟩
              have n57 : p5 ≠ p7 := ne_of_none e8 hp7
              have e9 : (upd (upd H8 p6 (.lst [])) p7 (.lst [])) p5 = some (.lst (([(kk : Int)] : List Int).map V.int)) := by rw [upd_ne n57]; exact e8
              refine ⟨.list (([(kk : Int)] : List Int).map PyData.int), .list [], .lst (SqL.of e9) (dpAll_ints [(kk : Int)]), .lst (SqL.of upd_same) .nil, shaped_ints [(kk : Int)], by decide, _, rfl, iteF ?_⟩
              refine ⟨_, rfl, (by show 0 ≤ sizeLine; decide), fun p8 hp8 => ?_⟩
              have n58 : p5 ≠ p8 := ne_of_none e9 hp8
              refine ⟨.list (([(kk : Int)] : List Int).map PyData.int), .list [], .lst (SqL.of (by rw [upd_ne n58]; exact e9)) (dpAll_ints [(kk : Int)]), .lst (SqL.of upd_same) .nil, shaped_ints [(kk : Int)], by decide, _, rfl, iteF ?_⟩
              exact fin _ (((Same.new hp6).trans (Same.new hp7)).trans (Same.new hp8))
            · rw [hd] at e7
              refine ⟨_, rfl, (by show 0 ≤ sizeLine; decide), fun p6 hp6 => ?_⟩
              have n56 : p5 ≠ p6 := ne_of_none e7 hp6
              have e8 : (upd H8 p6 (.lst [])) p5 = some (.lst (([] : List Int).map V.int)) := by rw [upd_ne n56]; exact e7
              refine ⟨.list [], .list [], .lst (SqL.of e8) .nil, .lst (SqL.of upd_same) .nil, by decide, by decide, _, rfl, iteF ?_⟩
              refine ⟨_, rfl, (by show 0 ≤ sizeLine; decide), fun p7 hp7 => ?_⟩
              have n57 : p5 ≠ p7 := ne_of_none e8 hp7
              have e9 : (upd (upd H8 p6 (.lst [])) p7 (.lst [])) p5 = some (.lst (([] : List Int).map V.int)) := by rw [upd_ne n57]; exact e8
              have s9 : Same H8 (upd (upd H8 p6 (.lst [])) p7 (.lst [])) := (Same.new hp6).trans (Same.new hp7)
              refine ⟨.list [], .list [], .lst (SqL.of e9) .nil, .lst (SqL.of upd_same) .nil, by decide, by decide, _, rfl, iteT ?_⟩
              have T9 := T8.same s9
              by_cases z : n.r = 0
              · rw [hu0 z]
                rw [hu0 z] at fin
                refine ⟨_, rfl, p, _, 2, _, rfl, rfl, SqT.of T9, rfl, rfl, _, rfl, ifT (congrArg V.int z) ⟨_, rfl, rfl, _, rfl, iteNS rfl ?_⟩⟩
                refine ⟨_, rfl, (by show 0 ≤ sizeLine; decide), fun p8 hp8 => ?_⟩
                have n58 : p5 ≠ p8 := ne_of_none e9 hp8
                refine ⟨.list [], .list [], .lst (SqL.of (by rw [upd_ne n58]; exact e9)) .nil, .lst (SqL.of upd_same) .nil, by decide, by decide, _, rfl, iteT ?_⟩
                refine ⟨_, rfl, p, _, 2, _, rfl, rfl, SqT.of (T9.same (Same.new hp8)), rfl, _, _, rfl, rfl, _, rfl, ifF (by omega) ?_⟩
                exact fin _ (s9.trans (Same.new hp8))
              · obtain ⟨kk, hu, hk⟩ := hu1 (by omega)
                rw [hu]
                rw [hu] at fin
                refine ⟨_, rfl, p, _, 2, _, rfl, rfl, SqT.of T9, rfl, rfl, _, rfl, ifF (fun w => z (V.int.inj w)) ?_⟩
                refine ⟨_, rfl, (by show 0 ≤ sizeLine; decide), fun p8 hp8 => ?_⟩
                have n58 : p5 ≠ p8 := ne_of_none e9 hp8
                refine ⟨.list [], .list [], .lst (SqL.of (by rw [upd_ne n58]; exact e9)) .nil, .lst (SqL.of upd_same) .nil, by decide, by decide, _, rfl, iteT ?_⟩
                have s10 := s9.trans (Same.new (o := .lst []) hp8)
                refine ⟨_, rfl, p, _, 2, _, rfl, rfl, SqT.of (T9.same (Same.new hp8)), rfl, _, _, rfl, rfl, _, rfl, ifT (by omega) ?_⟩
                refine ⟨_, rfl, rfl, _, rfl, ifF (fun w => nomatch w) ?_⟩
                refine ⟨_, rfl, _, rfl, e, _, rfl, .inl (SqL.of (s10 _ _ (s7 _ _ hE5))), _, _, rfl, rfl, _, rfl, ifF ?_ ?_⟩
                · rw [e41]
                  omega
                · exact fin _ s10
        · rintro σ H5 ⟨⟨y2, y3, y4, y5, rfl⟩, s5, e5, f5⟩
          exact ⟨⟨_, _, _, _, _, _, rfl⟩, s5, e5⟩
      · rintro σ H' ⟨h1, h2, _⟩
        exact ⟨h1, h2⟩
    · rintro σ H' ⟨⟨z1, z2, z3, z4, z5, z6, rfl⟩, ss⟩
      refine ⟨_, rfl, _, rfl, _, rfl, _, _, rfl, rfl, ⟨by decide, by decide, by decide⟩, _, _, rfl, rfl, ?_⟩
      refine ⟨q, k, n, s0, s0 - 10 ^ 59, rfl, hL.same ss, hok, sr2, ?_⟩
      have u1 : untl n s0 (s0 - 10 ^ 59) = some 0 := by unfold untl; rw [if_pos (by omega)]
      have u2 : untl n s0 s0 = some 0 := by unfold untl; rw [if_pos (Int.le_refl _)]
      rw [u1]
      refine ⟨rfl, _, rfl, ifT rfl ⟨_, rfl, _, rfl, _, rfl, ⟨q, k, n, s0, s0, rfl, hL.same ss, hok, sr2, ?_⟩⟩⟩
      rw [u2]
      exact ⟨rfl, qT rfl (hq _ ss)⟩
end
section
variable {w : World} {K : Frag} {mg : Str → Option Value} {base : Heap}
def sp__law_right (K : Frag) : Sp := fun vs H Q E => ∃ (a : Addr) (c : Addr) (N : Nat) (p : Addr) (n : N3), vs = [.ref a, .ref p] ∧ Tk a c (N + 20) H ∧ T3 H p n ∧ n.ok ∧ n.e ≤ 30 ∧ n.r ≤ 90 ∧ ∀ H', Tk a c N H' → Q (.bl true) H'
theorem ok__law_right (Z : Zs cks fns K mg) : FnOk PP w K mg base (L2.CX PP w) 7 (ga K "_law_right") (fdAt K (ga K "_law_right")) ["tank", "three"] (sp__law_right K) := by
  refine (u__law_right Z).okX sc__law_right (fun vs H Q E h => ?_) (fun cdv A outer s H vs Q E hr h => ?_)
  · obtain ⟨_, _, _, _, _, rfl, _⟩ := h
    rfl
  · obtain ⟨a, c, N, p, n, rfl, ⟨hT, h3, hok, he, hrd, hq⟩⟩ := h
    refine ⟨_, (pss_cons (ps_par (i := 2) (j := 3) rfl sc__law_right.nd rfl rfl (by decide) rfl rfl (pa_cons (pe_call (ok__law_made Z) (hr.mono (by decide)) rfl (g__law_made Z) (u__law_made Z).kp (b__law_made Z) .nil passL (pa_cons (pv 1) pa_nil)) (pa_cons (pe_call (ok__law_start Z) (hr.mono (by decide)) rfl (g__law_start Z) (u__law_start Z).kp (b__law_start Z) .nil passL (pa_cons (pv 0) (pa_cons pe_int pa_nil))) pa_nil)) rfl)
      (pss_cons (ps_set (i := 4) sc__law_right.nd rfl (Or.inl rfl) (pe_lst (pa_cons (pv 3) pa_nil)))
      (C8.pss_cut (ps_for (passes_of rfl) rfl (pi_range1 rfl (n_range Z) (pa_cons pe_int pa_nil)) (pg_name (i := 5) sc__law_right.nd rfl (Or.inl rfl))
        (pss_one (ps_expr (pe_bm PySem.F.plainAttrs_list PySem.F.slot_list_append PySem.F.type_list_append mt_append (pv 4) (pa_cons (pe_call (ok__law_arrived Z) (hr.mono (by decide)) rfl (g__law_arrived Z) (u__law_arrived Z).kp (b__law_arrived Z) .nil passL (pa_cons (pv 1) (pa_cons (pe_ix ix_list (pv 4) (pe_un un_neg pe_int) (fun _ _ => rfl)) pa_nil))) pa_nil)))))
      (C8.pss_cut (ps_for (passes_of rfl) rfl (pi_enum rfl (n_enumerate Z) (pa_cons (pv 4) pa_nil)) (pg_tup rfl (pgs_cons (pg_name (i := 6) sc__law_right.nd rfl (Or.inl rfl)) (pgs_cons (pg_name (i := 7) sc__law_right.nd rfl (Or.inl rfl)) pgs_nil)))
        (pss_cons (ps_set (i := 8) sc__law_right.nd rfl (Or.inl rfl) (pe_call (ok_after_rounds Z) (hr.mono (by decide)) rfl (g_after_rounds Z) (u_after_rounds Z).kp (b_after_rounds Z) .nil passL (pa_cons (pv 2) (pa_cons (pv 3) (pa_cons (pv 6) pa_nil)))))
      (C8.pss_cut (ps_if (pt_cmpR op_eq (pe_op op_mod (pv 6) pe_int) pe_int (nomark _))
        (pss_one (ps_set (i := 8) sc__law_right.nd rfl (Or.inl rfl) (pe_callN0 (ok_after_rounds Z) (hr.mono (by decide)) rfl (g_after_rounds Z) (u_after_rounds Z).kp (k_after_rounds_0_number_time_line Z) passL (pk_cons (pv 6) (pk_cons (pv 3) (pk_cons (pv 2) pk_nil))))))
        pss_nil)
      (pss_one (ps_if (pt_cmpR op_ne (pe_callB SkE.call_repr_int rfl (n_repr Z) (by decide +kernel) (pa_cons (pv 8) pa_nil)) (pe_callB SkE.call_repr_int rfl (n_repr Z) (by decide +kernel) (pa_cons (pv 7) pa_nil)) (nomark _))
        (pss_one (ps_ret pe_bl))
        pss_nil)))))
      (pss_one (ps_ret (pe_call (ok__law_until_right Z) (hr.mono (by decide)) rfl (g__law_until_right Z) (u__law_until_right Z).kp (b__law_until_right Z) .nil passL (pa_cons (pv 2) (pa_cons (pv 1) (pa_cons (pv 3) (pa_cons (pv 4) pa_nil))))))))))), ?_⟩
    have sw : ∀ z : Int, 1 ≤ z → z ≤ 10 ^ 59 → Sz 4000 z := fun z z0 z1 => Sz.mono (a := 200) (Sz.le (by omega) z1 (Sz.of (by decide +kernel) (by decide +kernel))) (by decide)
    have hrl := rl_nn hok
    have hrn := hok.2.2.2
    have sr2 : Sz 2000 (rl n) := Sz.mono (a := 220) (Sz.le (by omega) (show rl n ≤ 10 ^ 60 by omega) (Sz.of (by decide +kernel) (by decide +kernel))) (by decide)
    refine ⟨_, rfl, ⟨p, n, rfl, h3, hok, fun q k H1 s1 nq L1 => ?_⟩⟩
    have t1 := hT.same s1
    refine ⟨_, rfl, ⟨a, c, N + 17, 101, rfl, t1, by decide, sw _ (by decide +kernel) (by decide +kernel), fun s0 H2 b1 b2 x2 t2 => ⟨_, _, rfl, ?_⟩⟩⟩
    have L2 : LnAt K H2 q k n := t1.line x2 L1
    have T2 : T3 H2 p n := t1.tup x2 (h3.same s1)
    have hsz : ∀ m : Int, 0 ≤ m → m ≤ 40 → (farN n s0 m).natAbs.log2 < 1920 := by
      intro m m0 m1
      have d := dep_le hok s0
      have h1 := hok.1
      have e0 : m * rl n ≤ 40 * rl n := Int.mul_le_mul_of_nonneg_right m1 (by omega)
      have e1 : 0 ≤ m * rl n := Int.mul_nonneg m0 (by omega)
      have e2 : farN n s0 m = s0 ∨ farN n s0 m = dep n s0 + (m * rl n - rl n + n.r) := by
        unfold farN
        by_cases z : m = 0
        · exact .inl (by rw [if_pos z])
        · refine .inr ?_
          rw [if_neg z]
          unfold arr
          rw [Int.sub_mul, Int.one_mul]
          omega
      have b : Sz 100 (farN n s0 m) := by
        refine Sz.of ?_ ?_
        · rcases e2 with e2 | e2 <;> omega
        · rcases e2 with e2 | e2 <;> omega
      exact b.log
    refine ⟨_, rfl, (by show 1 ≤ sizeLine; decide), fun pe hpe => ?_⟩
    -- the arrivals
    refine ⟨fun σ H3 => (∃ z1 z2 z3 z4, σ = [some (.ref a), some (.ref p), some (.ref q), some (.int s0), some (.ref pe), z1, z2, z3, z4]) ∧ Same H2 H3 ∧ H3 pe = some (.lst ((ends41 n s0).map V.int)), ?_, ?_⟩
    · refine ⟨_, rfl, by decide, by decide, ?_⟩
      refine for_range (lo := 0) (n := 40) (fun i σ H3 => (∃ z1 z2 z3 z4, σ = [some (.ref a), some (.ref p), some (.ref q), some (.int s0), some (.ref pe), z1, z2, z3, z4]) ∧ Same H2 H3 ∧ H3 pe = some (.lst (((List.range (i + 1)).map fun (j : Nat) => farN n s0 j).map V.int)))
        ⟨⟨none, none, none, none, rfl⟩, Same.new hpe, upd_same⟩ ?_ ?_
      · rintro i σ H3 hi ⟨⟨z1, z2, z3, z4, rfl⟩, ss, he3⟩
        have el : (((List.range (i + 1)).map fun (j : Nat) => farN n s0 j).map V.int) = (((List.range i).map fun (j : Nat) => farN n s0 j).map V.int) ++ [V.int (farN n s0 (i : Nat))] := by
          rw [List.range_succ, List.map_append, List.map_append]
          rfl
        have al : atI (((List.range (i + 1)).map fun (j : Nat) => farN n s0 j).map V.int) (-1) = some (V.int (farN n s0 (i : Nat))) := by
          rw [el]
          exact atI_last _ _
        have ev : dep n (farN n s0 (i : Nat)) + n.r = farN n s0 ((i + 1 : Nat) : Int) := by
          rw [show (((i + 1 : Nat) : Int)) = (i : Int) + 1 by omega, ← farN_add hok (show (0 : Int) ≤ (i : Int) by omega) (show (0 : Int) ≤ 1 by decide), farN_RR (m := 1) (by decide)]
          unfold RR
          simp only [Int.sub_self, Int.zero_mul, Int.zero_add]
        refine ⟨_, rfl, Or.inl ⟨rfl, _, SqL.of he3⟩, _, rfl, _, rfl, _, rfl, pe, _, -1, _, rfl, rfl, SqL.of he3, al, ?_⟩
        refine ⟨p, n, farN n s0 (i : Nat), rfl, T2.same ss, hok, pe, _, _, rfl, rfl, he3, ?_, ?_⟩
        · rw [List.length_map, List.length_map, List.length_range]
          exact Nat.lt_of_le_of_lt (show i + 1 ≤ 41 by omega) (by decide)
        · refine ⟨⟨_, _, _, _, rfl⟩, fun b o eb => ?_, ?_⟩
          · rw [upd_ne (ne_of_none eb hpe)]
            exact ss b o eb
          · rw [upd_same, ev, List.range_succ (n := i + 1), List.map_append, List.map_append]
            rfl
      · rintro σ H3 h
        exact h
    rintro σ H3 ⟨⟨z1, z2, z3, z4, rfl⟩, ss, he3⟩
    refine ⟨fun σ H4 => (∃ z1 z2 z3 z4, σ = [some (.ref a), some (.ref p), some (.ref q), some (.int s0), some (.ref pe), z1, z2, z3, z4]) ∧ Same H3 H4, ?_, ?_⟩
    · refine ⟨_, rfl, pe, _, rfl, SqL.of he3, ?_⟩
      refine for_it walk_enum (fun i σ H4 => (∃ z1 z2 z3 z4, σ = [some (.ref a), some (.ref p), some (.ref q), some (.int s0), some (.ref pe), z1, z2, z3, z4]) ∧ Same H3 H4) ⟨⟨_, _, _, _, rfl⟩, Same.refl _⟩ (fun i σ H' _ h => SqL.of (h.2 _ _ he3)) ?_ ?_
      · rintro i x σ H4 H'' hi ⟨⟨z1, z2, z3, z4, rfl⟩, s4⟩ ⟨T, x1, x2, rfl, hT0, rfl, hx1, hx2⟩
        obtain rfl := Option.some.inj hx1
        obtain ⟨en, ha, rfl⟩ := get_ints hx2
        have s5 := s4.trans (Same.new (o := .tup [.int (i : Nat), .int en]) hT0)
        have hi41 : i < 41 := by
          have q := (List.getElem?_eq_some_iff.mp ha).1
          unfold ends41 at q
          rw [List.length_map, List.length_range] at q
          exact q
        have hen : en = farN n s0 (i : Nat) := by
          unfold ends41 at ha
          rw [List.getElem?_map, List.getElem?_range hi41] at ha
          exact (Option.some.inj ha).symm
        subst hen
        have L5 := L2.same (ss.trans s5)
        refine ⟨T, _, rfl, SqT.of upd_same, rfl, _, _, rfl, _, _, rfl, rfl, ?_⟩
        refine ⟨_, rfl, _, rfl, _, rfl, ⟨q, k, n, s0, (i : Nat), rfl, L5, hok, by omega, by omega, sr2, ?_⟩⟩
        refine ⟨fun σ H5 => H5 = upd H4 T (.tup [.int (i : Nat), .int (farN n s0 (i : Nat))]) ∧ σ = [some (.ref a), some (.ref p), some (.ref q), some (.int s0), some (.ref pe), z1, some (.int (i : Nat)), some (.int (farN n s0 (i : Nat))), some (.int (farN n s0 (i : Nat)))], ?_, ?_⟩
        · refine ⟨_, rfl, _, _, rfl, rfl, (by show (0 : Int) < 3; decide), rfl, _, rfl, ifD (fun _ => ?_) (fun _ => ?_)⟩
          · exact ⟨_, rfl, _, rfl, _, rfl, rfl, rfl, ⟨q, k, n, s0, (i : Nat), rfl, L5, hok, by omega, by omega, sr2, rfl, rfl⟩⟩
          · exact ⟨rfl, rfl⟩
        rintro σ H5 ⟨rfl, rfl⟩
        have lg := hsz (i : Nat) (by omega) (by omega)
        exact ⟨_, rfl, ⟨_, rfl, lg, _, rfl, _, rfl, lg, rfl, _, rfl, iteNS rfl ⟨⟨_, _, _, _, rfl⟩, s5⟩⟩⟩
      · rintro σ H4 h
        exact h
    rintro σ H4 ⟨⟨z1, z2, z3, z4, rfl⟩, s4⟩
    have ss4 := ss.trans s4
    exact ⟨_, rfl, _, rfl, _, rfl, _, rfl, ⟨q, k, p, n, s0, pe, rfl, L2.same ss4, T2.same ss4, hok, Sz.of (by omega) (by omega), he, hrd, s4 _ _ he3, fun H5 s5 => hq _ ((t2.same (ss4.trans s5)).less (by omega))⟩⟩
end
section
variable {w : World} {K : Frag} {mg : Str → Option Value} {base : Heap}
def sp_law (K : Frag) : Sp := fun vs H Q E => ∃ (sa : Addr) (ns : List Int), vs = [.ref sa] ∧ SqL K H sa (ns.map V.int) ∧ ns.length ≤ 63 ∧ ∀ H', Q (.bl true) H'
theorem ok_law (Z : Zs cks fns K mg) : FnOk PP w K mg base (L2.CX PP w) 8 (ga K "law") (fdAt K (ga K "law")) ["script"] (sp_law K) := by
  refine (u_law Z).okX sc_law (fun vs H Q E h => ?_) (fun cdv A outer s H vs Q E hr h => ?_)
  · obtain ⟨_, _, rfl, _⟩ := h
    rfl
  · obtain ⟨sa, ns, rfl, ⟨hS, hlen, hq⟩⟩ := h
    refine ⟨_, (pss_cons (ps_set (i := 1) sc_law.nd rfl (Or.inl rfl) (pe_call (ok__law_tank Z) (hr.mono (by decide)) rfl (g__law_tank Z) (u__law_tank Z).kp (b__law_tank Z) .nil passL (pa_cons (pv 0) pa_nil)))
      (C8.pss_cut (ps_for (passes_of rfl) rfl (pi_range1 rfl (n_range Z) (pa_cons (pe_op op_add pe_int (pe_op op_mul pe_int (pe_callB (call_min2 rfl) rfl (n_min Z) (by decide +kernel) (pa_cons (pe_callB call_len_seq rfl (n_len Z) (by decide +kernel) (pa_cons (pv 0) pa_nil)) (pa_cons pe_int pa_nil))))) pa_nil)) (pg_name (i := 2) sc_law.nd rfl (Or.inl rfl))
        (pss_one (ps_if (pt_not (pt_val (pe_call (ok__law_right Z) (hr.mono (by decide)) rfl (g__law_right Z) (u__law_right Z).kp (b__law_right Z) .nil passL (pa_cons (pv 1) (pa_cons (pe_call (ok__law_three Z) (hr.mono (by decide)) rfl (g__law_three Z) (u__law_three Z).kp (b__law_three Z) .nil passL (pa_cons (pv 1) (pa_cons (pe_ix ix_list (pe_lst (pa_cons pe_int (pa_cons pe_int (pa_cons pe_int pa_nil)))) (pe_call (ok__law_sip Z) (hr.mono (by decide)) rfl (g__law_sip Z) (u__law_sip Z).kp (b__law_sip Z) .nil passL (pa_cons (pv 1) (pa_cons pe_int pa_nil))) (fun _ _ => rfl)) pa_nil))) pa_nil)))))
        (pss_one (ps_ret pe_bl))
        pss_nil)))
      (pss_cons (ps_if (PW.pt (pw_or (pt_cmpR op_ne (pe_call (ok_rounds_until Z) (hr.mono (by decide)) rfl (g_rounds_until Z) (u_rounds_until Z).kp (b_rounds_until Z) .nil passL (pa_cons (pe_make (M_Stop Z) (ok_Stop_init Z) (hr.mono (by decide)) rfl (g_Stop Z) (b_Stop_init Z) .nil passL (pa_cons pe_int (pa_cons pe_int pa_nil))) (pa_cons pe_int (pa_cons pe_int pa_nil)))) pe_int (nomark _)) (pw_or1 (pt_cmpR op_notN (pe_call (ok_rounds_until Z) (hr.mono (by decide)) rfl (g_rounds_until Z) (u_rounds_until Z).kp (b_rounds_until Z) .nil passL (pa_cons (pe_make (M_Stop Z) (ok_Stop_init Z) (hr.mono (by decide)) rfl (g_Stop Z) (b_Stop_init Z) .nil passL (pa_cons pe_int (pa_cons pe_int pa_nil))) (pa_cons pe_int (pa_cons pe_int pa_nil)))) pe_non (nomark _)))))
        (pss_one (ps_ret pe_bl))
        pss_nil)
      (pss_one (ps_ret (pe_and (pe_cmpR op_isN (pe_call (ok_rounds_until Z) (hr.mono (by decide)) rfl (g_rounds_until Z) (u_rounds_until Z).kp (b_rounds_until Z) .nil passL (pa_cons (pe_make (M_Walk Z) (ok_Walk_init Z) (hr.mono (by decide)) rfl (g_Walk Z) (b_Walk_init Z) .nil passL (pa_cons pe_int pa_nil)) (pa_cons pe_int (pa_cons pe_int pa_nil)))) pe_non (nomark _)) (pe_one (pe_cmpR op_eq (pe_call (ok_after_rounds Z) (hr.mono (by decide)) rfl (g_after_rounds Z) (u_after_rounds Z).kp (b_after_rounds Z) .nil passL (pa_cons (pe_make (M_Walk Z) (ok_Walk_init Z) (hr.mono (by decide)) rfl (g_Walk Z) (b_Walk_init Z) .nil passL (pa_cons pe_int pa_nil)) (pa_cons pe_int (pa_cons pe_int pa_nil)))) pe_int (nomark _))))))))), ?_⟩
    refine ⟨_, rfl, ⟨sa, ns, rfl, hS, hlen, fun a c H1 s1 na nc t1 => ?_⟩⟩
    have s3 : Sz 8000 3 := Sz.of (by decide +kernel) (by decide +kernel)
    have sw : ∀ z : Int, 1 ≤ z → z ≤ 10 ^ 59 → Sz 4000 z := fun z z0 z1 => Sz.mono (a := 200) (Sz.le (by omega) z1 (Sz.of (by decide +kernel) (by decide +kernel))) (by decide)
    refine ⟨fun σ H2 => ∃ v2, σ = [some (.ref sa), some (.ref a), v2], ?_, ?_⟩
    · refine ⟨_, rfl, sa, _, rfl, .inl (s1.seq hS), _, _, rfl, ?_⟩
      refine ⟨_, _, rfl, rfl, .inl ⟨by decide, by decide⟩, _, _, rfl, rfl, _, rfl, ?_⟩
      rw [List.length_map]
      generalize hj : (6 + 2 * (if (4 : Int) < (ns.length : Int) then 4 else (ns.length : Int))) = j
      have hj2 : 0 ≤ j ∧ j ≤ 14 := by
        rw [← hj]
        by_cases c : (4 : Int) < (ns.length : Int)
        · rw [if_pos c]; omega
        · rw [if_neg c]; omega
      refine ⟨by omega, by omega, ?_⟩
      refine for_range (lo := 0) (n := j.toNat) (fun i σ H2 => ∃ v2, σ = [some (.ref sa), some (.ref a), v2] ∧ Tk a c (2 ^ 39 - 29 * i) H2) ⟨none, rfl, t1⟩ ?_ ?_
      · rintro i σ H2 hi ⟨v2, rfl, t2⟩
        have hN : 2 ^ 39 - 29 * i = (2 ^ 39 - 29 * (i + 1)) + 29 := by omega
        rw [hN] at t2
        generalize hN2 : 2 ^ 39 - 29 * (i + 1) = N at *
        refine ⟨_, rfl, _, rfl, (by show 3 ≤ sizeLine; decide), fun p hp => ?_⟩
        refine ⟨_, rfl, ⟨a, c, N + 28, 3, rfl, t2.same (Same.new hp), by decide, s3, fun w1 H3 g3 l3 x3 t3 => ?_⟩⟩
        have e3 : H3 p = some (.lst (([3, 12, 30] : List Int).map V.int)) := x3 p _ (t2.fresh hp) upd_same
        obtain ⟨wide, ha', hm'⟩ := at_ints [3, 12, 30] g3 l3
        refine ⟨p, _, w1, _, rfl, rfl, SqL.of e3, ha', ?_⟩
        have hw : 1 ≤ wide ∧ wide ≤ 30 := by
          simp only [List.mem_cons, List.not_mem_nil, or_false] at hm'
          rcases hm' with e | e | e <;> omega
        refine ⟨a, c, N + 20, wide, rfl, t3, hw.1, sw wide hw.1 (by omega), fun p1 n1 H4 o1 b1 b2 x4 t4 f4 T4 => ?_⟩
        exact ⟨a, c, N, p1, n1, rfl, t4, T4, o1, by omega, by omega, fun H5 t5 => ⟨_, rfl, iteF ⟨_, rfl, t5⟩⟩⟩
      · rintro σ H2 ⟨v2, rfl, _⟩
        exact ⟨v2, rfl⟩
    · rintro σ H2 ⟨v2, rfl⟩
      have small : ∀ z : Int, 0 ≤ z → z ≤ 10 ^ 60 → Sz 2000 z := fun z z0 z1 => Sz.mono (a := 200) (Sz.le z0 z1 (Sz.of (by decide +kernel) (by decide +kernel))) (by decide)
      intro x dx hx hd hne
      refine ⟨x, dx, 10, 3, rfl, by decide, by decide, by decide, upd_same, rfl, ?_⟩
      refine ⟨x, .stop, ⟨10, 3, 0⟩, 4, 13, rfl, ⟨dx, upd_same⟩, ⟨by decide, by decide, by decide, by decide⟩, small _ (by decide +kernel) (by decide +kernel), ?_⟩
      rw [show untl ⟨10, 3, 0⟩ 4 13 = some 1 by decide +kernel]
      refine ⟨rfl, _, rfl, iteNS rfl ?_⟩
      intro x2 dx2 hx2 hd2 hne2
      refine ⟨x2, dx2, 10, 3, rfl, by decide, by decide, by decide, upd_same, rfl, ?_⟩
      refine ⟨x2, .stop, ⟨10, 3, 0⟩, 4, 14, rfl, ⟨dx2, upd_same⟩, ⟨by decide, by decide, by decide, by decide⟩, small _ (by decide +kernel) (by decide +kernel), ?_⟩
      rw [show untl ⟨10, 3, 0⟩ 4 14 = none by decide +kernel]
      refine ⟨rfl, _, rfl, iteNS rfl ?_⟩
      intro x3 dx3 hx3 hd3 hne3
      refine ⟨x3, dx3, 0, rfl, by decide, upd_same, rfl, ?_⟩
      refine ⟨x3, .walk, ⟨1, 0, 0⟩, 5, 6, rfl, ⟨dx3, upd_same⟩, ⟨by decide, by decide, by decide, by decide⟩, small _ (by decide +kernel) (by decide +kernel), ?_⟩
      rw [show untl ⟨1, 0, 0⟩ 5 6 = none by decide +kernel]
      refine ⟨rfl, _, rfl, ifT rfl ?_⟩
      intro x4 dx4 hx4 hd4 hne4
      refine ⟨x4, dx4, 0, rfl, by decide, upd_same, rfl, ?_⟩
      refine ⟨x4, .walk, ⟨1, 0, 0⟩, 5, 9, rfl, ⟨dx4, upd_same⟩, ⟨by decide, by decide, by decide, by decide⟩, by decide, by decide, small _ (by decide +kernel) (by decide +kernel), ?_⟩
      rw [show farN ⟨1, 0, 0⟩ 5 9 = 5 by decide +kernel]
      exact ⟨rfl, qT rfl (hq _)⟩
end
end My
open PySem PySem.W PySem.Calls PyProof.Rows
set_option maxHeartbeats 0 in
theorem PySem.Challenge.cw_onwardlines_k41_rounds_one_by_one_holds : PySem.Challenge.rw_onwardlines_k41_rounds_one_by_one.Holds := by
  w_on; o_law
  refine HandSHeadRun.head_any (r := My.R) (q := view My.R.prog [30]) (H := My.hk) (ob := My.ob) (M := 20000) (loose := My.loose) (d := HandSHeadRun.topDef My.R.prog 30) (kwd := []) My.ob_eq (by kernel_rfl) (fun s => by kernel_rfl) My.run (by kernel_rfl) (by kernel_rfl) (by kernel_rfl) (by rfl) (by first | assumption | decide +kernel) (by decide +kernel) ⟨rfl, rfl, rfl, rfl, rfl, by decide +kernel⟩ ?hw ?hc
  case hw => w_witness2
  case hc =>
    exact Fw.endM (l := PySem.Challenge.rw_onwardlines_k41_rounds_one_by_one) (k := 8) (N := 6) (spL := My.sp_law) rfl (by kernel_rfl) ⟨rfl, by decide, by decide⟩ (by kernel_rfl)
      (fun w K mg base Z _ _ => My.ok_law Z) (fun K mg Z => My.g_law Z) (fun K mg Z s u => Fw.Fun.bindsAny (My.u_law Z) s u (fun _ _ _ _ _ _ => rfl)) (fun K H a ns hl hO hS => ⟨a, ns, rfl, hS, hl, fun _ => rfl⟩)
