import PyProof.Rows.All
import Wide.All
import OpenK.AllK
import Wide.FinOn
import KE.KStateDown
import Lean
import KE.KExcSuper
import HandS.Base
import HandS.Call
import HandS.Exc
import HandS.ExcInit
import HandS.ExcSuper
import HandS.ExcField
import HandS.ExcIs
import HandS.HeadHook1
import HandS.HeadHook2
import HandS.HeadHook3
import HandS.HeadHook4
import HandS.Ends
import HandS.More
import HandS.Words
import HandS.WordsExc
import HandS.Defaults
import HandS.Head0
import HandS.Head1
import HandS.Head2
import HandS.Head3
import HandS.HeadEnd
import KE.KTryMore
import HandS.IsInst
import KE.KExcIs
import HandS.ForExc
import HandS.Comp
import HandS.Iter
import HandS.Gcd
import HandS.Wide
import HandS.WideBits
import HandS.Text
import HandS.FStr
import HandS.Star
import HandS.Conv
import HandS.List
import KE.KMathG
import PyProof.StrOps2
import HandS.HotCalls
import HandS.ExcInitHot
import HandS.Dict
import PySem.Challenge.RW_howevermany_k01_fractions_raised_and_sha
set_option Elab.async false
set_option linter.all false
set_option maxRecDepth 100000
set_option maxHeartbeats 0
/-! Own exceptions over ValueError whose __init__ says super().__init__('..'), self.code = '..', self.f = f ... -/
namespace ExS
open PySem PySem.W PySem.Calls PyProof.Rows PySem.HandSPX
def asg : List (Str × Pos × Pos × Pos × Pos) → List Stmt
  | [] => []
  | (f, a, b, c, d) :: r => .Assign [.Attribute (.Name "self" a) f b] (.Name f c) d :: asg r
/-- the text of such an __init__ -/
structure Txt where
  (p0 p1 p2 p3 p4 p5 q1 q2 q3 q4 : Pos)
  (kk kc : Nat)
  (txt nm : Str)
  fl : List (Str × Pos × Pos × Pos × Pos)
def Txt.body (t : Txt) : List Stmt :=
  .Expr (.Call (.Attribute (.Call (.Name "super" t.p0) [] [] t.p1) "__init__" t.p2) [.Constant (.str t.txt) t.kk t.p3] [] t.p4) t.p5 ::
    .Assign [.Attribute (.Name "self" t.q1) "code" t.q2] (.Constant (.str t.nm) t.kc t.q3) t.q4 :: asg t.fl
def Txt.fs (t : Txt) : List Str := t.fl.map (·.1)
abbrev scp (nms : List (Str × NameKind)) : Scope := { kind := .function, names := nms, isGenerator := false, isCoroutine := false, more := [] }
def supCall (t : Txt) : Expr := .Call (.Attribute (.Call (.Name "super" t.p0) [] [] t.p1) "__init__" t.p2) [.Constant (.str t.txt) t.kk t.p3] [] t.p4
end ExS
/-! The head's facts of own exception classes, read by a Hook. -/
namespace HeO
open PySem PySem.Spec PyProof.Rows L2 ExS
theorem ba {a b : Bool} (h : (a && b) = true) : a = true ∧ b = true := Bool.and_eq_true_iff.mp h
/-! ### the class -/
def oexA (K : PySem.W.Frag) (C : Addr) : Bool := match K.lookup C with
  | some ⟨.type T, _, .cls cd, sl⟩ => (match cd.mro, sl.toList with
    | .ref D :: bm, [_, _, _, _, some (.builtin n), _] => decide (T = "type") && (decide (D = C) && (decide (n = "ValueError.__new__") && (!cd.hasDel && (cd.hasDict && PySem.HandSPX.refsVE bm))))
    | _, _ => false)
  | _ => false
theorem oexA_ok {K : PySem.W.Frag} {C : Addr} (q : oexA K C = true) : ∃ nm q N bs bm sn sub ab col dd k0 k1 k2 k3 k5, K.lookup C = some (excClassObj nm q C N bs bm true sn sub ab col dd k0 k1 k2 k3 k5 "ValueError.__new__") ∧ PySem.HandSPX.refsVE bm = true := by
  unfold oexA at q
  split at q
  · rename_i T dd cd sl ho
    split at q
    · rename_i D bm k0 k1 k2 k3 n k5 hm hs
      obtain ⟨h1, q⟩ := ba q
      obtain ⟨h2, q⟩ := ba q
      obtain ⟨h3, q⟩ := ba q
      obtain ⟨h4, q⟩ := ba q
      obtain ⟨h5, h6⟩ := ba q
      have h1 := of_decide_eq_true h1
      have h2 := of_decide_eq_true h2
      have h3 := of_decide_eq_true h3
      have g4 : cd.hasDel = false := by
        cases e : cd.hasDel with
        | false => rfl
        | true => rw [e] at h4; cases h4
      clear h4
      subst h1 h2 h3
      obtain ⟨nm, bs, mro, ns, qn, hd, sn, sub, ab, col, del⟩ := cd
      dsimp only at hm g4 h5
      subst hm g4 h5
      have hsl : sl = #[k0, k1, k2, k3, some (.builtin "ValueError.__new__"), k5] := by
        obtain ⟨l⟩ := sl
        simp only at hs
        rw [hs]
      subst hsl
      exact ⟨nm, qn, ns, bs, bm, sn, sub, ab, col, dd, k0, k1, k2, k3, k5, ho, h6⟩
    · cases q
  · cases q
def oexB (K : PySem.W.Frag) (C : Addr) : Bool := oexA K C && (He.eqO (PySem.W.findIn K (.ref C) "__setattr__") (some (some (.builtin "object.__setattr__"))) && (decide (PySem.W.subIn K (.ref C) (.type "BaseException") = some true) && (decide (PySem.W.typeIn K (.ref C) = some (.type "type")) && PySem.W.keepIn K (.ref C))))
theorem oexB_ok {K : PySem.W.Frag} {C : Addr} (q : oexB K C = true) : L2.OexC K C := by
  obtain ⟨h1, q⟩ := ba q
  obtain ⟨h2, q⟩ := ba q
  obtain ⟨h3, q⟩ := ba q
  obtain ⟨h4, h5⟩ := ba q
  exact ⟨oexA_ok h1, He.eqO_ok h2, of_decide_eq_true h3, of_decide_eq_true h4, h5⟩
def excB (K : PySem.W.Frag) (D : Addr) : Bool := He.eqO (PySem.W.findIn K (.ref D) "__getattribute__") (some (some (.builtin "BaseException.__getattribute__"))) && (He.eqO (PySem.W.findIn K (.ref D) "__getattr__") (some none) && (decide (PySem.W.subIn K (.ref D) (.type "BaseException") = some true) && (PySem.W.hasDictIn K D && (He.eqO (PySem.W.findIn K (.ref D) "__class__") (some (some (.builtin "object.__class__"))) &&
  (He.eqO (PySem.W.specialIn K (.builtin "object.__class__") "__get__") (some (some (.builtin "getset_descriptor.__get__"))) && (decide (PySem.W.takesIn K (.builtin "object.__class__") = some true) && decide (PySem.W.mroIn K D (.type "object") = some true)))))))
theorem excB_ok {K : PySem.W.Frag} {D : Addr} (q : excB K D = true) : L2.ExcC K D := by
  obtain ⟨h1, q⟩ := ba q
  obtain ⟨h2, q⟩ := ba q
  obtain ⟨h3, q⟩ := ba q
  obtain ⟨h4, q⟩ := ba q
  obtain ⟨h5, q⟩ := ba q
  obtain ⟨h6, q⟩ := ba q
  obtain ⟨h7, h8⟩ := ba q
  exact ⟨He.eqO_ok h1, He.eqO_ok h2, of_decide_eq_true h3, h4, He.eqO_ok h5, He.eqO_ok h6, of_decide_eq_true h7, of_decide_eq_true h8⟩
/-! ### its __init__ -/
/-- an __init__ that says super().__init__('..') and sets fields -/
structure InD where
  x : Str
  t : Txt
  qual : Str
  params : Arguments
  nms : List (Str × NameKind)
abbrev InV : Type := Option (Str × Str × Arguments × FuncBody × Scope × Addr × List Str × Value × Value × Addr)
def fI (K : PySem.W.Frag) (x : Str) : Addr := He.ma K (He.ga K x) "__init__"
def inObs (K : PySem.W.Frag) (x : Str) : InV := match K.lookup (fI K x) with
  | some ⟨_, _, .func fd, _⟩ => some (fd.name, fd.qualname, fd.params, fd.body, fd.scope, fd.globals, fd.closure.map (·.1), fd.defaults, fd.kwdefaults, fd.builtins)
  | _ => none
def InD.val (d : InD) : InV := some ("__init__", d.qual, d.params, .stmts d.t.body, scp d.nms, mainGlobals, ["__class__"], .none, .none, builtinsNs)
def fileB (K : PySem.W.Frag) (cd : Value) (file : Str) : Bool := match cd with
  | .ref c => (match K.lookup c with
    | some ⟨_, _, .fields vs, _⟩ => (match (vs[2]? : Option Value) with
      | some (Value.str f _) => decide (f = file)
      | _ => false)
    | _ => false)
  | _ => false
theorem fileB_ok {K : PySem.W.Frag} {cd : Value} {file : Str} (h : fileB K cd file = true) : ∃ c, cd = .ref c ∧ ∃ (ccl : Value) (cdd : Option Addr) (ccs : Array (Option Value)) (vs : Array Value) (tf : Tok), K.lookup c = some ⟨ccl, cdd, .fields vs, ccs⟩ ∧ vs[2]? = some (.str file tf) := by
  unfold fileB at h
  split at h
  · rename_i c
    refine ⟨c, rfl, ?_⟩
    split at h
    · rename_i o1 o2 vs o4 ho
      split at h
      · rename_i f tf hv
        have e := of_decide_eq_true h
        subst e
        exact ⟨_, _, _, _, _, ho, hv⟩
      · cases h
    · cases h
  · cases h
def cellB (K : PySem.W.Frag) (cc C : Addr) : Bool := match K.lookup cc with
  | some ⟨_, _, .cell (some (.ref D)), _⟩ => decide (D = C)
  | _ => false
theorem cellB_ok {K : PySem.W.Frag} {cc C : Addr} (h : cellB K cc C = true) : ∃ (cl : Value) (cld : Option Addr) (csl : Array (Option Value)), K.lookup cc = some ⟨cl, cld, .cell (some (.ref C)), csl⟩ := by
  unfold cellB at h
  split at h
  · rename_i o1 o2 D o4 ho
    have e := of_decide_eq_true h
    subst e
    exact ⟨_, _, _, ho⟩
  · cases h
def closB (K : PySem.W.Frag) (cl : List (Str × Addr)) (C : Addr) : Bool := match cl with
  | [(_, cc)] => cellB K cc C
  | _ => false
def initB (K : PySem.W.Frag) (f C : Addr) (qual file : Str) : Bool := match K.lookup f with
  | some ⟨_, _, .func fd, _⟩ => PySem.W.codeIn K fd.code qual && (fileB K fd.code file && closB K fd.closure C)
  | _ => false
theorem init_ok {K : PySem.W.Frag} {d : InD} {C : Addr} {file : Str} {P : Program} (e : inObs K d.x = d.val) (q : initB K (fI K d.x) C d.qual file = true) (hf : ((P.main.file : Str) == file) = true) :
    ∃ (oc : Value) (od : Option Addr) (doc pm : Value) (an : Option Addr) (cda : Addr) (ct : Value) (cc : Addr) (osl : Array (Option Value)), K.lookup (fI K d.x) = some ⟨oc, od, .func (PySem.W.ksFn "__init__" d.qual d.params d.t.body (scp d.nms) .none .none doc pm an (.ref cda) ct cc), osl⟩ ∧
    PySem.W.codeIn K (.ref cda) d.qual = true ∧ (∃ (ccl : Value) (cdd : Option Addr) (ccs : Array (Option Value)) (vs : Array Value) (file : Str) (tf : Tok), K.lookup cda = some ⟨ccl, cdd, .fields vs, ccs⟩ ∧ vs[2]? = some (.str file tf) ∧ ((P.main.file : Str) == file) = true) ∧
    ∃ (cl : Value) (cld : Option Addr) (csl : Array (Option Value)), K.lookup cc = some ⟨cl, cld, .cell (some (.ref C)), csl⟩ := by
  unfold inObs InD.val at e
  unfold initB at q
  cases lk : K.lookup (fI K d.x) with
  | none =>
    rw [lk] at q
    cases q
  | some o =>
    obtain ⟨oc, od, dt, osl⟩ := o
    rw [lk] at q e
    cases dt with
    | func fd =>
      obtain ⟨n1, n2, n3, n4, n5, n6, n7, n8, n9, n10, n11, n12, n13, n14, n15⟩ := fd
      have e2 : (some (n1, n2, n3, n4, n5, n6, n7.map (·.1), n8, n9, n15) : InV) = (some ("__init__", d.qual, d.params, .stmts d.t.body, scp d.nms, mainGlobals, ["__class__"], .none, .none, builtinsNs) : InV) := e
      simp only [Option.some.injEq, Prod.mk.injEq] at e2
      obtain ⟨h1, h2, h3, h4, h5, h6, h7, h8, h9, h10⟩ := e2
      have q2 : (PySem.W.codeIn K n13 d.qual && (fileB K n13 file && closB K n7 C)) = true := by rw [← q] <;> rfl
      subst h1 h3 h4 h5 h6 h8 h9 h10
      obtain ⟨q3, q4⟩ := ba q2
      obtain ⟨q5, q6⟩ := ba q4
      obtain ⟨cda, rfl, ccl, cdd, ccs, vs, tf, l1, l2⟩ := fileB_ok q5
      match n7, h7, q6 with
      | [(y, cc)], h7, q6 =>
        have ey : y = ("__class__" : Str) := by
          have z : [y] = [("__class__" : Str)] := h7
          injection z
        subst ey
        rw [h2]
        exact ⟨oc, od, n10, n11, n12, cda, n14, cc, osl, rfl, q3, ⟨ccl, cdd, ccs, vs, file, tf, l1, l2, hf⟩, cellB_ok q6⟩
    | _ => cases q
def ownB (K : PySem.W.Frag) (x qual file : Str) (fs : List Str) : Bool :=
  oexB K (He.ga K x) && (initB K (fI K x) (He.ga K x) qual file && (He.eqO (PySem.W.findIn K (.ref (He.ga K x)) "__init__") (some (some (.ref (fI K x)))) && (decide (PySem.W.typeIn K (.ref (fI K x)) = some (.type "function")) && (He.eqO (PySem.W.nsIn K cStatics "thirdparty.any") (some none) &&
  (He.eqO (PySem.W.ks_superIn K (He.ga K x) (He.ga K x) "__init__") (some (some (.builtin "ValueError.__init__"))) && (decide (PySem.W.subIn K (.ref (He.ga K x)) (.type "ValueError") = some true) && (decide (PySem.W.mroIn K (He.ga K x) (.ref (He.ga K x)) = some true) && (("code" : Str) :: fs).all fun f => He.eqO (PySem.W.findIn K (.ref (He.ga K x)) f) (some none))))))))
/-! ### the Hook -/
def frY (g : Addr → Option Obj) (n : Nat) : PySem.W.Frag := He.frT g (cStatics :: He.asD g n)
abbrev AlY : Type := He.AlT × List InV × Bool
def obsY (n : Nat) (fa : List He.Fa) (fn : List He.DefD) (ts : List He.Tab) (ins : List InD) (ex : PySem.W.Frag → Bool) (g : Addr → Option Obj) : AlY := (He.obsT fa fn ts (frY g n), ins.map (fun d => inObs (frY g n) d.x), ex (frY g n))
def valY (fn : List He.DefD) (ts : List He.Tab) (ins : List InD) (w : World) : AlY := (He.valT fn ts w, ins.map InD.val, true)
structure SaysY (fa : List He.Fa) (fn : List He.DefD) (ts : List He.Tab) (ins : List InD) (ex : PySem.W.Frag → Bool) (w : World) (K : PySem.W.Frag) : Prop where
  t : He.SaysT fa fn ts w K
  i : ins.map (fun d => inObs K d.x) = ins.map InD.val
  more : ex K = true
theorem saysY_of {n : Nat} {fa : List He.Fa} {fn : List He.DefD} {ts : List He.Tab} {ins : List InD} {ex : PySem.W.Frag → Bool} {w : World} {g : Addr → Option Obj} (e : obsY n fa fn ts ins ex g = valY fn ts ins w) : SaysY fa fn ts ins ex w (frY g n) :=
  ⟨congrArg (fun z : AlY => z.1) e, congrArg (fun z : AlY => z.2.1) e, congrArg (fun z : AlY => z.2.2) e⟩
def hookY (n : Nat) (fa : List He.Fa) (fn : List He.DefD) (ts : List He.Tab) (ins : List InD) (ex : PySem.W.Frag → Bool) : PySem.W.Hook where
  α := AlY
  obs := fun s => obsY n fa fn ts ins ex s.heap.get?
  val := fun w => valY fn ts ins w
  says := fun w h => ∃ K : PySem.W.Frag, K.In h ∧ SaysY fa fn ts ins ex w K
  of := fun _ _ e => ⟨_, He.frT_in, saysY_of e⟩
  keeps := fun _ _ _ ⟨K, hK, c⟩ k => ⟨K, PySem.W.Frag.In.keeps hK k, c⟩
theorem obsY_eq {n : Nat} {fa : List He.Fa} {fn : List He.DefD} {ts : List He.Tab} {ins : List InD} {ex : PySem.W.Frag → Bool} {g : Addr → Option Obj} {s : Shared} (h : ∀ a, g a = s.heap.get? a) : obsY n fa fn ts ins ex g = (hookY n fa fn ts ins ex).obs s := by
  have e : g = s.heap.get? := funext h
  rw [e] <;> rfl
theorem SaysY.init {fa : List He.Fa} {fn : List He.DefD} {ts : List He.Tab} {ins : List InD} {ex : PySem.W.Frag → Bool} {w : World} {K : PySem.W.Frag} (c : SaysY fa fn ts ins ex w K) (i : Nat) {d : InD} (h : ins[i]? = some d := by rfl) : inObs K d.x = d.val := by
  have e2 : (ins.map fun d => inObs K d.x)[i]? = (ins.map InD.val)[i]? := by rw [c.i]
  rw [List.getElem?_map, List.getElem?_map, h] at e2
  exact Option.some.inj e2
end HeO
namespace K01
open PySem PySem.Spec PyProof.Rows L2 ExS
def topS (i : Nat) : Stmt := PySem.Challenge.pw_howevermany_k01_fractions_raised_and_sha.main.body.getD i (.Pass ⟨0, 0, 0, 0⟩)
def iniOf (s : Stmt) : Stmt := match s with | .ClassDef _ _ _ (i :: _) .. => i | _ => .Pass ⟨0, 0, 0, 0⟩
def t_BadFraction : Txt := ⟨⟨16, 8, 16, 13⟩, ⟨16, 8, 16, 15⟩, ⟨16, 8, 16, 24⟩, ⟨16, 25, 16, 46⟩, ⟨16, 8, 16, 47⟩, ⟨16, 8, 16, 47⟩, ⟨17, 8, 17, 12⟩, ⟨17, 8, 17, 17⟩, ⟨17, 20, 17, 33⟩, ⟨17, 8, 17, 33⟩, 0, 0, "this is no fraction", "BadFraction", [("value", ⟨18, 8, 18, 12⟩, ⟨18, 8, 18, 18⟩, ⟨18, 21, 18, 26⟩, ⟨18, 8, 18, 26⟩)]⟩
abbrev i_BadFraction : Stmt := iniOf (topS 5)
def t_BadNumber : Txt := ⟨⟨22, 8, 22, 13⟩, ⟨22, 8, 22, 15⟩, ⟨22, 8, 22, 24⟩, ⟨22, 25, 22, 56⟩, ⟨22, 8, 22, 57⟩, ⟨22, 8, 22, 57⟩, ⟨23, 8, 23, 12⟩, ⟨23, 8, 23, 17⟩, ⟨23, 20, 23, 31⟩, ⟨23, 8, 23, 31⟩, 0, 0, "this number cannot stand here", "BadNumber", [("value", ⟨24, 8, 24, 12⟩, ⟨24, 8, 24, 18⟩, ⟨24, 21, 24, 26⟩, ⟨24, 8, 24, 26⟩)]⟩
abbrev i_BadNumber : Stmt := iniOf (topS 6)
abbrev s_is_number : Stmt := topS 29
abbrev s_is_fraction : Stmt := topS 30
abbrev s__check : Stmt := topS 31
abbrev s__reduced : Stmt := topS 32
abbrev s__is_count : Stmt := topS 33
abbrev s_fraction_or_none : Stmt := topS 34
abbrev s_read_fraction : Stmt := topS 35
abbrev s_lowest : Stmt := topS 36
abbrev s_fraction_text : Stmt := topS 37
abbrev s_plus : Stmt := topS 38
abbrev s_times : Stmt := topS 39
abbrev s_quotient : Stmt := topS 40
abbrev s_apart : Stmt := topS 41
abbrev s__power : Stmt := topS 42
abbrev s_raised : Stmt := topS 43
abbrev s_is_less : Stmt := topS 44
abbrev s_least_common : Stmt := topS 45
abbrev s__law_bag : Stmt := topS 47
abbrev s__law_draw : Stmt := topS 48
abbrev s__law_of : Stmt := topS 49
abbrev s__law_mixed : Stmt := topS 50
abbrev s__law_like : Stmt := topS 51
abbrev s__law_gcd : Stmt := topS 52
abbrev s__law_pair : Stmt := topS 53
abbrev s__law_power : Stmt := topS 54
abbrev s__law_dress : Stmt := topS 55
abbrev s__law_called : Stmt := topS 56
abbrev s__law_told : Stmt := topS 57
abbrev s__law_right : Stmt := topS 58
abbrev s__law_wrong : Stmt := topS 59
abbrev s__law_call : Stmt := topS 60
abbrev s__law_ask : Stmt := topS 61
abbrev s__law_refusals : Stmt := topS 62
abbrev s__law_texts : Stmt := topS 63
abbrev s__law_common : Stmt := topS 64
abbrev s_law : Stmt := topS 65
end K01
namespace K01
open PySem PySem.Spec PyProof.Rows L2 ExS
def clsT : List Str := ["ModelError", "Missing", "Ended", "NoSuch", "BadName", "BadFraction", "BadNumber", "BadGround", "BadBook", "BadRecipe", "BadLook", "BadTerm", "BadQuestion", "BadReading", "BadScript", "NotBare", "NotOne", "NotScorer", "NoChance", "Unlike", "TooFew", "TooMany"]
/-! ### the head: facts by names, the run -/
def D_is_number : He.DefD := ⟨("is_number", none), "is_number", "is_number", defArgs s_is_number, defBody s_is_number, defScope s_is_number, [], []⟩
def D_is_fraction : He.DefD := ⟨("is_fraction", none), "is_fraction", "is_fraction", defArgs s_is_fraction, defBody s_is_fraction, defScope s_is_fraction, [], []⟩
def D__check : He.DefD := ⟨("_check", none), "_check", "_check", defArgs s__check, defBody s__check, defScope s__check, [], []⟩
def D__reduced : He.DefD := ⟨("_reduced", none), "_reduced", "_reduced", defArgs s__reduced, defBody s__reduced, defScope s__reduced, [], []⟩
def D__is_count : He.DefD := ⟨("_is_count", none), "_is_count", "_is_count", defArgs s__is_count, defBody s__is_count, defScope s__is_count, [], []⟩
def D_fraction_or_none : He.DefD := ⟨("fraction_or_none", none), "fraction_or_none", "fraction_or_none", defArgs s_fraction_or_none, defBody s_fraction_or_none, defScope s_fraction_or_none, [], []⟩
def D_read_fraction : He.DefD := ⟨("read_fraction", none), "read_fraction", "read_fraction", defArgs s_read_fraction, defBody s_read_fraction, defScope s_read_fraction, [], []⟩
def D_lowest : He.DefD := ⟨("lowest", none), "lowest", "lowest", defArgs s_lowest, defBody s_lowest, defScope s_lowest, [], []⟩
def D_fraction_text : He.DefD := ⟨("fraction_text", none), "fraction_text", "fraction_text", defArgs s_fraction_text, defBody s_fraction_text, defScope s_fraction_text, [], []⟩
def D_plus : He.DefD := ⟨("plus", none), "plus", "plus", defArgs s_plus, defBody s_plus, defScope s_plus, [], []⟩
def D_times : He.DefD := ⟨("times", none), "times", "times", defArgs s_times, defBody s_times, defScope s_times, [], []⟩
def D_quotient : He.DefD := ⟨("quotient", none), "quotient", "quotient", defArgs s_quotient, defBody s_quotient, defScope s_quotient, [], []⟩
def D_apart : He.DefD := ⟨("apart", none), "apart", "apart", defArgs s_apart, defBody s_apart, defScope s_apart, [], []⟩
def D__power : He.DefD := ⟨("_power", none), "_power", "_power", defArgs s__power, defBody s__power, defScope s__power, [], []⟩
def D_raised : He.DefD := ⟨("raised", none), "raised", "raised", defArgs s_raised, defBody s_raised, defScope s_raised, [], []⟩
def D_is_less : He.DefD := ⟨("is_less", none), "is_less", "is_less", defArgs s_is_less, defBody s_is_less, defScope s_is_less, [], []⟩
def D_least_common : He.DefD := ⟨("least_common", none), "least_common", "least_common", defArgs s_least_common, defBody s_least_common, defScope s_least_common, [], []⟩
def D__law_bag : He.DefD := ⟨("_law_bag", none), "_law_bag", "_law_bag", defArgs s__law_bag, defBody s__law_bag, defScope s__law_bag, [], []⟩
def D__law_draw : He.DefD := ⟨("_law_draw", none), "_law_draw", "_law_draw", defArgs s__law_draw, defBody s__law_draw, defScope s__law_draw, [], []⟩
def D__law_of : He.DefD := ⟨("_law_of", none), "_law_of", "_law_of", defArgs s__law_of, defBody s__law_of, defScope s__law_of, [], []⟩
def D__law_mixed : He.DefD := ⟨("_law_mixed", none), "_law_mixed", "_law_mixed", defArgs s__law_mixed, defBody s__law_mixed, defScope s__law_mixed, [], []⟩
def D__law_like : He.DefD := ⟨("_law_like", none), "_law_like", "_law_like", defArgs s__law_like, defBody s__law_like, defScope s__law_like, [], []⟩
def D__law_gcd : He.DefD := ⟨("_law_gcd", none), "_law_gcd", "_law_gcd", defArgs s__law_gcd, defBody s__law_gcd, defScope s__law_gcd, [], []⟩
def D__law_pair : He.DefD := ⟨("_law_pair", none), "_law_pair", "_law_pair", defArgs s__law_pair, defBody s__law_pair, defScope s__law_pair, [], []⟩
def D__law_power : He.DefD := ⟨("_law_power", none), "_law_power", "_law_power", defArgs s__law_power, defBody s__law_power, defScope s__law_power, [], []⟩
def D__law_dress : He.DefD := ⟨("_law_dress", none), "_law_dress", "_law_dress", defArgs s__law_dress, defBody s__law_dress, defScope s__law_dress, [], []⟩
def D__law_called : He.DefD := ⟨("_law_called", none), "_law_called", "_law_called", defArgs s__law_called, defBody s__law_called, defScope s__law_called, [], []⟩
def D__law_told : He.DefD := ⟨("_law_told", none), "_law_told", "_law_told", defArgs s__law_told, defBody s__law_told, defScope s__law_told, [], []⟩
def D__law_right : He.DefD := ⟨("_law_right", none), "_law_right", "_law_right", defArgs s__law_right, defBody s__law_right, defScope s__law_right, [], []⟩
def D__law_wrong : He.DefD := ⟨("_law_wrong", none), "_law_wrong", "_law_wrong", defArgs s__law_wrong, defBody s__law_wrong, defScope s__law_wrong, [], []⟩
def D__law_call : He.DefD := ⟨("_law_call", none), "_law_call", "_law_call", defArgs s__law_call, defBody s__law_call, defScope s__law_call, [], []⟩
def D__law_ask : He.DefD := ⟨("_law_ask", none), "_law_ask", "_law_ask", defArgs s__law_ask, defBody s__law_ask, defScope s__law_ask, [], []⟩
def D__law_refusals : He.DefD := ⟨("_law_refusals", none), "_law_refusals", "_law_refusals", defArgs s__law_refusals, defBody s__law_refusals, defScope s__law_refusals, [], []⟩
def D__law_texts : He.DefD := ⟨("_law_texts", none), "_law_texts", "_law_texts", defArgs s__law_texts, defBody s__law_texts, defScope s__law_texts, [], []⟩
def D__law_common : He.DefD := ⟨("_law_common", none), "_law_common", "_law_common", defArgs s__law_common, defBody s__law_common, defScope s__law_common, [], []⟩
def D_law : He.DefD := ⟨("law", none), "law", "law", defArgs s_law, defBody s_law, defScope s_law, [], []⟩
def fn : List He.DefD := [D_is_number, D_is_fraction, D__check, D__reduced, D__is_count, D_fraction_or_none, D_read_fraction, D_lowest, D_fraction_text, D_plus, D_times, D_quotient, D_apart, D__power, D_raised, D_is_less, D_least_common, D__law_bag, D__law_draw, D__law_of, D__law_mixed, D__law_like, D__law_gcd, D__law_pair, D__law_power, D__law_dress, D__law_called, D__law_told, D__law_right, D__law_wrong, D__law_call, D__law_ask, D__law_refusals, D__law_texts, D__law_common, D_law]
def fa : List He.Fa := [.free "abs", .free "all", .free "bool", .free "dict", .free "int", .free "isinstance", .free "len", .free "list", .free "max", .free "min", .free "range", .free "str", .free "tuple", .int "MOST_DIGITS" 60, .free "super", .glo "BadFraction", .glo "BadNumber", .glo "ModelError", .glo "Missing", .glo "Ended", .glo "NoSuch", .glo "BadName", .glo "BadGround", .glo "BadBook", .glo "BadRecipe", .glo "BadLook", .glo "BadTerm", .glo "BadQuestion", .glo "BadReading", .glo "BadScript", .glo "NotBare", .glo "NotOne", .glo "NotScorer", .glo "NoChance", .glo "Unlike", .glo "TooFew", .glo "TooMany", .glo "is_number", .glo "is_fraction", .glo "_check", .glo "_reduced", .glo "_is_count", .glo "fraction_or_none", .glo "read_fraction", .glo "lowest", .glo "fraction_text", .glo "plus", .glo "times", .glo "quotient", .glo "apart", .glo "_power", .glo "raised", .glo "is_less", .glo "least_common", .glo "_law_bag", .glo "_law_draw", .glo "_law_of", .glo "_law_mixed", .glo "_law_like", .glo "_law_gcd", .glo "_law_pair", .glo "_law_power", .glo "_law_dress", .glo "_law_called", .glo "_law_told", .glo "_law_right", .glo "_law_wrong", .glo "_law_call", .glo "_law_ask", .glo "_law_refusals", .glo "_law_texts", .glo "_law_common", .glo "law"]
def in_BadFraction : HeO.InD := ⟨"BadFraction", t_BadFraction, "BadFraction.__init__", defArgs i_BadFraction, (defScope i_BadFraction).names⟩
def in_BadNumber : HeO.InD := ⟨"BadNumber", t_BadNumber, "BadNumber.__init__", defArgs i_BadNumber, (defScope i_BadNumber).names⟩
def ins : List HeO.InD := [in_BadFraction, in_BadNumber]
def hits : List Str := ["BadFraction", "BadNumber"]
def fileS : Str := PySem.Challenge.pw_howevermany_k01_fractions_raised_and_sha.main.file
def ex (K : PySem.W.Frag) : Bool := He.eqO (PySem.W.nsIn K mainGlobals "gcd") (some (some (.builtin "math.gcd"))) && (He.eqO (PySem.W.nsIn K mainGlobals "lcm") (some (some (.builtin "math.lcm"))) &&
  (HeO.ownB K "BadFraction" "BadFraction.__init__" fileS t_BadFraction.fs && HeO.ownB K "BadNumber" "BadNumber.__init__" fileS t_BadNumber.fs &&
  (hits.all fun nm => L2.xfB K (He.ga K nm) && (HeO.excB K (He.ga K nm) && (He.eqO (PySem.W.findIn K (.ref (He.ga K nm)) "code") (some none) && (He.eqO (PySem.W.findIn K (.ref (He.ga K nm)) "value") (some none) &&
    (decide (PySem.W.exmAny K (.ref (He.ga K nm)) [.ref (He.ga K "ModelError"), .ref (He.ga K "Missing"), .ref (He.ga K "Ended")] = some true) && clsT.all fun c => decide (PySem.W.kitOne K (.ref (He.ga K nm)) (.ref (He.ga K c)) = some (decide (c = "ModelError" ∨ c = nm))))))))))
def ll0 : List Str := ["gcd", "lcm", "ModelError", "Missing", "BadName", "BadFraction", "BadNumber", "BadGround", "BadBook", "BadRecipe", "BadLook", "BadTerm", "BadQuestion", "BadReading", "BadScript", "NotBare", "NotOne", "NotScorer", "NoChance", "Unlike", "TooFew", "TooMany", "NoSuch", "Ended", "BOUNDS", "limit", "MOST_DIGITS", "is_number", "is_fraction", "_check"]
def ll1 : List Str := ["_reduced", "_is_count", "fraction_or_none", "read_fraction", "lowest", "fraction_text", "plus", "times", "quotient", "apart", "_power", "raised", "is_less", "least_common", "_law_bag", "_law_draw", "_law_of", "_law_mixed", "_law_like", "_law_gcd", "_law_pair", "_law_power", "_law_dress", "_law_called", "_law_told", "_law_right", "_law_wrong", "_law_call", "_law_ask", "_law_refusals"]
def ll2 : List Str := ["_law_texts", "_law_common"]
def loose : List Str := ll0 ++ ll1 ++ ll2
abbrev R : PySem.W.OpenRow := PySem.W.OpenLaw.row PySem.Challenge.rw_howevermany_k01_fractions_raised_and_sha
abbrev hk : PySem.W.Hook := HeO.hookY 4 fa fn [] ins ex
def ob (s : PySem.W.SharedT) : HeO.AlY := HeO.obsY 4 fa fn [] ins ex (HandSHeadRun.getT s)
theorem ob_eq (s : PySem.W.SharedT) : ob s = hk.obs s.abs := HeO.obsY_eq (HandSHeadRun.getT_eq s)
theorem run0 (w : World) : HandSHeadRun.RunEqI R (PySem.W.view R.prog [0, 65]) hk ob 20000 loose (w.withFollow "special-get-raises" false) := by
  unfold HandSHeadRun.RunEqI
  kernel_rfl
theorem run1 (w : World) : HandSHeadRun.RunEqI R (PySem.W.view R.prog [0, 65]) hk ob 20000 loose (w.withFollow "special-get-raises" true) := by
  unfold HandSHeadRun.RunEqI
  kernel_rfl
theorem run (w : World) : HandSHeadRun.RunEqI R (PySem.W.view R.prog [0, 65]) hk ob 20000 loose w := PySem.W.byRow2 "special-get-raises" (P := fun w => HandSHeadRun.RunEqI R (PySem.W.view R.prog [0, 65]) hk ob 20000 loose w) run0 run1 w
end K01
namespace ExS
open PySem PySem.W PySem.Calls PyProof.Rows PySem.HandSPX
/-- what the written part says of the class at C and of its __init__ at fI -/
structure OwnT (P : Program) (K : Frag) (C fI : Addr) (t : Txt) (qual : Str) (params : Arguments) (nms : List (Str × NameKind)) : Prop where
  c : L2.OexC K C
  fn : ∃ (oc : Value) (od : Option Addr) (doc pm : Value) (an : Option Addr) (cda : Addr) (ct : Value) (cc : Addr) (osl : Array (Option Value)), K.lookup fI = some ⟨oc, od, .func (ksFn "__init__" qual params t.body (scp nms) .none .none doc pm an (.ref cda) ct cc), osl⟩ ∧
    codeIn K (.ref cda) qual = true ∧ (∃ (ccl : Value) (cdd : Option Addr) (ccs : Array (Option Value)) (vs : Array Value) (file : Str) (tf : Tok), K.lookup cda = some ⟨ccl, cdd, .fields vs, ccs⟩ ∧ vs[2]? = some (.str file tf) ∧ ((P.main.file : Str) == file) = true) ∧
    ∃ (cl : Value) (cld : Option Addr) (csl : Array (Option Value)), K.lookup cc = some ⟨cl, cld, .cell (some (.ref C)), csl⟩
  iC : findIn K (.ref C) "__init__" = some (some (.ref fI))
  tI : typeIn K (.ref fI) = some (.type "function")
  opq : nsIn K cStatics "thirdparty.any" = some none
  ini : ks_superIn K C C "__init__" = some (some (.builtin "ValueError.__init__"))
  sub : subIn K (.ref C) (.type "ValueError") = some true
  own : mroIn K C (.ref C) = some true
  no : ∀ f ∈ ("code" : Str) :: t.fs, findIn K (.ref C) f = some none
  top : (P.main.scope.names.lookup ("super" : Str)).isSome = false
  first : (params.posonlyargs ++ params.args).head?.map (·.arg) = some ("self" : Str)
  bnd : ∀ (doc pm : Value) (an : Option Addr) (cda : Addr) (ct : Value) (cc : Addr) (us : List Value), us.length = t.fs.length + 1 → bindArgs (ksFn "__init__" qual params t.body (scp nms) .none .none doc pm an (.ref cda) ct cc) ⟨us, []⟩ = pure ((("self" : Str) :: t.fs).zip us)
  scs : nms.lookup ("super" : Str) = some .globalImplicit
  scc : nms.lookup ("__class__" : Str) = some .free
  scl : ∀ f ∈ ("self" : Str) :: t.fs, nms.lookup f = some .local
  cel : ∀ x ∈ nms, x.2 ≠ .cell
  mth : ∀ (L a : Addr) (cd : Value) (cc : Addr), ∃ pl : Sem Bool, eval (supCall t) (ksEnv qual (scp nms) L a cd cc) = (do
    let ov ← attributeBase (.Call (.Name "super" t.p0) [] [] t.p1) "__init__" (ksEnv qual (scp nms) L a cd cc) (eval (.Call (.Name "super" t.p0) [] [] t.p1) (ksEnv qual (scp nms) L a cd cc))
    standAt t.p2.atName
    let (f, first) ← holding [ov] (getMethod ov "__init__" pl)
    callWith t.p4 f first (backTo t.p4 (starEach [.Constant (.str t.txt) t.kk t.p3] (ksEnv qual (scp nms) L a cd cc))) [])
  sw0 : ∀ (L a : Addr) (cd : Value) (cc : Addr), swapsWith (supCall t) none t.p5.line (ksEnv qual (scp nms) L a cd cc) = pure false
  sw1 : ∀ (L a : Addr) (cd : Value) (cc : Addr), swapsWith (.Constant (.str t.nm) t.kc t.q3) (some (.Attribute (.Name "self" t.q1) "code" t.q2)) t.q4.line (ksEnv qual (scp nms) L a cd cc) = pure false
  sw2 : ∀ (L a : Addr) (cd : Value) (cc : Addr), ∀ y ∈ t.fl, swapsWith (.Name y.1 y.2.2.2.1) (some (.Attribute (.Name "self" y.2.1) y.1 y.2.2.1)) y.2.2.2.2.line (ksEnv qual (scp nms) L a cd cc) = pure false
  nd : (("self" : Str) :: t.fs).Nodup
  few : t.fs.length ≤ 20
  dbg : ∀ f ∈ t.fs, (f == ("__debug__" : Str)) = false
section
variable {prog : Program} {w : World} {A : Around} {E : Value → Shared → Prop} {h : Heap} {g : Array GenState} {d : Drawn} {t : Nat} {os : OsState}
variable {nm q : Str} {C N : Addr} {bs bm : List Value} {hdct : Bool} {sn : List Str} {sub : List Value} {ab : Bool} {col : Option Bool} {dd : Option Addr} {k0 k1 k2 k3 k5 : Option Value}
/-- the bound ValueError.__init__ called -/
theorem call_vw {u e t0 : Addr} {rest : List Value} {Q : Value → Shared → Prop}
    (hC : h.get? C = some (excClassObj nm q C N bs bm hdct sn sub ab col dd k0 k1 k2 k3 k5 "ValueError.__new__")) (he : h.get? e = some (excO C t0)) (hu : h.get? u = some (kxs_mw "ValueError.__init__" e)) (hrest : rest.length ≤ sizeLine)
    (hq : ∀ h' t1, (∀ b o, b ≠ e → h.get? b = some o → h'.get? b = some o) → h'.get? e = some (excO C t1) → Q .none ⟨h', g, d, t, os⟩) :
    wpAny (model prog w) A (call (.ref u) rest) Q E ⟨h, g, d, t, os⟩ := by
  refine wpAny_call (codeAny_of_tree ?tree)
  case tree =>
    show wpAny _ A.in1 (callAny (.ref u) ⟨rest, []⟩) _ _ _
    simp only [callAny]
    refine wpAny_bind (wpAny_load hu ?_)
    have hb : (Value.type "method-wrapper" == Value.type "method" || Value.type "method-wrapper" == Value.type "builtin_function_or_method" || Value.type "method-wrapper" == Value.type "method-wrapper") = true := by decide
    simp only [kxs_mw, hb, if_true]
    refine W.KFB.if_so (by decide) ?_
    refine wpAny_bind (PySem.ESX.check_bound F.excBase_ValueError hC he rfl ?_)
    refine wpAny_bind (wpAny_pure (wpAny_pure ?_))
    refine ⟨Code.quiet_builtin _ (by decide +kernel), codeAny_builtin F.excBase_ValueError.initEntry ?_⟩
    rw [Around.under_plainId F.excBase_ValueError.init.plain _]
    wp_walk
    refine hq _ h.objs.size (fun b o hb ho => ?_) ?_
    · rw [Heap.get?_update_other _ _ (Ne.symm hb)]
      exact Heap.get?_push_of_some _ ho
    · rw [Heap.get?_update_self _ (Heap.get?_push_of_some _ he) rfl]
      rfl
end
section
variable {prog : Program} {w : World} {A : Around} {R : Result → Shared → Prop} {s : Shared} {K : Frag} {mg : Str → Option Value} {base : Heap} {C fI : Addr} {t : Txt} {qual : Str} {params : Arguments} {nms : List (Str × NameKind)}
/-- the fields that it sets, the last one first -/
def fieldsOf (nm : Str) (fs : List Str) (vs : List L2.V) : List (Str × L2.V) := ((("code" : Str), L2.V.str nm) :: fs.zip vs).reverse
structure InitOut (h h' : Heap) (x C : Addr) (fs : List (Str × L2.V)) (dx t1 : Addr) : Prop where
  keep : ∀ b o, b ≠ x → h.get? b = some o → h'.get? b = some o
  obj : h'.get? x = some { cls := .ref C, dict := some dx, data := .fields #[.ref t1, .none, .none, .none, .bool false, .none] }
  big : h.objs.size ≤ dx
  ne : dx ≠ x
  ns : ∃ mA, h'.Ns1 dx mA ∧ ∀ f, L2.RelO (fs.lookup f) (mA f)
theorem zlook_not {α : Type} : ∀ {fs : List Str} {us : List α} {f : Str}, f ∉ fs → (fs.zip us).reverse.lookup f = none := fun {fs us f} hn => by
  cases e : (fs.zip us).reverse.lookup f with
  | none => rfl
  | some v =>
    have key : ∀ (l : List (Str × α)), l.lookup f = some v → (f, v) ∈ l := fun l => by
      induction l with
      | nil => intro z; cases z
      | cons p l ih =>
        intro z
        rw [List.lookup_cons] at z
        by_cases h : f = p.1
        · rw [show (f == p.1) = true by simpa using h] at z
          cases z
          rw [h]
          exact List.mem_cons_self ..
        · rw [show (f == p.1) = false by simpa using h] at z
          exact List.mem_cons_of_mem _ (ih z)
    exact absurd (List.of_mem_zip (List.mem_reverse.mp (key _ e))).1 hn
theorem look_app {α : Type} (f : Str) (v : α) : ∀ l : List (Str × α), l.lookup f = none → (l ++ [(f, v)]).lookup f = some v
  | [], _ => by simp [List.lookup]
  | p :: l, h => by
    rw [List.lookup_cons] at h
    rw [List.cons_append, List.lookup_cons]
    cases e : f == p.1 with
    | true => rw [e] at h; cases h
    | false => rw [e] at h; exact look_app f v l h
theorem look_app2 {α : Type} (f g : Str) (v w : α) (hne : f ≠ g) : ∀ l : List (Str × α), l.lookup f = some v → (l ++ [(g, w)]).lookup f = some v
  | [], h => by cases h
  | p :: l, h => by
    rw [List.lookup_cons] at h
    rw [List.cons_append, List.lookup_cons]
    cases e : f == p.1 with
    | true => rw [e] at h; exact h
    | false => rw [e] at h; exact look_app2 f g v w hne l h
theorem zlook {α : Type} : ∀ {fs : List Str} {us : List α} {i : Nat} {f : Str} {u : α}, fs.Nodup → fs[i]? = some f → us[i]? = some u → (fs.zip us).reverse.lookup f = some u
  | [], _, _, _, _, _, h, _ => by simp at h
  | a :: fs, [], _, _, _, _, _, h => by simp at h
  | a :: fs, b :: us, 0, f, u, nd, h1, h2 => by
    simp at h1 h2
    subst h1 h2
    rw [List.zip_cons_cons, List.reverse_cons]
    exact look_app _ _ _ (zlook_not (List.nodup_cons.mp nd).1)
  | a :: fs, b :: us, i + 1, f, u, nd, h1, h2 => by
    rw [List.getElem?_cons_succ] at h1 h2
    have n2 := List.nodup_cons.mp nd
    rw [List.zip_cons_cons, List.reverse_cons]
    exact look_app2 _ _ _ _ (fun z => n2.1 (by rw [← z]; exact List.mem_of_getElem? h1)) _ (zlook n2.2 h1 h2)
theorem rel_get : ∀ {vs : List L2.V} {us : List Value} (h : L2.Vals vs us) {i : Nat} (h1 : i < vs.length) (h2 : i < us.length), L2.RelV vs[i] us[i]
  | _, _, .nil, _, h1, _ => absurd h1 (Nat.not_lt_zero _)
  | _, _, .cons r _, 0, _, _ => r
  | _, _, .cons _ t, i + 1, h1, h2 => rel_get t (by simpa using h1) (by simpa using h2)
/-- a local, by name -/
theorem ld_loc {M : Model} {A : Around} {E : Value → Shared → Prop} {s : Shared} {L a cc : Addr} {cd : Value} {qual : Str} {nms : List (Str × NameKind)} {m : Str → Option Value} {f : Str} {pos : Pos} {u : Value} {Q : Value → Shared → Prop} (hn : s.heap.Ns L m) (hu : m f = some u) (hl : nms.lookup f = some .local) (hd : (f == ("__debug__" : Str)) = false) (h : Q u s) :
    wpAny M A (eval (.Name f pos) (ksEnv qual (scp nms) L a cd cc)) Q E s := wpAny_Name (wpAny_loadName_local rfl hl hn hu h) hd
theorem fields_walk (T : OwnT prog K C fI t qual params nms) {h0 : Heap} {L x t1 dx cc : Addr} {cdv : Value} {m : Str → Option Value} {E : Value → Shared → Prop} {Q : Flow → Shared → Prop} (hLx : L ≠ x) (hself : m "self" = some (.ref x)) (hdL : dx ≠ L) (hdx : dx ≠ x) (hnd : ∀ o, K.lookup dx ≠ some o) :
    ∀ (ps : List ((Str × Pos × Pos × Pos × Pos) × Value × L2.V)) (fsd : List (Str × L2.V)) (mA : Str → Option Value) (s : Shared),
      (∀ p ∈ ps, p.1 ∈ t.fl ∧ m p.1.1 = some p.2.1 ∧ L2.RelV p.2.2 p.2.1) → s.heap.Ns L m → K.In s.heap → s.heap.get? x = some { cls := .ref C, dict := some dx, data := .fields #[.ref t1, .none, .none, .none, .bool false, .none] } → s.heap.Ns1 dx mA → (∀ f, L2.RelO (fsd.lookup f) (mA f)) → fsd.length + ps.length ≤ 900 →
      (∀ b o, b ≠ x → b ≠ dx → h0.get? b = some o → s.heap.get? b = some o) →
      (∀ h' tk' mB, (∀ b o, b ≠ x → b ≠ dx → h0.get? b = some o → h'.get? b = some o) → h'.get? x = some { cls := .ref C, dict := some dx, data := .fields #[.ref t1, .none, .none, .none, .bool false, .none] } → h'.Ns1 dx mB → (∀ f, L2.RelO (((ps.map fun p => (p.1.1, p.2.2)).reverse ++ fsd).lookup f) (mB f)) → Q .next { s with heap := h', toks := tk' }) →
      wpAny (model prog w) A (execs (asg (ps.map (·.1))) (ksEnv qual (scp nms) L fI cdv cc)) Q E s
  | [], fsd, mA, s, _, hns, X, hx, hn, rel, _, keep, k => by
    show wpAny _ _ (execs [] _) _ _ _
    exact wpAny_execs_nil (k _ s.toks mA keep hx hn (by simpa using rel))
  | ((f, a, b, c, d), u, v) :: ps, fsd, mA, s, hp, hns, X, hx, hn, rel, hl, keep, k => by
    obtain ⟨hmem, hmu, ruv⟩ := hp _ (List.mem_cons_self ..)
    have hf : f ∈ t.fs := List.mem_map.mpr ⟨_, hmem, rfl⟩
    obtain ⟨nmc, q, N, bs, bm, sn, sub, ab, col, dd, k0, k1, k2, k3, k5, hC, hbm⟩ := T.c.cls
    have hcl : clsIn K C = some { name := nmc, bases := bs, mro := .ref C :: bm, ns := N, qualname := q, hasDict := true, slotNames := sn, subclasses := sub, abstract := ab, collection := col, hasDel := false } := by unfold clsIn; rw [hC] <;> rfl
    show wpAny _ _ (execs (Stmt.Assign [.Attribute (.Name "self" a) f b] (.Name f c) d :: asg (ps.map (·.1))) _) _ _ _
    refine wpAny_execs_cons (plainObj_wpAny_Assign_Attribute ?_ (T.sw2 _ _ _ _ _ hmem))
    refine ld_loc hns hmu (T.scl _ (List.mem_cons_of_mem _ hf)) (T.dbg _ hf) (ld_loc hns hself (T.scl _ (List.mem_cons_self ..)) (by decide) ?_)
    have hw := L2.within_of rel
    obtain ⟨oD, _, _, hoD, _, _⟩ := hn.count hw
    refine set_plain X (ox := { cls := .ref C, dict := some dx, data := .fields #[.ref t1, .none, .none, .none, .bool false, .none] }) (od := some oD) ⟨hx, rfl, rfl, hoD⟩ T.c.sa ?_
    obtain ⟨hp', g', d', tk', os'⟩ := s
    refine PySem.OEX.osa_old X hx hn hw (by rw [List.length_map]; simp at hl; omega) hcl (show refsVE (.ref C :: bm) = true from hbm) rfl (T.no _ (List.mem_cons_of_mem _ hf)) (fun h' tk2 kk hn2 => ?_)
    show wpAny _ _ (execs (asg (ps.map (·.1))) _) _ _ _
    have X' : K.In h' := fun z o e => kk z o (fun y => hnd o (by rw [← y]; exact e)) (X z o e)
    refine fields_walk T hLx hself hdL hdx hnd ps ((f, v) :: fsd) _ _ (fun p hp2 => hp p (List.mem_cons_of_mem _ hp2)) (hns.at fun o e => kk _ _ (Ne.symm hdL) e) X' (kk _ _ (Ne.symm hdx) hx) hn2 (L2.relO_put ruv rel) (by simp at hl ⊢; omega) (fun z o n1 n2 e => kk _ _ n2 (keep z o n1 n2 e)) (fun h2 tk3 mB kp2 hx2 hn3 rel3 => k h2 tk3 mB kp2 hx2 hn3 (fun g => ?_))
    have z := rel3 g
    rw [List.map_cons, List.reverse_cons, List.append_assoc]
    exact z
theorem own_init (T : OwnT prog K C fI t qual params nms) (Mo : L2.Mod K mg base) (kb : ∀ b o, base.get? b = some o → s.heap.get? b = some o) (hsup : mg "super" = none) {x t0 : Addr} {us : List Value} {vs : List L2.V} (hv : L2.Vals vs us) (hl : us.length = t.fs.length) (hx : s.heap.get? x = some (excO C t0)) (hnx : ∀ o, K.lookup x ≠ some o) (hroom : A.depth < recursionLimit) (hlim : s.heap.NoLimit)
    (hq : ∀ h' tk dx t1, InitOut s.heap h' x C (fieldsOf t.nm t.fs vs) dx t1 → R (.ok (.ret .none)) { s with heap := h', toks := tk }) :
    codeAny (model prog w) A (.call (.ref fI) ⟨.ref x :: us, []⟩) R s := by
  obtain ⟨oc, od, doc, pm, an, cda, ct, cc, osl, ho, hcd, ⟨ccl, cdd, ccs, vz, file, tf, hcode, hvz, hfile⟩, cl, cld, csl, hcell⟩ := T.fn
  obtain ⟨nmc, q, N, bs, bm, sn, sub, ab, col, dd, k0, k1, k2, k3, k5, hC, hbm⟩ := T.c.cls
  have hcl : clsIn K C = some { name := nmc, bases := bs, mro := .ref C :: bm, ns := N, qualname := q, hasDict := true, slotNames := sn, subclasses := sub, abstract := ab, collection := col, hasDel := false } := by unfold clsIn; rw [hC] <;> rfl
  have X : K.In s.heap := fun a o e => kb _ _ (Mo.kin _ _ e)
  have hb : BindsTo s (ksFn "__init__" qual params t.body (scp nms) .none .none doc pm an (.ref cda) ct cc) ⟨.ref x :: us, []⟩ ((("self" : Str) :: t.fs).zip (.ref x :: us)) := BindsTo.of_eq (T.bnd doc pm an cda ct cc (.ref x :: us) (by rw [List.length_cons, hl]))
  refine ks_codeAny_call_defAt (fd := ksFn "__init__" qual params t.body (scp nms) .none .none doc pm an (.ref cda) ct cc) (body := t.body) (binds := (("self" : Str) :: t.fs).zip (.ref x :: us)) hroom (X _ _ ho) rfl hlim (codeRec_of X hcd) rfl hb T.cel (fun y hy => ?_) (fun h₁ hns k₁ => ?_)
  · exact T.scl _ (List.of_mem_zip hy).1
  have X1 : K.In h₁ := fun a o e => k₁ _ _ (X a o e)
  have hx1 := k₁ _ _ hx
  have kb1 : ∀ b o, base.get? b = some o → h₁.get? b = some o := fun b o e => k₁ _ _ (kb b o e)
  obtain ⟨pl, he⟩ := T.mth s.heap.objs.size fI (.ref cda) cc
  show _root_.PySem.wpAt _ _ _ (execs (Stmt.Expr (supCall t) _ :: _) (ksEnv qual (scp nms) s.heap.objs.size fI (.ref cda) cc)) _ _ _
  refine ks_wpAt_execs_cons (ks_wpAt_Expr_any (ks_wpAt_MethodCall (pl := pl) ?sup he) rfl (T.sw0 _ _ _ _))
  case sup =>
    obtain ⟨ar, har, hself⟩ : ∃ ar, (params.posonlyargs ++ params.args).head? = some ar ∧ ar.arg = ("self" : Str) := by
      have z := T.first
      cases e : (params.posonlyargs ++ params.args).head? with
      | none => rw [e] at z; cases z
      | some ar => rw [e] at z; exact ⟨ar, rfl, Option.some.inj z⟩
    obtain ⟨mb, hb1, hb2⟩ := Mo.blt
    refine ks_wpAt_super_base (env := ksEnv qual (scp nms) s.heap.objs.size fI (.ref cda) cc) T.scs T.scc (by decide) rfl (k₁ _ _ (X _ _ ho)) rfl har rfl (X1 _ _ hcode) rfl hvz hfile T.top ?_
    refine ks_loadName_global rfl T.scs (loadGlobal_builtin (env := ksEnv qual (scp nms) s.heap.objs.size fI (.ref cda) cc) (Mo.glob.keeps kb1) hsup (hb1.keeps kb1) (hb2 _ (by decide +kernel)) ⟨rfl, ?_⟩)
    refine wpAny_loadName_free rfl T.scc rfl ⟨_, X1 _ _ hcell, rfl⟩ ?_
    rw [hself]
    refine wpAny_loadName_local rfl (T.scl _ (List.mem_cons_self ..)) hns (v := .ref x) (zlook (i := 0) T.nd rfl rfl) ?_
    refine ks_wpAny_isType_cls (X1 _ _ hC) rfl ⟨rfl, ?_⟩
    refine ks_wpAny_call_super (X1 _ _ hC) rfl hx1 rfl (fun c e => by cases e) (looks_mroIn X1 T.own) (fun h2 e2 k2 => ?_)
    have X2 : K.In h2 := fun a o e => k2 _ _ (X1 a o e)
    have X2' : K.In (h2.push (kxs_mw "ValueError.__init__" x)) := fun a o e => Heap.get?_push_of_some _ (X2 _ _ e)
    have I2 : InstAt h2 x (excO C t0) C none := ⟨k2 _ _ hx1, rfl, rfl, trivial⟩
    have hini := T.ini
    unfold ks_superIn at hini
    rw [hcl] at hini
    refine kxs_getMethod kxs_ValueError e2 (looks_opaque X2 T.opq) (l₀ := .ref C :: bm) ((looks_clsIn X2 hcl).andThen .now) rfl X2 hini (I2.type.andThen (looks_subIn X2 T.sub)) (ks_ne X2 I2 hcl) (by decide) ?_
    have hst : starEach [Expr.Constant (Const.str t.txt) t.kk t.p3] (ksEnv qual (scp nms) s.heap.objs.size fI (.ref cda) cc) = (false, eval (Expr.Constant (Const.str t.txt) t.kk t.p3) (ksEnv qual (scp nms) s.heap.objs.size fI (.ref cda) cc)) :: starEach [] (ksEnv qual (scp nms) s.heap.objs.size fI (.ref cda) cc) := rfl
    show wpAny _ _ (callWith _ (.ref h2.objs.size) [] _ _) _ _ _
    rw [hst]
    refine kxs_callWith (i := "ValueError.__init__") (x := x) rfl (evalArgs_plain ?_)
    refine spliced_cons (show wpAny _ _ (eval (Expr.Constant (Const.str t.txt) t.kk t.p3) _) _ _ _ from wpAny_Constant_str (spliced_nil ?_))
    have hu : (h2.push (kxs_mw "ValueError.__init__" x)).get? h2.objs.size = some (kxs_mw "ValueError.__init__" x) := Heap.get?_push_size h2 rfl
    refine ⟨hu, call_vw (X2' _ _ hC) (Heap.get?_push_of_some _ (k2 _ _ hx1)) hu (by rw [sizeLine_eq]; exact (by decide : 1 ≤ 16777216)) fun h3 t3 k3 e3 => ?_⟩
    have X3 : K.In h3 := fun a o e => by
      by_cases z : a = x
      · subst z
        have y := X _ _ e
        rw [hx] at y
        cases y
        exact absurd e (hnx _)
      · exact k3 _ _ z (X2' _ _ e)
    show _root_.PySem.wpAt _ _ _ (execs (Stmt.Assign [.Attribute (.Name "self" t.q1) "code" t.q2] (.Constant (.str t.nm) t.kc t.q3) t.q4 :: asg t.fl) _) _ _ _
    refine wpAt_of_wpAny (wpAny_execs_cons (plainObj_wpAny_Assign_Attribute (wpAny_Constant_str ?_) (T.sw1 _ _ _ _)))
    have hLx : s.heap.objs.size ≠ x := Nat.ne_of_gt (Heap.lt_size hx)
    have hns3 : h3.Ns s.heap.objs.size (fun y => ((("self" : Str) :: t.fs).zip (.ref x :: us)).reverse.lookup y) := (hns.at fun o e => k2 _ _ e).at fun o e => k3 _ _ hLx (Heap.get?_push_of_some _ e)
    have mself : List.lookup ("self" : Str) ((("self" : Str) :: t.fs).zip (Value.ref x :: us)).reverse = some (Value.ref x) := zlook (i := 0) T.nd rfl rfl
    refine ld_loc hns3 mself (T.scl _ (List.mem_cons_self ..)) (by decide) ?_
    refine set_plain X3 (ox := excO C t3) (od := none) ⟨e3, rfl, rfl, trivial⟩ T.c.sa ?_
    refine exc_osa X3 e3 hcl (show refsVE (.ref C :: bm) = true from hbm) rfl (T.no _ (List.mem_cons_self ..)) (fun h4 tk4 dx k4 dn dne hx4 hn4 => ?_)
    have keep0 : ∀ b o, b ≠ x → s.heap.get? b = some o → h3.get? b = some o := fun b o n e => k3 _ _ n (Heap.get?_push_of_some _ (k2 _ _ (k₁ _ _ e)))
    have big : s.heap.objs.size < dx := by
      have l1 := Heap.lt_size (show h3.get? s.heap.objs.size = some _ from hns3.choose_spec.choose_spec.choose_spec.1)
      exact Nat.lt_of_lt_of_le l1 dn
    have X4 : K.In h4 := fun a o e => k4 _ _ (fun z => hnx o (by rw [← z]; exact e)) (X3 _ _ e)
    have hvl : vs.length = t.fs.length := (Paired.length hv).trans hl
    have key : (t.fl.zip (us.zip vs)).map (·.1) = t.fl := by
      rw [List.map_fst_zip]
      rw [List.length_zip, hvl, hl]
      show t.fl.length ≤ min (t.fl.map (·.1)).length (t.fl.map (·.1)).length
      simp
    have key2 : ∀ (fl : List (Str × Pos × Pos × Pos × Pos)) (us : List Value) (vs : List L2.V), us.length = fl.length → vs.length = fl.length → (fl.zip (us.zip vs)).map (fun p => (p.1.1, p.2.2)) = (fl.map (·.1)).zip vs := fun fl => by
      induction fl with
      | nil => intro us vs _ _; rfl
      | cons y fl ih =>
        intro us vs h1 h2
        match us, vs with
        | u :: us, v :: vs => simp only [List.zip_cons_cons, List.map_cons, ih us vs (by simpa using h1) (by simpa using h2)]
        | [], _ => simp at h1
        | _, [] => simp at h2
    rw [← key]
    have lfs : t.fs.length = t.fl.length := by unfold Txt.fs; rw [List.length_map]
    refine fields_walk T (h0 := s.heap) (m := fun y => List.lookup y (((("self" : Str) :: t.fs).zip (Value.ref x :: us)).reverse)) hLx mself (Nat.ne_of_gt big) dne (fun o e => ?_) (t.fl.zip (us.zip vs)) [(("code" : Str), L2.V.str t.nm)] _ _ (fun p hp => ?_) (hns3.at fun o e => k4 _ _ hLx e) X4 hx4 hn4 (fun f => ?_) ?_ (fun b o n1 _ e => k4 _ _ n1 (keep0 b o n1 e)) (fun h' tk' mB kp hx5 hn5 rel5 => ?_)
    · have z := X3 _ _ e
      exact absurd (Heap.lt_size z) (Nat.not_lt.mpr dn)
    · obtain ⟨i, hi, hpi⟩ := List.mem_iff_getElem.mp hp
      rw [List.length_zip, List.length_zip, hvl, hl, lfs] at hi
      have i1 : i < t.fl.length := by omega
      have i2 : i < us.length := by omega
      have i3 : i < vs.length := by omega
      rw [List.getElem_zip, List.getElem_zip] at hpi
      subst hpi
      refine ⟨List.getElem_mem i1, zlook (i := i + 1) T.nd ?_ ?_, rel_get hv i3 i2⟩
      · show (t.fl.map (·.1))[i]? = _
        rw [List.getElem?_map, List.getElem?_eq_getElem i1]
        rfl
      · show us[i]? = _
        exact List.getElem?_eq_getElem i2
    · exact L2.relO_put (f := ("code" : Str)) (y := L2.V.str t.nm) (fs := []) (mA := fun _ => none) (show L2.RelV (L2.V.str t.nm) (Value.str t.nm _) from ⟨_, rfl⟩) (fun g => True.intro) f
    · simp
      have := T.few
      omega
    · rw [key2 t.fl us vs (by rw [hl, lfs]) (by rw [hvl, lfs])] at rel5
      refine hq h' tk' dx t3 ⟨fun b o n e => kp b o n (fun z => ?_) e, hx5, Nat.le_of_lt big, dne, mB, hn5, fun f => ?_⟩
      · rw [z] at e
        exact absurd (Heap.lt_size e) (Nat.not_lt.mpr (Nat.le_of_lt big))
      · have y := rel5 f
        unfold fieldsOf
        rw [List.reverse_cons]
        exact y
/-- C(..), made -/
theorem own_made (T : OwnT prog K C fI t qual params nms) (Mo : L2.Mod K mg base) (kb : ∀ b o, base.get? b = some o → s.heap.get? b = some o) (hsup : mg "super" = none) {us : List Value} {vs : List L2.V} (hv : L2.Vals vs us) (hl : us.length = t.fs.length) (hroom : A.depth + 1 < recursionLimit) (hlim : s.heap.NoLimit)
    (hq : ∀ h' tk e d t1, (∀ b o, s.heap.get? b = some o → h'.get? b = some o) → s.heap.objs.size ≤ e → h'.get? e = some { cls := .ref C, dict := some d, data := .fields #[.ref t1, .none, .none, .none, .bool false, .none] } → s.heap.objs.size ≤ d → d ≠ e →
      (∃ mA, h'.Ns1 d mA ∧ ∀ f, L2.RelO ((fieldsOf t.nm t.fs vs).lookup f) (mA f)) → R (.ok (.ret (.ref e))) { s with heap := h', toks := tk }) :
    codeAny (model prog w) A (.call (.ref C) ⟨us, []⟩) R s := by
  obtain ⟨nmc, q, N, bs, bm, sn, sub, ab, col, dd, k0, k1, k2, k3, k5, hC, hbm⟩ := T.c.cls
  have X : K.In s.heap := fun a o e => kb _ _ (Mo.kin _ _ e)
  obtain ⟨hp, g, dr, tk, os⟩ := s
  have up : ∀ b o, hp.get? b = some o → ((hp.push (kdv_tup us)).push (excO C hp.objs.size)).get? b = some o := fun b o e => Heap.get?_push_of_some _ (Heap.get?_push_of_some _ e)
  have hget : ((hp.push (kdv_tup us)).push (excO C hp.objs.size)).get? (hp.objs.size + 1) = some (excO C hp.objs.size) := by heap_get
  have hnx : ∀ o, K.lookup (hp.objs.size + 1) ≠ some o := fun o e => absurd (Heap.lt_size (X _ _ e)) (Nat.not_lt.mpr (Nat.le_succ _))
  have few : us.length ≤ sizeLine := by
    have := T.few
    rw [hl, sizeLine_eq]
    omega
  refine call_own F.excBase_ValueError (fun Y => refsVE_contains Y bm hbm) (X _ _ hC) (looks_findIn X T.iC) (fun self => bind_fn X self T.tI) few ?_
  refine own_init (s := ⟨(hp.push (kdv_tup us)).push (excO C hp.objs.size), g, dr, tk, os⟩) T Mo (fun b o e => up _ _ (kb b o e)) hsup hv hl hget hnx (show A.depth + 1 < recursionLimit from hroom) (hlim.keeps up) fun h' tk' dx t1 O => ?_
  have sz : hp.objs.size + 1 + 1 ≤ dx := by
    have z := O.big
    simpa only [Heap.size_push] using z
  exact ⟨rfl, hq h' tk' (hp.objs.size + 1) dx t1 (fun b o e => O.keep b o (Nat.ne_of_lt (Nat.lt_succ_of_lt (Heap.lt_size e))) (up b o e)) (Nat.le_succ _) O.obj (Nat.le_trans (Nat.le_trans (Nat.le_succ _) (Nat.le_succ _)) sz) O.ne O.ns⟩
end
end ExS
namespace L2
open PySem PySem.Spec PyProof.Rows ExS
section
variable {X : Cx} {C fI : Addr} {t : Txt} {qual : Str} {params : Arguments} {nms : List (Str × NameKind)}
/-- C(..): an exception of the class at C, its fields in a dict -/
def tMkS (C : Addr) (nm : Str) (fs : List Str) (ta : TA) : St → Hp → XK → Prop := fun σ H Q => ta σ H fun vs H1 => vs.length = fs.length ∧ ∀ d, H1 d = none → Q (.ref C) (some d) (upd H1 d (.xd (fieldsOf nm fs vs)))
theorem pmk_sup {e : Expr} {es : List Expr} {ta : TA} {x : Str} {p pos : Pos} {k : Nat} (T : OwnT X.prog X.K C fI t qual params nms) (hsup : X.mg "super" = none) (hr : Room k X.A) (ha : PA X (e :: es) ta) (hg : Gl X x) (hm : X.mg x = some (.ref C)) (hdb : (x == ("__debug__" : Str)) = false := by decide)
    (he : starEach (e :: es) X.env = (false, eval e X.env) :: starEach es X.env := by rfl) (hpl : (backTo pos (starEach es X.env)).any (·.1) = false := by rfl) :
    PMk X (.Call (.Name x p) (e :: es) [] pos) (tMkS C t.nm t.fs ta) := by
  intro pins s σ H Q I h
  refine wpAny_Call_Name_kw (ld_glob I hg hm ?_ hdb)
  refine PySem.W.callWith_K (h₀ := X.base) I.ok.mod.kin T.c.kC (thn (ha.run pos pins s σ H _ I h) fun us s1 ⟨vs, H1, I1, r1, hz, q1⟩ => ⟨I1.kIn, ?_⟩) he hpl
  show wpAny _ _ (call (.ref C) us) _ _ _
  have hlim := I1.nolimit
  have kb := I1.bk
  have hl : us.length = t.fs.length := (Paired.length r1).symm.trans hz
  obtain ⟨hp, g, dr, tk, os⟩ := s1
  refine wpAny_call (own_made (s := ⟨hp, g, dr, tk, os⟩) T I1.mod kb hsup r1 hl (by have := hr.dp; omega) hlim fun h' tk' e d t1 keep new hoe dbig dne ⟨mA, hns, rel⟩ => ?_)
  show MkP X pins σ Q (.ref e) ⟨h', g, dr, tk', os⟩
  obtain ⟨G', g1, g2⟩ := restrict h' fun b => decide (b ≠ e)
  have gk : ∀ b, b ≠ e → G'.get? b = h'.get? b := fun b hb => g1 b (decide_eq_true hb)
  have ge : G'.get? e = none := g2 e (by simp)
  have old : ∀ b o, hp.get? b = some o → G'.get? b = some o := fun b o q => (gk b (Nat.ne_of_lt (Nat.lt_of_lt_of_le (Heap.lt_size q) new))).trans (keep b o q)
  have ob : ObjOk X.prog X.w (upd H1 d (.xd (fieldsOf t.nm t.fs vs))) G' d (.xd (fieldsOf t.nm t.fs vs)) := ⟨mA, hns.at (fun o q => (gk d dne).trans q), rel⟩
  have J : Inv X pins σ (upd H1 d (.xd (fieldsOf t.nm t.fs vs))) ⟨G', g, dr, tk', os⟩ := I1.laid (t' := tk') old dbig ob
  refine ⟨e, _, _, ⟨G', g, dr, tk', os⟩, _, .ref C, some d, rfl, J, fun b o q => ?_, ge, hoe, ⟨rfl, rfl⟩, rfl, rfl, ?_, rfl, I1.bare, raises_own T.c.exC T.c.tyC, q1 d (I1.hok.fresh dbig)⟩
  · by_cases hb : b = e
    · have q' : G'.get? b = some o := q
      rw [hb, ge] at q'
      cases q'
    · exact (gk b hb).symm.trans q
  · rw [upd_ne (Ne.symm dne)]
    exact I1.hok.fresh new
end
end L2
namespace HeO
open PySem PySem.Spec PyProof.Rows L2 ExS
/-- what the text of an __init__ must say -/
structure TxtOk (P : Program) (t : Txt) (qual : Str) (params : Arguments) (nms : List (Str × NameKind)) : Prop where
  top : (P.main.scope.names.lookup ("super" : Str)).isSome = false
  first : (params.posonlyargs ++ params.args).head?.map (·.arg) = some ("self" : Str)
  bnd : ∀ (doc pm : Value) (an : Option Addr) (cda : Addr) (ct : Value) (cc : Addr) (us : List Value), us.length = t.fs.length + 1 → bindArgs (PySem.W.ksFn "__init__" qual params t.body (scp nms) .none .none doc pm an (.ref cda) ct cc) ⟨us, []⟩ = pure ((("self" : Str) :: t.fs).zip us)
  scs : nms.lookup ("super" : Str) = some .globalImplicit
  scc : nms.lookup ("__class__" : Str) = some .free
  scl : ∀ f ∈ ("self" : Str) :: t.fs, nms.lookup f = some .local
  cel : ∀ x ∈ nms, x.2 ≠ .cell
  mth : ∀ (L a : Addr) (cd : Value) (cc : Addr), ∃ pl : Sem Bool, eval (supCall t) (PySem.W.ksEnv qual (scp nms) L a cd cc) = (do
    let ov ← attributeBase (.Call (.Name "super" t.p0) [] [] t.p1) "__init__" (PySem.W.ksEnv qual (scp nms) L a cd cc) (eval (.Call (.Name "super" t.p0) [] [] t.p1) (PySem.W.ksEnv qual (scp nms) L a cd cc))
    standAt t.p2.atName
    let (f, first) ← holding [ov] (getMethod ov "__init__" pl)
    callWith t.p4 f first (backTo t.p4 (starEach [.Constant (.str t.txt) t.kk t.p3] (PySem.W.ksEnv qual (scp nms) L a cd cc))) [])
  sw0 : ∀ (L a : Addr) (cd : Value) (cc : Addr), swapsWith (supCall t) none t.p5.line (PySem.W.ksEnv qual (scp nms) L a cd cc) = pure false
  sw1 : ∀ (L a : Addr) (cd : Value) (cc : Addr), swapsWith (.Constant (.str t.nm) t.kc t.q3) (some (.Attribute (.Name "self" t.q1) "code" t.q2)) t.q4.line (PySem.W.ksEnv qual (scp nms) L a cd cc) = pure false
  sw2 : ∀ (L a : Addr) (cd : Value) (cc : Addr), ∀ y ∈ t.fl, swapsWith (.Name y.1 y.2.2.2.1) (some (.Attribute (.Name "self" y.2.1) y.1 y.2.2.1)) y.2.2.2.2.line (PySem.W.ksEnv qual (scp nms) L a cd cc) = pure false
  nd : (("self" : Str) :: t.fs).Nodup
  few : t.fs.length ≤ 20
  dbg : ∀ f ∈ t.fs, (f == ("__debug__" : Str)) = false
theorem own_of {K : PySem.W.Frag} {d : InD} {file : Str} {P : Program} (e : inObs K d.x = d.val) (q : ownB K d.x d.qual file d.t.fs = true) (hf : ((P.main.file : Str) == file) = true) (T : TxtOk P d.t d.qual d.params d.nms) : OwnT P K (He.ga K d.x) (fI K d.x) d.t d.qual d.params d.nms := by
  obtain ⟨h1, q⟩ := ba q
  obtain ⟨h2, q⟩ := ba q
  obtain ⟨h3, q⟩ := ba q
  obtain ⟨h4, q⟩ := ba q
  obtain ⟨h5, q⟩ := ba q
  obtain ⟨h6, q⟩ := ba q
  obtain ⟨h7, q⟩ := ba q
  obtain ⟨h8, h9⟩ := ba q
  exact ⟨oexB_ok h1, init_ok e h2 hf, He.eqO_ok h3, of_decide_eq_true h4, He.eqO_ok h5, He.eqO_ok h6, of_decide_eq_true h7, of_decide_eq_true h8, fun f hf => He.eqO_ok (List.all_eq_true.mp h9 f hf),
    T.top, T.first, T.bnd, T.scs, T.scc, T.scl, T.cel, T.mth, T.sw0, T.sw1, T.sw2, T.nd, T.few, T.dbg⟩
end HeO
/-! try: .. except C as e (or a tuple of classes): the exception stays tracked. -/
namespace L2
open PySem PySem.Spec PyProof.Rows
/-- at a: this very object -/
def exq (a : Addr) (oe : Obj) : HO := .ext fun h => h.get? a = some oe
section
variable {X : Cx} {pins : List (Addr × Obj)} {σ : St} {H : Hp} {s : Shared} {a : Addr} {oe : Obj} {vs : Array Value}
theorem exq_ok {P : Program} {w : World} {H : Hp} {h : Heap} (e : h.get? a = some oe) : ObjOk P w H h a (exq a oe) := ⟨e, ⟨_, e⟩, fun _ _ z k => k _ z⟩
/-- an exception that nobody tracks is tracked from now on -/
theorem Inv.track (I : Inv X pins σ H s) (he : s.heap.get? a = some oe) (hd : oe.data = .fields vs) (na : H a = none) (nL : a ≠ X.env.locals) (new0 : ∀ o, X.s_0.heap.get? a ≠ some o) (np : ∀ p ∈ X.pn ++ pins, p.1 ≠ a) : Inv X pins σ (upd H a (exq a oe)) s := by
  have other : ∀ {b : Addr} {o : HO}, H b = some o → b ≠ a := fun {b o} e z => by
    rw [z, na] at e
    cases e
  refine ⟨I.ok, I.os, I.bare, ⟨I.base.keep, I.base.slot, fun b o e n hx => ?_, I.base.there, fun b xs e => ?_, fun b o u e => ?_, fun b ps e => ?_⟩, I.loc, I.cell, ?_, fun y c e => ?_, fun p hp => ?_, fun b o e => ?_, I.len⟩
  · rw [upd_ne (fun z => new0 o (by rw [← z]; exact e))]
    exact I.base.free b o e n hx
  · have q := I.base.tups b xs e
    rw [upd_ne (other q)]
    exact q
  · have q := I.base.frzs b o u e
    rw [upd_ne (other q)]
    exact q
  · obtain ⟨more, q⟩ := I.base.tbls b ps e
    exact ⟨more, by rw [upd_ne (other q)]; exact q⟩
  · rw [upd_ne (Ne.symm nL)]
    exact I.free
  · have nc : c ≠ a := fun z => by
      obtain ⟨v, hv⟩ := I.cell y c e
      obtain ⟨o, ho, hdat⟩ := hv
      rw [z, he] at ho
      cases ho
      rw [hd] at hdat
      cases hdat
    rw [upd_ne nc]
    exact I.freeC y c e
  · obtain ⟨p1, p2, p3⟩ := I.pin p hp
    exact ⟨p1, by rw [upd_ne (np p hp)]; exact p2, p3⟩
  · by_cases hb : b = a
    · subst hb
      rw [upd_same] at e
      cases e
      exact exq_ok he
    · rw [upd_ne hb] at e
      exact (I.hok b o e).stay (fun _ _ _ q => q) (fun c q => by rw [upd_ne (other q)]; exact q) (fun c xs q => by rw [upd_ne (other q)]; exact q)
/-- into an except suite, the exception tracked or not -/
theorem Inv.toSuite (I : Inv X pins σ H s) (a : Addr) : Inv (X.suite a (X.pn ++ pins)) [] σ H s :=
  ⟨I.ok.suite _ _, I.os, I.bare, I.base, I.loc, I.cell, I.free, I.freeC, fun p hp => I.pin p (by rw [List.append_nil] at hp; exact hp), I.hok, I.len⟩
theorem Inv.ofSuite {pn' : List (Addr × Obj)} (I : Inv (X.suite a (X.pn ++ pins)) pn' σ H s) (ok : X.Ok) : Inv X pins σ H s :=
  ⟨ok, I.os, I.bare, I.base, I.loc, I.cell, I.free, I.freeC, fun p hp => I.pin p (List.mem_append_left _ hp), I.hok, I.len⟩
theorem fly_more {B h h' : Heap} {l : List Env} {Z : Obj → Prop} (F : HandSPX.FlyingZ B l a Z h) (k : ∀ b o, h.get? b = some o → h'.get? b = some o) : HandSPX.FlyingZ B l a Z h' := by
  obtain ⟨f1, f2, f3, oe, vs, T, oT, ts, e1, e2, e3, e4, e5, e6, e7, e8, e9⟩ := F
  exact ⟨fun b o e => k _ _ (f1 b o e), f2, f3.of_keeps fun b o e _ => ⟨o, k _ _ e, rfl⟩, oe, vs, T, oT, ts, k _ _ e1, e2, e3, e4, e5, e6, k _ _ e7, e8, e9⟩
end
/-- the test of an except clause: classes in cm are caught by it -/
def TestOk (X : Cx) (test : Expr) (cm : Value → Prop) : Prop :=
  ∀ (a : Addr) (pn : List (Addr × Obj)) (σ : St) (H : Hp) (s : Shared) (oe : Obj), Inv (X.suite a pn) [] σ H s → s.heap.get? a = some oe → cm oe.cls → ∀ (Q : Value → Shared → Prop) (E : Value → Shared → Prop),
    (∀ c h' tk', (∀ b o, s.heap.get? b = some o → h'.get? b = some o) → PySem.W.Looks (model X.prog X.w) h' (excMatches (.ref a) c) true → Q c { s with heap := h', toks := tk' }) → wpAny (model X.prog X.w) (X.A.mark (some (.ref a))) (eval test X.env) Q E s
section
variable {X : Cx} {x y z : Str} {c c1 c2 c3 : Value} {p1 p2 p3 pos : Pos} {kk : Nat}
theorem nm_ld {a : Addr} {pn : List (Addr × Obj)} {σ : St} {H : Hp} {s : Shared} (hc : Names X x c) (S : Inv (X.suite a pn) [] σ H s) {Q : Value → Shared → Prop} {E : Value → Shared → Prop} (q : Q c s) : wpAny (model X.prog X.w) (X.A.mark (some (.ref a))) (eval (.Name x pos) X.env) Q E s := by
  obtain ⟨hg, hdbg, hm | ⟨hm, hv, hnn⟩⟩ := hc
  · exact ld_glob (X := X.suite a pn) S hg hm q hdbg
  · exact ld_blt (X := X.suite a pn) S hg hm hv q hnn hdbg
theorem test_name (hc : Names X x c) : TestOk X (.Name x pos) (fun cls => PySem.W.exmOne X.K cls c = some true) := fun a pn σ H s oe S he hcm Q E k => by
  have LT : PySem.W.Looks (model X.prog X.w) s.heap (typeOf (.ref a)) oe.cls := fun A Q E s k q => wpAny_typeOf_ref (k _ _ he) q
  exact nm_ld hc S (k c s.heap s.toks (fun _ _ q => q) (PySem.W.exm_one S.kIn LT hcm))
theorem test_tup3 (h1 : Names X x c1) (h2 : Names X y c2) (h3 : Names X z c3) (hst : starEach [.Name x p1, .Name y p2, .Name z p3] X.env = [(false, eval (.Name x p1) X.env), (false, eval (.Name y p2) X.env), (false, eval (.Name z p3) X.env)] := by rfl) :
    TestOk X (.Tuple [.Name x p1, .Name y p2, .Name z p3] kk pos) (fun cls => PySem.W.exmAny X.K cls [c1, c2, c3] = some true) := fun a pn σ H s oe S he hcm Q E k => by
  have up : ∀ b o, s.heap.get? b = some o → (s.heap.push { cls := .type "tuple", data := .seq [c1, c2, c3].toArray }).get? b = some o := fun b o e => Heap.get?_push_of_some _ e
  have LT : PySem.W.Looks (model X.prog X.w) (s.heap.push { cls := .type "tuple", data := .seq [c1, c2, c3].toArray }) (typeOf (.ref a)) oe.cls := fun A Q E s k q => wpAny_typeOf_ref (k _ _ (up _ _ he)) q
  refine wpAny_Tuple_spliced ?_
  rw [hst]
  refine Calls.spliced_cons (nm_ld h1 S (Calls.spliced_cons (nm_ld h2 S (Calls.spliced_cons (nm_ld h3 S (Calls.spliced_nil ?_))))))
  refine ⟨by rw [sizeLine_eq]; exact (by decide : 3 ≤ 16777216), k _ _ s.toks up ?_⟩
  exact PySem.W.exm_tup3 (fun b o e => up _ _ (S.kIn _ _ e)) LT (Heap.get?_push_size _ rfl) hcm
end
/-- what the clause 'except .. as n' wishes of an exception of the body: it is caught; slot i is n's -/
def wT (cm : Value → Prop) (i : Nat) (ts : TS) (D : Ends) : WX := fun cls d σ H => cm cls ∧ ∀ (a : Addr) (oe : Obj) (vs : Array Value), H a = none → Zc cls d oe → oe.data = .fields vs →
  ts { nx := fun τ H' => D.nx (τ.set i none) H', rt := D.rt, bk := fun τ H' => D.bk (τ.set i none) H', ct := fun τ H' => D.ct (τ.set i none) H' } (σ.set i (some (.ref a))) (upd H a (exq a oe))
section
variable {X : Cx} {n : Str} {i : Nat} {test : Expr} {cm : Value → Prop} {body suite : List Stmt} {b₀ : Stmt} {pos pos' : Pos} {tb : WX → TS} {ts : TS}
theorem ps_tryT (hs : X.stack = X.env :: X.outer) (hf : X.env.frame = some X.env.locals) (hex : X.ex = []) (hN : X.N.Nodup) (hi : X.N[i]? = some n) (hln : X.env.kindOf n = some .local) (ht : TestOk X test cm)
    (hb : ∀ (W : WX) (pn : List (Addr × Obj)) (xe : Value → Shared → Prop), Takes (X.tr pn xe) W → PassesOwn (model X.prog X.w) X.A X.env xe → PSs (X.tr pn xe) body (tb W))
    (hsu : ∀ (a : Addr) (pn : List (Addr × Obj)), PSs (X.suite a pn) (b₀ :: suite) ts) :
    PS X (.Try body [.ExceptHandler (some test) (some n) (b₀ :: suite) pos'] [] [] pos) (fun D σ H => tb (wT cm i ts D) D σ H) := by
  refine ⟨fun pins s σ H D I h => ?_⟩
  have ok := I.ok
  have hfr : X.A.frames = some (X.env :: X.outer) := ok.frames.trans (by rw [hs])
  let caught : Value → Shared → Prop := fun e s₁ => wpAny (model X.prog X.w) X.A (noteFrame e X.env) (fun _ s₂ => wpAny (model X.prog X.w) X.A (setFlight e none) (fun _ s₃ =>
    wpAny (model X.prog X.w) X.A (handleBy e X.env [.ExceptHandler (some test) (some n) (b₀ :: suite) pos']) (SP X pins D) X.xe s₃) X.xe s₂) X.xe s₁
  have takes : Takes (X.tr (X.pn ++ pins) caught) (wT cm i ts D) := by
    intro u s' xx
    obtain ⟨a, B, sI, pins', σ', H', cls, d, rfl, J', nb, up, sky, na, os, ag, hcm, hyes⟩ := xx
    have J : Inv X pins σ' H' sI := J'.ofTry ok
    have sky' : Sky B (X.env :: X.outer) a (Zc cls d) X.env.locals s'.heap := hs ▸ sky
    show wpAny (model X.prog X.w) X.A (noteFrame (.ref a) X.env) _ _ _
    refine Sky.land Zc.steady hfr hf sky' fun h3 fl3 up3 => ?_
    have J3 : Inv X pins σ' H' { s' with heap := h3 } := J.landed nb fl3.1 (up.trans up3) os ag
    obtain ⟨oe3, vs3, he3, hz3, hd3⟩ := fl3.there
    refine wpAny_handleBy_cons (codeAny_handlers_test ?_) (fun q => by cases q)
    refine ht a (X.pn ++ pins) σ' H' { s' with heap := h3 } oe3 (J3.toSuite a) he3 (hz3.1 ▸ hcm) _ _ (fun c h4 tk4 k4 look => ?_)
    refine look.here ?_
    have fl4 := fly_more fl3 k4
    refine codeAny_handlers_suite_as ?_
    refine HandSPX.lands_againZ fl4 fun h5 fl5 up5 => ?_
    have J5 : Inv X pins σ' H' { s' with heap := h5, toks := tk4 } := by
      have up4 : h3.UpToSlots h4 := fun b o e _ => ⟨o.slots, k4 b o e⟩
      exact J.landed (s' := { s' with heap := h5, toks := tk4 }) nb fl5.1 (((up.trans up3).trans up4).trans up5) os ag
    obtain ⟨oe5, vs5, he5, hz5, hd5⟩ := fl5.there
    have notFr : a ∉ frs (X.env :: X.outer) := fun hm => by
      obtain ⟨_, o', e', hnf⟩ := fl5.2.2.1.mem hm
      rw [he5] at e'
      cases e'
      exact hnf _ hd5
    have nL : a ≠ X.env.locals := fun z => notFr (List.mem_filterMap.mpr ⟨X.env, List.mem_cons_self, by rw [hf, z]⟩)
    have old : ∀ o, sI.heap.get? a ≠ some o := fun o e => by
      have q := nb a o e (by rw [hs]; exact notFr)
      rw [fl5.2.1] at q
      cases q
    have new0 : ∀ o, X.s_0.heap.get? a ≠ some o := fun o e => by
      obtain ⟨o', e'⟩ := J.base.there a o e (by rw [hex]; exact List.not_mem_nil)
      exact old o' e'
    have S := (J5.track he5 hd5 na nL new0 fun p hp z => old p.2 (by rw [← z]; exact (J.pin p hp).1)).toSuite a
    refine store_ok (X := X.suite a (X.pn ++ pins)) (v := .ref a) S hN hi (.inl hln) rfl (fun s6 S6 => ?_) (.inr hln)
    refine wpAny_mono ((hsu a (X.pn ++ pins)).run [] s6 _ _ _ S6 (hyes a oe5 vs5 na hz5 hd5)) (fun f s7 hsp => ?_) (fun _ _ z => z.elim)
    have fin : ∀ {σ6 : St} {H6 : Hp} {Q : Shared → Prop}, Inv (X.suite a (X.pn ++ pins)) [] σ6 H6 s7 → (∀ s8, Inv X pins (σ6.set i none) H6 s8 → Q s8) →
        wpAny (model X.prog X.w) X.A (do bindName X.env n .none; unbindBehindTheSuite X.env n pos') (fun _ s8 => Q s8) X.xe s7 := fun S7 hq => gone_ok (S7.ofSuite ok) hN hi hln hq
    cases f with
    | next => obtain ⟨σ6, H6, S7, q6⟩ := hsp; exact fin S7 fun s8 J8 => ⟨_, _, J8, q6⟩
    | brk => obtain ⟨σ6, H6, S7, q6⟩ := hsp; exact fin S7 fun s8 J8 => ⟨_, _, J8, q6⟩
    | cont => obtain ⟨σ6, H6, S7, q6⟩ := hsp; exact fin S7 fun s8 J8 => ⟨_, _, J8, q6⟩
    | ret u => obtain ⟨v6, σ6, H6, S7, r6, q6⟩ := hsp; exact fin S7 fun s8 J8 => ⟨_, _, _, J8, r6, q6⟩
  refine wpAny_Try_except (wpAny_mono ((hb _ (X.pn ++ pins) caught takes PassesOwn.looking).run [] s σ H D (I.toTry _) h) (fun f s1 hsp => ?_) (fun e s1 he => he))
  cases f with
  | next => obtain ⟨σ1, H1, J1, q⟩ := hsp; exact wpAny_execs_nil ⟨σ1, H1, J1.ofTry ok, q⟩
  | brk => obtain ⟨σ1, H1, J1, q⟩ := hsp; exact ⟨σ1, H1, J1.ofTry ok, q⟩
  | cont => obtain ⟨σ1, H1, J1, q⟩ := hsp; exact ⟨σ1, H1, J1.ofTry ok, q⟩
  | ret u => obtain ⟨v1, σ1, H1, J1, r, q⟩ := hsp; exact ⟨v1, σ1, H1, J1.ofTry ok, r, q⟩
end
/-- an exception of the class at C, its fields fs, tracked at a -/
def ExAt (H : Hp) (a C : Addr) (fs : List (Str × V)) : Prop := ∃ (oe : Obj) (dd : Addr), H a = some (exq a oe) ∧ Zc (.ref C) (some dd) oe ∧ (∃ vs, oe.data = .fields vs) ∧ H dd = some (.xd fs)
theorem exq_at {P : Program} {w : World} {H : Hp} {h : Heap} {a : Addr} {oe : Obj} (ok : HOk P w H h) (e : H a = some (exq a oe)) : h.get? a = some oe := by
  have x : ObjOk P w H h a (.ext fun h => h.get? a = some oe) := ok a _ e
  exact x.1
section
variable {X : Cx}
theorem ex_inst {pins : List (Addr × Obj)} {σ : St} {H : Hp} {s : Shared} {a C : Addr} {fs : List (Str × V)} (I : Inv X pins σ H s) (e : ExAt H a C fs) :
    ∃ (oe od : Obj) (mA : Str → Option Value), PySem.W.InstAt s.heap a oe C (some od) ∧ (∀ f, PySem.W.lookIn f od = some (mA f)) ∧ ∀ f, RelO (fs.lookup f) (mA f) := by
  obtain ⟨oe, dd, ea, ⟨hc, hd⟩, ⟨vs, hv⟩, ed⟩ := e
  have hx : ObjOk X.prog X.w H s.heap dd (.xd fs) := I.hok dd _ ed
  obtain ⟨mA, hns, hr⟩ := hx
  obtain ⟨od, ho, hl⟩ := lookIn_ns hns
  exact ⟨oe, od, mA, ⟨exq_at I.hok ea, hc, by unfold PySem.W.notCls; rw [hv] <;> rfl, by rw [hd]; exact ho⟩, hl, hr⟩
/-- e.f -/
def tExf (K : PySem.W.Frag) (f : Str) (te : TE) : TE := fun σ H Q => te σ H fun x H1 => ∃ (a C : Addr) (fs : List (Str × V)) (v : V), x = .ref a ∧ ExAt H1 a C fs ∧ XfC K C ∧ PySem.W.findIn K (.ref C) f = some none ∧ fs.lookup f = some v ∧ Q v H1
theorem pe_exf {e : Expr} {te : TE} {pos : Pos} {f : Str} (he : PE X e te) (hb : attributeBase e f X.env (eval e X.env) = eval e X.env := by rfl) : PE X (.Attribute e f pos) (tExf X.K f te) := by
  refine ⟨fun pins s σ H Q I h => attr_of hb (thn (he.run pins s σ H _ I h) fun u s1 hh => ?_)⟩
  obtain ⟨x, H1, I1, rx, a, C, fs, v, ex, ea, T, hno, l, q⟩ := hh
  subst ex
  obtain rfl : u = Value.ref a := rx
  obtain ⟨oe, od, mA, J, hl, hr⟩ := ex_inst I1 ea
  obtain ⟨u, hu, ru⟩ := RelO.some_of (v := v) (o := mA f) (by rw [← l]; exact hr f)
  exact HandSPX.exc_get I1.kIn J T.ga T.gg T.exC (PySem.W.findObj_own T.hdC hno rfl (by rw [hl, hu])) (handed_of ru) ⟨v, H1, I1.tok _, ru, q⟩
/-- isinstance(e, c) -/
def rIsX (K : PySem.W.Frag) : List V → Hp → VK → Prop := fun xs H Q => ∃ (a C : Addr) (fs : List (Str × V)) (c : V) (cv : Value) (b : Bool), xs = [.ref a, c] ∧ ExAt H a C fs ∧ ExcC K C ∧ ClsV c cv ∧ PySem.W.kitOne K (.ref C) cv = some b ∧ Q (.bl b) H
theorem call_isX : CallR X (.builtin "isinstance") (rIsX X.K) := by
  intro pins s σ H xs us Q I r h
  obtain ⟨a, C, fs, c, cv, b, rfl, ea, T, hcv, e, q⟩ := h
  cases r with
  | cons rx rr =>
    cases rr with
    | cons rt rr =>
      cases rr
      cases rx
      have ec := hcv.eq rt
      subst ec
      obtain ⟨oe, od, mA, J, _, _⟩ := ex_inst I ea
      have hcl : (PySem.W.clsIn X.K C).isSome = true := by
        obtain ⟨cd, hc, _⟩ := PySem.W.any_some T.hd
        rw [hc]
        rfl
      exact PySem.W.kia_one (PySem.W.kitx_exc hcl T.hg T.hk T.hs T.ha T.hn T.ht T.hm) I.kIn J e (fun z => nomatch z) fun tk => ⟨.bl b, H, I.kept (t' := tk) fun _ _ z => z, rfl, q⟩
/-- isinstance(e, (c1, c2, ..)) -/
def rIsXT (K : PySem.W.Frag) : List V → Hp → VK → Prop := fun xs H Q => ∃ (a C tp : Addr) (fs : List (Str × V)) (cs : List V) (us : List Value) (b : Bool), xs = [.ref a, .ref tp] ∧ ExAt H a C fs ∧ ExcC K C ∧ H tp = some (.tup cs) ∧ Paired ClsV cs us ∧ PySem.W.kitAny K (.ref C) us = some b ∧ Q (.bl b) H
theorem call_isXT : CallR X (.builtin "isinstance") (rIsXT X.K) := by
  intro pins s σ H xs us Q I r h
  obtain ⟨a, C, tp, fs, cs, ws, b, rfl, ea, T, htp, pc, e, q⟩ := h
  cases r with
  | cons rx rr =>
    cases rr with
    | cons rt rr =>
      cases rr
      cases rx
      cases rt
      obtain ⟨oe, od, mA, J, _, _⟩ := ex_inst I ea
      have hcl : (PySem.W.clsIn X.K C).isSome = true := by
        obtain ⟨cd, hc, _⟩ := PySem.W.any_some T.hd
        rw [hc]
        rfl
      have ht : ObjOk X.prog X.w H s.heap tp (.tup cs) := I.hok tp _ htp
      obtain ⟨_, its, rv, ob, eo, c1, n, c2⟩ := ht
      have e3 := ClsV.all pc rv
      subst e3
      obtain ⟨oc, od2, dt, sl⟩ := ob
      simp only at c1 c2
      subst c1 c2
      exact PySem.W.kia_tup (PySem.W.kitx_exc hcl T.hg T.hk T.hs T.ha T.hn T.ht T.hm) I.kIn J eo e (fun z => nomatch z) fun tk => ⟨.bl b, H, I.kept (t' := tk) fun _ _ z => z, rfl, q⟩
end
end L2
/-! Values with tuples as plain data: rules of the hand layer, told over them. -/
namespace DV
open PySem PySem.Spec PyProof.Rows L2

/-- a value; a tuple is told by its items -/
inductive D where
  | non | bl (b : Bool) | int (i : Int) | str (x : Str) | tup (ds : List D) | ref (a : Addr) | ty (n : String) | fls (ds : List D) | exc (c : Str) (ns : List Str) (ds : List D) | cls (c : Str)
/-- a list that nobody writes -/
def SqF (K : PySem.W.Frag) (H : Hp) (a : Addr) (xs : List V) : Prop := SqL K H a xs ∧ ((∃ o, H a = some (.frz o (.lst xs))) ∨ ∃ o, K.lookup a = some o ∧ ∀ H', SqL K H' a xs)

section
variable (K : PySem.W.Frag)
mutual
inductive Rp (H : Hp) : V → D → Prop
  | non : Rp H .non .non
  | bl (b : Bool) : Rp H (.bl b) (.bl b)
  | int (i : Int) : Rp H (.int i) (.int i)
  | str (x : Str) : Rp H (.str x) (.str x)
  | ref (a : Addr) : Rp H (.ref a) (.ref a)
  | ty (n : String) : Rp H (.ty n) (.ty n)
  | tup {a : Addr} {xs : List V} {ds : List D} : SqT K H a xs → RpL H xs ds → Rp H (.ref a) (.tup ds)
  | fls {a : Addr} {xs : List V} {ds : List D} : SqF K H a xs → RpL H xs ds → Rp H (.ref a) (.fls ds)
  | exc {a : Addr} {c : Str} {ns : List Str} {xs : List V} {ds : List D} : ExAt H a (He.ga K c) (ns.zip xs).reverse → RpL H xs ds → Rp H (.ref a) (.exc c ns ds)
  | cls (c : Str) : Rp H (.ref (He.ga K c)) (.cls c)
inductive RpL (H : Hp) : List V → List D → Prop
  | nil : RpL H [] []
  | cons {v : V} {vs : List V} {d : D} {ds : List D} : Rp H v d → RpL H vs ds → RpL H (v :: vs) (d :: ds)
end
/-- tuples stay -/
structure TK (H H' : Hp) : Prop where
  t : ∀ a xs, SqT K H a xs → SqT K H' a xs
  f : ∀ a xs, SqF K H a xs → SqF K H' a xs
  x : ∀ a xs, H a = some (.xd xs) → H' a = some (.xd xs)
  e : ∀ a oe, H a = some (exq a oe) → H' a = some (exq a oe)
end
section
variable {K : PySem.W.Frag} {H H' H1 H2 : Hp}
theorem TK.refl : TK K H H := ⟨fun _ _ h => h, fun _ _ h => h, fun _ _ h => h, fun _ _ h => h⟩
theorem TK.trans (a : TK K H H1) (b : TK K H1 H2) : TK K H H2 := ⟨fun x xs h => b.t x xs (a.t x xs h), fun x xs h => b.f x xs (a.f x xs h), fun x xs h => b.x x xs (a.x x xs h), fun x oe h => b.e x oe (a.e x oe h)⟩
theorem TK.ex (t : TK K H H') {a C : Addr} {fs : List (Str × V)} (h : ExAt H a C fs) : ExAt H' a C fs := by
  obtain ⟨oe, dd, h1, h2, h3, h4⟩ := h
  exact ⟨oe, dd, t.e _ _ h1, h2, h3, t.x _ _ h4⟩
mutual
theorem Rp.mono (t : TK K H H') : ∀ {v : V} {d : D}, Rp K H v d → Rp K H' v d
  | _, _, .non => .non
  | _, _, .bl b => .bl b
  | _, _, .int b => .int b
  | _, _, .str b => .str b
  | _, _, .ref b => .ref b
  | _, _, .ty b => .ty b
  | _, _, .tup h r => .tup (t.t _ _ h) (RpL.mono t r)
  | _, _, .fls h r => .fls (t.f _ _ h) (RpL.mono t r)
  | _, _, .exc h r => .exc (t.ex h) (RpL.mono t r)
  | _, _, .cls c => .cls c
theorem RpL.mono (t : TK K H H') : ∀ {v : List V} {d : List D}, RpL K H v d → RpL K H' v d
  | _, _, .nil => .nil
  | _, _, .cons h r => .cons (Rp.mono t h) (RpL.mono t r)
end
theorem RpL.length : ∀ {vs : List V} {ds : List D}, RpL K H vs ds → vs.length = ds.length
  | _, _, .nil => rfl
  | _, _, .cons _ r => by rw [List.length_cons, List.length_cons, RpL.length r]
theorem RpL.get : ∀ {vs : List V} {ds : List D} {i : Nat} {d : D}, RpL K H vs ds → ds[i]? = some d → ∃ v, vs[i]? = some v ∧ Rp K H v d
  | _, _, _, _, .nil, e => by simp at e
  | _, _, 0, _, .cons r _, e => by simp at e; subst e; exact ⟨_, rfl, r⟩
  | _, _, i + 1, _, .cons _ t, e => by
    obtain ⟨u, h1, h2⟩ := RpL.get (i := i) t (by simpa using e)
    exact ⟨u, by simpa using h1, h2⟩
theorem RpL.get' : ∀ {vs : List V} {ds : List D} {i : Nat} {v : V}, RpL K H vs ds → vs[i]? = some v → ∃ d, ds[i]? = some d ∧ Rp K H v d
  | _, _, _, _, .nil, e => by simp at e
  | _, _, 0, _, .cons r _, e => by simp at e; subst e; exact ⟨_, rfl, r⟩
  | _, _, i + 1, _, .cons _ t, e => by
    obtain ⟨u, h1, h2⟩ := RpL.get' (i := i) t (by simpa using e)
    exact ⟨u, by simpa using h1, h2⟩
theorem RpL.append : ∀ {xs ys : List V} {ds es : List D}, RpL K H xs ds → RpL K H ys es → RpL K H (xs ++ ys) (ds ++ es)
  | _, _, _, _, .nil, s => s
  | _, _, _, _, .cons r t, s => .cons r (RpL.append t s)
theorem RpL.set {x : V} {d : D} (r : Rp K H x d) : ∀ {xs : List V} {ds : List D} (i : Nat), RpL K H xs ds → RpL K H (xs.set i x) (ds.set i d)
  | _, _, _, .nil => .nil
  | _, _, 0, .cons _ t => .cons r t
  | _, _, i + 1, .cons q t => .cons q (RpL.set r i t)
theorem RpL.take : ∀ {xs : List V} {ds : List D} (n : Nat), RpL K H xs ds → RpL K H (xs.take n) (ds.take n)
  | _, _, 0, _ => .nil
  | _, _, _ + 1, .nil => .nil
  | _, _, n + 1, .cons r t => .cons r (RpL.take n t)
theorem RpL.drop : ∀ {xs : List V} {ds : List D} (n : Nat), RpL K H xs ds → RpL K H (xs.drop n) (ds.drop n)
  | _, _, 0, r => r
  | _, _, _ + 1, .nil => .nil
  | _, _, n + 1, .cons _ t => RpL.drop n t
theorem RpL.erase : ∀ {xs : List V} {ds : List D} (n : Nat), RpL K H xs ds → RpL K H (xs.eraseIdx n) (ds.eraseIdx n)
  | _, _, _, .nil => .nil
  | _, _, 0, .cons _ t => t
  | _, _, n + 1, .cons r t => .cons r (RpL.erase n t)
theorem Rp.int_inv {v : V} {i : Int} (h : Rp K H v (.int i)) : v = .int i := by cases h; rfl
theorem Rp.str_inv {v : V} {i : Str} (h : Rp K H v (.str i)) : v = .str i := by cases h; rfl
theorem Rp.bl_inv {v : V} {i : Bool} (h : Rp K H v (.bl i)) : v = .bl i := by cases h; rfl
theorem Rp.non_inv {v : V} (h : Rp K H v .non) : v = .non := by cases h; rfl
theorem Rp.ref_inv {v : V} {a : Addr} (h : Rp K H v (.ref a)) : v = .ref a := by cases h; rfl
theorem Rp.ty_inv {v : V} {a : String} (h : Rp K H v (.ty a)) : v = .ty a := by cases h; rfl
theorem RpL.one {vs : List V} {d : D} (h : RpL K H vs [d]) : ∃ v, vs = [v] ∧ Rp K H v d := by
  cases h with
  | cons a t => cases t; exact ⟨_, rfl, a⟩
theorem RpL.two {vs : List V} {d e : D} (h : RpL K H vs [d, e]) : ∃ v u, vs = [v, u] ∧ Rp K H v d ∧ Rp K H u e := by
  cases h with
  | cons a t =>
    obtain ⟨u, rfl, r⟩ := RpL.one t
    exact ⟨_, _, rfl, a, r⟩

theorem exq_ne {a : Addr} {oe : Obj} {xs : List V} : exq a oe ≠ .lst xs := fun z => by
  have z' : HO.ext _ = HO.lst xs := z
  cases z'
theorem tk_upd {p : Addr} {o : HO} (h : ∀ xs, ¬ Rd H p (.tup xs)) (hf : ∀ ob xs, H p ≠ some (.frz ob (.lst xs))) (hx : ∀ xs, H p ≠ some (.xd xs)) (he : ∀ oe, H p ≠ some (exq p oe)) : TK K H (upd H p o) := by
  refine ⟨fun a xs q => ?_, fun a xs q => ?_, fun a xs q => ?_, fun a oe q => ?_⟩
  · rcases q with q | q
    · left
      by_cases e : a = p
      · subst e; exact absurd q (h xs)
      · rcases q with q | ⟨ob, q⟩
        · exact .inl (by rw [upd_ne e]; exact q)
        · exact .inr ⟨ob, by rw [upd_ne e]; exact q⟩
    · exact .inr q
  · obtain ⟨_, ⟨ob, q⟩ | ⟨ob, lk, q⟩⟩ := q
    · have e : a ≠ p := fun z => by subst z; exact hf _ _ q
      have q2 : (upd H p o) a = some (.frz ob (.lst xs)) := by rw [upd_ne e]; exact q
      exact ⟨.inl (.inr ⟨ob, q2⟩), .inl ⟨ob, q2⟩⟩
    · exact ⟨q _, .inr ⟨ob, lk, q⟩⟩
  · have e : a ≠ p := fun z => by subst z; exact hx _ q
    rw [upd_ne e]; exact q
  · have e : a ≠ p := fun z => by subst z; exact he _ q
    rw [upd_ne e]; exact q
theorem tk_new {p : Addr} {o : HO} (h : H p = none) : TK K H (upd H p o) := tk_upd (fun xs q => by
  rcases q with q | ⟨ob, q⟩ <;> rw [h] at q <;> cases q) (fun ob xs q => by rw [h] at q; cases q) (fun xs q => by rw [h] at q; cases q) fun oe q => by rw [h] at q; cases q
theorem tk_lst {p : Addr} {o : HO} {ys : List V} (h : H p = some (.lst ys)) : TK K H (upd H p o) := tk_upd (fun xs q => by
  rcases q with q | ⟨ob, q⟩ <;> rw [h] at q <;> cases q) (fun ob xs q => by rw [h] at q; cases q) (fun xs q => by rw [h] at q; cases q) fun oe q => by
    rw [h] at q
    exact exq_ne (Option.some.inj q).symm
end

/-- what stands at a tracked address, by plain data -/
inductive LO where
  | lst (ds : List D)
  | ro (ds : List D)
  | dk (kvs : List (Key × D))
abbrev LHp := Addr → Option LO
def lupd (L : LHp) (a : Addr) (o : LO) : LHp := fun b => if b = a then some o else L b
theorem lupd_same {L : LHp} {a : Addr} {o : LO} : lupd L a o a = some o := by unfold lupd; rw [if_pos rfl]
theorem lupd_ne {L : LHp} {a b : Addr} {o : LO} (h : b ≠ a) : lupd L a o b = L b := by unfold lupd; rw [if_neg h]
theorem lupd_lupd {L : LHp} {a : Addr} {o u : LO} : lupd (lupd L a o) a u = lupd L a u := by
  funext b; unfold lupd; split <;> rfl

section
variable (K : PySem.W.Frag)
inductive RpK (H : Hp) : List (Key × V) → List (Key × D) → Prop
  | nil : RpK H [] []
  | cons {k : Key} {v : V} {d : D} {vs : List (Key × V)} {ds : List (Key × D)} (h : Rp K H v d) (t : RpK H vs ds) : RpK H ((k, v) :: vs) ((k, d) :: ds)
theorem RpK.mono {H H' : Hp} (t : TK K H H') : ∀ {vs : List (Key × V)} {ds : List (Key × D)}, RpK K H vs ds → RpK K H' vs ds
  | _, _, .nil => .nil
  | _, _, .cons h r => .cons (h.mono t) (RpK.mono t r)
def ORp (H : Hp) (a : Addr) : LO → Prop
  | .dk kvs => ∃ xs, Rd H a (.dK xs) ∧ RpK K H xs kvs
  | .lst ds => ∃ xs, H a = some (.lst xs) ∧ RpL K H xs ds
  | .ro ds => ∃ xs, Rd H a (.lst xs) ∧ RpL K H xs ds
def HRp (L : LHp) (H : Hp) : Prop := ∀ a o, L a = some o → ORp K H a o
/-- readable as a list -/
def LRd (L : LHp) (a : Addr) (ds : List D) : Prop := L a = some (.lst ds) ∨ L a = some (.ro ds)
end
section
variable {K : PySem.W.Frag} {H H' : Hp} {L : LHp}
theorem HRp.none (h : HRp K L H) {p : Addr} (e : H p = none) : L p = none := by
  cases q : L p with
  | none => rfl
  | some o =>
    have z := h p o q
    cases o with
    | lst ds => obtain ⟨xs, r, _⟩ := z; rw [e] at r; cases r
    | ro ds => obtain ⟨xs, r, _⟩ := z; rcases r with r | ⟨_, r⟩ <;> rw [e] at r <;> cases r
    | dk ds => obtain ⟨xs, r, _⟩ := z; rcases r with r | ⟨_, r⟩ <;> rw [e] at r <;> cases r
theorem HRp.rd (h : HRp K L H) {a : Addr} {ds : List D} (e : LRd L a ds) : ∃ xs, SqL K H a xs ∧ RpL K H xs ds := by
  rcases e with e | e
  · obtain ⟨xs, q, r⟩ := h _ _ e
    exact ⟨xs, .inl (.inl q), r⟩
  · obtain ⟨xs, q, r⟩ := h _ _ e
    exact ⟨xs, .inl q, r⟩
theorem HRp.lst (h : HRp K L H) {a : Addr} {ds : List D} (e : L a = some (.lst ds)) : ∃ xs, H a = some (.lst xs) ∧ RpL K H xs ds := h _ _ e
/-- the heap grows by an object that L does not know -/
theorem HRp.grow (h : HRp K L H) {p : Addr} {o : HO} (e : H p = Option.none) : HRp K L (upd H p o) := fun a u q => by
  have z := h a u q
  have t : TK K H (upd H p o) := tk_new e
  have ne : a ≠ p := fun x => by rw [x, h.none e] at q; cases q
  cases u with
  | lst ds => obtain ⟨xs, r, s⟩ := z; exact ⟨xs, by rw [upd_ne ne]; exact r, s.mono t⟩
  | ro ds =>
    obtain ⟨xs, r, s⟩ := z
    refine ⟨xs, ?_, s.mono t⟩
    rcases r with r | ⟨ob, r⟩
    · exact .inl (by rw [upd_ne ne]; exact r)
    · exact .inr ⟨ob, by rw [upd_ne ne]; exact r⟩
  | dk ds =>
    obtain ⟨xs, r, s⟩ := z
    refine ⟨xs, ?_, s.mono K t⟩
    rcases r with r | ⟨ob, r⟩
    · exact .inl (by rw [upd_ne ne]; exact r)
    · exact .inr ⟨ob, by rw [upd_ne ne]; exact r⟩
/-- an address is written, or laid -/
theorem HRp.put (h : HRp K L H) {p : Addr} {o : HO} {u : LO} (t : TK K H (upd H p o)) (n : ORp K (upd H p o) p u) : HRp K (lupd L p u) (upd H p o) := fun a w q => by
  by_cases e : a = p
  · subst e
    rw [lupd_same] at q; cases q
    exact n
  · rw [lupd_ne e] at q
    have z := h a w q
    cases w with
    | lst ds => obtain ⟨xs, r, s⟩ := z; exact ⟨xs, by rw [upd_ne e]; exact r, s.mono t⟩
    | ro ds =>
      obtain ⟨xs, r, s⟩ := z
      refine ⟨xs, ?_, s.mono t⟩
      rcases r with r | ⟨ob, r⟩
      · exact .inl (by rw [upd_ne e]; exact r)
      · exact .inr ⟨ob, by rw [upd_ne e]; exact r⟩
    | dk ds =>
      obtain ⟨xs, r, s⟩ := z
      refine ⟨xs, ?_, s.mono K t⟩
      rcases r with r | ⟨ob, r⟩
      · exact .inl (by rw [upd_ne e]; exact r)
      · exact .inr ⟨ob, by rw [upd_ne e]; exact r⟩
theorem HRp.putL (h : HRp K L H) {p : Addr} {xs : List V} {ds : List D} (t : TK K H (upd H p (.lst xs))) (r : RpL K H xs ds) : HRp K (lupd L p (.lst ds)) (upd H p (.lst xs)) :=
  h.put t ⟨xs, upd_same, r.mono t⟩
end

/-! ### slots -/
abbrev DSt := List (Option D)
section
variable (K : PySem.W.Frag)
def RpS (H : Hp) (σ : L2.St) (τ : DSt) : Prop := σ.length = τ.length ∧ ∀ (i : Nat) (d : D), τ[i]? = some (some d) → ∃ v, σ[i]? = some (some v) ∧ Rp K H v d
structure Ins (H0 : Hp) (σ : L2.St) (H : Hp) (τ : DSt) (L : LHp) : Prop where
  tk : TK K H0 H
  sl : RpS K H σ τ
  hp : HRp K L H
end
section
variable {K : PySem.W.Frag} {H0 H H' : Hp} {σ : L2.St} {τ : DSt} {L L' : LHp}
theorem RpS.mono (t : TK K H H') (r : RpS K H σ τ) : RpS K H' σ τ := ⟨r.1, fun i d e => let ⟨v, a, b⟩ := r.2 i d e; ⟨v, a, b.mono t⟩⟩
theorem RpS.set {v : V} {d : D} (r : RpS K H σ τ) (h : Rp K H v d) (i : Nat) : RpS K H (σ.set i (some v)) (τ.set i (some d)) := by
  refine ⟨by rw [List.length_set, List.length_set]; exact r.1, fun j e q => ?_⟩
  by_cases z : i = j
  · subst z
    have hl : i < τ.length := by
      have := (List.getElem?_eq_some_iff.mp q).1
      rw [List.length_set] at this
      exact this
    rw [List.getElem?_set_self hl] at q
    cases q
    exact ⟨v, List.getElem?_set_self (by rw [r.1]; exact hl), h⟩
  · rw [List.getElem?_set_ne z] at q
    rw [List.getElem?_set_ne z]
    exact r.2 j e q
theorem Ins.to (i : Ins K H0 σ H τ L) (t : TK K H H') (h : HRp K L' H') : Ins K H0 σ H' τ L' := ⟨i.tk.trans t, i.sl.mono t, h⟩
theorem Ins.set (i : Ins K H0 σ H τ L) {v : V} {d : D} (h : Rp K H v d) (k : Nat) : Ins K H0 (σ.set k (some v)) H (τ.set k (some d)) L := ⟨i.tk, i.sl.set h k, i.hp⟩
end

/-! ### readings over plain data -/
abbrev DK := D → LHp → Prop
abbrev DE := DSt → LHp → DK → Prop
abbrev DT := DSt → LHp → (Bool → LHp → Prop) → Prop
abbrev DA := DSt → LHp → (List D → LHp → Prop) → Prop
structure DEnds where
  nx : DSt → LHp → Prop
  rt : DK
  bk : DSt → LHp → Prop := fun _ _ => False
  ct : DSt → LHp → Prop := fun _ _ => False
abbrev DS := DEnds → DSt → LHp → Prop
section
variable (K : PySem.W.Frag) (H0 : Hp)
def lE (t : DE) : TE := fun σ H Q => ∃ τ L Q', Ins K H0 σ H τ L ∧ t τ L Q' ∧ ∀ v H' d L', TK K H H' → HRp K L' H' → Rp K H' v d → Q' d L' → Q v H'
def lT (t : DT) : TT := fun σ H Q => ∃ τ L Q', Ins K H0 σ H τ L ∧ t τ L Q' ∧ ∀ b H' L', TK K H H' → HRp K L' H' → Q' b L' → Q b H'
def lA (t : DA) : TA := fun σ H Q => ∃ τ L Q', Ins K H0 σ H τ L ∧ t τ L Q' ∧ ∀ vs H' ds L', TK K H H' → HRp K L' H' → RpL K H' vs ds → Q' ds L' → Q vs H'
def lS (t : DS) : TS := fun D σ H => ∃ τ L D', Ins K H0 σ H τ L ∧ t D' τ L ∧
  (∀ σ' H' τ' L', TK K H H' → Ins K H0 σ' H' τ' L' → D'.nx τ' L' → D.nx σ' H') ∧ (∀ v H' d L', TK K H0 H' → HRp K L' H' → Rp K H' v d → D'.rt d L' → D.rt v H') ∧
  (∀ σ' H' τ' L', TK K H H' → Ins K H0 σ' H' τ' L' → D'.bk τ' L' → D.bk σ' H') ∧ (∀ σ' H' τ' L', TK K H H' → Ins K H0 σ' H' τ' L' → D'.ct τ' L' → D.ct σ' H')
end
def PD (X : Cx) (H0 : Hp) (e : Expr) (t : DE) : Prop := PE X e (lE X.K H0 t)
def PDT (X : Cx) (H0 : Hp) (e : Expr) (t : DT) : Prop := PT X e (lT X.K H0 t)
def PDW (X : Cx) (H0 : Hp) (e : Expr) (t : DT) : Prop := PW X e (lT X.K H0 t)
def PDA (X : Cx) (H0 : Hp) (es : List Expr) (t : DA) : Prop := PA X es (lA X.K H0 t)
def PDS (X : Cx) (H0 : Hp) (st : Stmt) (t : DS) : Prop := PS X st (lS X.K H0 t)
def PDSs (X : Cx) (H0 : Hp) (st : List Stmt) (t : DS) : Prop := PSs X st (lS X.K H0 t)
section
variable {X : Cx} {H0 : Hp} {e a b : Expr} {es : List Expr} {st : Stmt} {sts rest : List Stmt} {pos : Pos}
theorem PE.imp {t t' : TE} (h : PE X e t) (w : ∀ σ H Q, t' σ H Q → t σ H Q) : PE X e t' := ⟨fun pins s σ H Q I q => h.run pins s σ H Q I (w σ H Q q)⟩
theorem PT.imp {t t' : TT} (h : PT X e t) (w : ∀ σ H Q, t' σ H Q → t σ H Q) : PT X e t' := ⟨fun pins s σ H Q I q => h.run pins s σ H Q I (w σ H Q q)⟩
theorem PW.imp {t t' : TT} (h : PW X e t) (w : ∀ σ H Q, t' σ H Q → t σ H Q) : PW X e t' := ⟨fun wh pins s σ H Q I q => h.run wh pins s σ H Q I (w σ H Q q)⟩
theorem PA.imp {t t' : TA} (h : PA X es t) (w : ∀ σ H Q, t' σ H Q → t σ H Q) : PA X es t' := ⟨fun p pins s σ H Q I q => h.run p pins s σ H Q I (w σ H Q q)⟩
theorem PS.imp {t t' : TS} (h : PS X st t) (w : ∀ D σ H, t' D σ H → t D σ H) : PS X st t' := ⟨fun pins s σ H D I q => h.run pins s σ H D I (w D σ H q)⟩
theorem PSs.imp {t t' : TS} (h : PSs X sts t) (w : ∀ D σ H, t' D σ H → t D σ H) : PSs X sts t' := ⟨fun pins s σ H D I q => h.run pins s σ H D I (w D σ H q)⟩

/-! names, constants -/
def dVar (i : Nat) : DE := fun τ L Q => ∃ d, τ[i]? = some (some d) ∧ Q d L
def dC (d : D) : DE := fun _ L Q => Q d L
theorem lE_c {v : V} {d : D} (r : ∀ H, Rp X.K H v d) : ∀ σ H Q, lE X.K H0 (dC d) σ H Q → tC v σ H Q := fun σ H Q ⟨τ, L, Q', i, q, k⟩ => k v H d L .refl i.hp (r H) q
theorem pdv (i : Nat) {x : Str} {pos : Pos} (hN : X.N[i]? = some x := by rfl) (hv : Vis X.env.scope x := by first | exact Or.inl rfl | exact Or.inr (Or.inl rfl) | exact Or.inr (Or.inr rfl)) (hd : (x == ("__debug__" : Str)) = false := by decide)
    (hcd : (x == ("__classdict__" : Str)) = false := by decide) : PD X H0 (.Name x pos) (dVar i) := PE.imp (pe_var hN hv hd hcd) fun σ H Q ⟨τ, L, Q', I, ⟨d, hd, q⟩, k⟩ => by
  obtain ⟨v, hv, r⟩ := I.sl.2 i d hd
  exact ⟨v, hv, k v H d L .refl I.hp r q⟩
theorem pd_int {i j pos} : PD X H0 (.Constant (.int i) j pos) (dC (.int i)) := PE.imp pe_int (lE_c fun _ => .int i)
theorem pd_bl {i j pos} : PD X H0 (.Constant (.bool i) j pos) (dC (.bl i)) := PE.imp pe_bl (lE_c fun _ => .bl i)
theorem pd_non {j pos} : PD X H0 (.Constant .none j pos) (dC .non) := PE.imp pe_non (lE_c fun _ => .non)
theorem pd_str {i j pos} : PD X H0 (.Constant (.str i) j pos) (dC (.str i)) := PE.imp pe_str (lE_c fun _ => .str i)
theorem pd_glI {x : Str} {n : Int} {u : Value} {pos : Pos} (hg : Gl X x) (hm : X.mg x = some u) (r : RelV (.int n) u) (hd : (x == ("__debug__" : Str)) = false := by decide) : PD X H0 (.Name x pos) (dC (.int n)) := PE.imp (pe_glob hg hm r hd) (lE_c fun _ => .int n)
theorem pd_glR {x : Str} {a : Addr} {pos : Pos} (hg : Gl X x) (hm : X.mg x = some (.ref a)) (hd : (x == ("__debug__" : Str)) = false := by decide) : PD X H0 (.Name x pos) (dC (.ref a)) := PE.imp (pe_glob (v := .ref a) hg hm rfl hd) (lE_c fun _ => .ref a)
theorem pd_bltn {x : Str} {n : String} {pos : Pos} (hg : Gl X x) (hm : X.mg x = none) (hv : bootBuiltins x = some (.type n)) (hn : x ≠ "__name__" := by decide) (hd : (x == ("__debug__" : Str)) = false := by decide) : PD X H0 (.Name x pos) (dC (.ty n)) :=
  PE.imp (pe_bltn (v := .ty n) hg hm hv rfl hn hd) (lE_c fun _ => .ty n)

/-! operators -/
abbrev DR2 := D → D → LHp → DK → Prop
def Sim2 (K : PySem.W.Frag) (r : R2) (R : DR2) : Prop := ∀ x y H d e L (Q' : DK) (Q : VK), Rp K H x d → Rp K H y e → HRp K L H → R d e L Q' → (∀ v H' c L', TK K H H' → HRp K L' H' → Rp K H' v c → Q' c L' → Q v H') → r x y H Q
def dOp (R : DR2) (ta tb : DE) : DE := fun τ L Q => ta τ L fun x L1 => tb τ L1 fun y L2 => R x y L2 Q
theorem lOp {r : R2} {R : DR2} {ta tb : DE} (hR : Sim2 X.K r R) : ∀ σ H Q, lE X.K H0 (dOp R ta tb) σ H Q → tOp r (lE X.K H0 ta) (lE X.K H0 tb) σ H Q := fun σ H Q ⟨τ, L, Q', I, q, k⟩ =>
  ⟨τ, L, _, I, q, fun v H1 d L1 t1 h1 r1 q1 => ⟨τ, L1, _, I.to t1 h1, q1, fun w H2 e L2 t2 h2 r2 q2 =>
    hR v w H2 d e L2 Q' Q (r1.mono t2) r2 h2 q2 fun z H3 c L3 t3 h3 r3 q3 => k z H3 c L3 (t1.trans (t2.trans t3)) h3 r3 q3⟩⟩
theorem pd_op {op : Operator} {r : R2} {R : DR2} {ta tb : DE} (ho : OpR X (binaryOp op) r) (hR : Sim2 X.K r R) (ha : PD X H0 a ta) (hb : PD X H0 b tb) : PD X H0 (.BinOp a op b pos) (dOp R ta tb) := PE.imp (pe_op ho ha hb) (lOp hR)
theorem pd_cmp {op : CmpOp} {r : R2} {R : DR2} {ta tb : DE} (ho : OpR X (compareOp op) r) (hR : Sim2 X.K r R) (ha : PD X H0 a ta) (hb : PD X H0 b tb) (hm : behindInMarks op b = false := by first | exact nobehind _ (by decide) (by decide) | rfl) :
    PD X H0 (.Compare a [op] [b] pos) (dOp R ta tb) := PE.imp (pe_cmpR ho ha hb hm) (lOp hR)
theorem opOr {f : Value → Value → Sem Value} {r r' : R2} (h : OpR X f r) (h' : OpR X f r') : OpR X f (fun x y H Q => r x y H Q ∨ r' x y H Q) := fun pins s σ H x y v u Q I rx ry q => by
  rcases q with q | q
  · exact h pins s σ H x y v u Q I rx ry q
  · exact h' pins s σ H x y v u Q I rx ry q
end

/-! ### plain data as the model's own -/
mutual
def toP : D → PyData
  | .non => .none
  | .bl b => .bool b
  | .int i => .int i
  | .str x => .str x
  | .tup ds => .tuple (toPL ds)
  | .ref _ => .none
  | .ty _ => .none
  | .fls _ => .none
  | .exc _ _ _ => .none
  | .cls _ => .none
def toPL : List D → List PyData
  | [] => []
  | d :: ds => toP d :: toPL ds
end
mutual
def pur : D → Bool
  | .non => true
  | .bl _ => true
  | .int _ => true
  | .str _ => true
  | .tup ds => purL ds
  | .ref _ => false
  | .ty _ => false
  | .fls _ => false
  | .exc _ _ _ => false
  | .cls _ => false
def purL : List D → Bool
  | [] => true
  | d :: ds => pur d && purL ds
end
section
variable {K : PySem.W.Frag} {H : Hp}
mutual
theorem Rp.dp : ∀ {v : V} {d : D}, Rp K H v d → pur d = true → Dp K H v (toP d)
  | _, _, .non, _ => by rw [toP]; exact .non
  | _, _, .bl b, _ => by rw [toP]; exact .bl b
  | _, _, .int b, _ => by rw [toP]; exact .int b
  | _, _, .str b, _ => by rw [toP]; exact .str b
  | _, _, .ref b, h => by rw [pur] at h; cases h
  | _, _, .ty b, h => by rw [pur] at h; cases h
  | _, _, .tup s r, h => by rw [toP]; rw [pur] at h; exact .tup s (RpL.dp r h)
  | _, _, .fls s r, h => by rw [pur] at h; cases h
  | _, _, .exc s r, h => by rw [pur] at h; cases h
  | _, _, .cls c, h => by rw [pur] at h; cases h
theorem RpL.dp : ∀ {v : List V} {d : List D}, RpL K H v d → purL d = true → DpAll K H v (toPL d)
  | _, _, .nil, _ => by rw [toPL]; exact .nil
  | _, _, .cons s r, h => by
    rw [purL, Bool.and_eq_true] at h
    rw [toPL]
    exact .cons (Rp.dp s h.1) (RpL.dp r h.2)
end
end
def okD (d : D) : Prop := pur d = true ∧ SeqAt.shaped (toP d) = true
def okL (ds : List D) : Prop := purL ds = true ∧ SeqAt.shaped (.list (toPL ds)) = true
def rEqv (neg : Bool) : DR2
  | .int i, .int j, L, Q => Q (.bl (xor neg (decide (i = j)))) L
  | .str i, .str j, L, Q => Q (.bl (xor neg (decide (i = j)))) L
  | .bl i, .bl j, L, Q => Q (.bl (xor neg (decide (i = j)))) L
  | .ref a, .ref b, L, Q => ∃ xs ys, LRd L a xs ∧ LRd L b ys ∧ okL xs ∧ okL ys ∧ Q (.bl (xor neg (PyData.eqvAll (toPL xs) (toPL ys)))) L
  | d, e, L, Q => okD d ∧ okD e ∧ Q (.bl (xor neg (PyData.eqv (toP d) (toP e)))) L
section
variable {X : Cx} {H0 : Hp} {a b c e : Expr} {es rest : List Expr} {pos : Pos} {ta tb tc te : DE}
theorem sim_eqv : Sim2 X.K (fun x y H Q => rEq x y H Q ∨ rEqD X.K x y H Q) (rEqv false) := by
  intro x y H d e L Q' Q rx ry hL h k
  have gen : okD d → okD e → Q' (.bl (xor false (PyData.eqv (toP d) (toP e)))) L → (rEq x y H Q ∨ rEqD X.K x y H Q) := fun hd he q =>
    .inr ⟨_, _, rx.dp hd.1, ry.dp he.1, hd.2, he.2, k _ H _ L .refl hL (.bl _) (by rw [Bool.false_xor] at q; exact q)⟩
  unfold rEqv at h
  split at h
  · cases rx.int_inv; cases ry.int_inv
    exact .inl ⟨rfl, k _ H _ L .refl hL (.bl _) (by rw [Bool.false_xor] at h; simpa using h)⟩
  · cases rx.str_inv; cases ry.str_inv
    exact .inl ⟨rfl, k _ H _ L .refl hL (.bl _) (by rw [Bool.false_xor] at h; simpa using h)⟩
  · cases rx.bl_inv; cases ry.bl_inv
    exact .inl ⟨rfl, k _ H _ L .refl hL (.bl _) (by rw [Bool.false_xor] at h; simpa using h)⟩
  · cases rx.ref_inv; cases ry.ref_inv
    obtain ⟨xs, ys, l1, l2, o1, o2, q⟩ := h
    obtain ⟨vs, s1, r1⟩ := hL.rd l1
    obtain ⟨us, s2, r2⟩ := hL.rd l2
    refine .inr ⟨_, _, .lst s1 (r1.dp o1.1), .lst s2 (r2.dp o2.1), o1.2, o2.2, k _ H _ L .refl hL (.bl _) ?_⟩
    rw [Bool.false_xor] at q
    simpa only [PyData.eqv] using q
  · exact gen h.1 h.2.1 h.2.2
theorem sim_nev : Sim2 X.K (fun x y H Q => rNe x y H Q ∨ rNeD X.K x y H Q) (rEqv true) := by
  intro x y H d e L Q' Q rx ry hL h k
  have gen : okD d → okD e → Q' (.bl (xor true (PyData.eqv (toP d) (toP e)))) L → (rNe x y H Q ∨ rNeD X.K x y H Q) := fun hd he q =>
    .inr ⟨_, _, rx.dp hd.1, ry.dp he.1, hd.2, he.2, k _ H _ L .refl hL (.bl _) (by rw [Bool.true_xor] at q; exact q)⟩
  unfold rEqv at h
  split at h
  · cases rx.int_inv; cases ry.int_inv
    exact .inl ⟨rfl, k _ H _ L .refl hL (.bl _) (by rw [Bool.true_xor] at h; simpa using h)⟩
  · cases rx.str_inv; cases ry.str_inv
    exact .inl ⟨rfl, k _ H _ L .refl hL (.bl _) (by rw [Bool.true_xor] at h; simpa using h)⟩
  · cases rx.bl_inv; cases ry.bl_inv
    exact .inl ⟨rfl, k _ H _ L .refl hL (.bl _) (by rw [Bool.true_xor] at h; simpa using h)⟩
  · cases rx.ref_inv; cases ry.ref_inv
    obtain ⟨xs, ys, l1, l2, o1, o2, q⟩ := h
    obtain ⟨vs, s1, r1⟩ := hL.rd l1
    obtain ⟨us, s2, r2⟩ := hL.rd l2
    refine .inr ⟨_, _, .lst s1 (r1.dp o1.1), .lst s2 (r2.dp o2.1), o1.2, o2.2, k _ H _ L .refl hL (.bl _) ?_⟩
    rw [Bool.true_xor] at q
    simpa only [PyData.eqv] using q
  · exact gen h.1 h.2.1 h.2.2
theorem pd_eq (hu : X.A.units + 64 < cLine) (ha : PD X H0 a ta) (hb : PD X H0 b tb) : PD X H0 (.Compare a [.Eq] [b] pos) (dOp (rEqv false) ta tb) := pd_cmp (opOr op_eq (op_eqD hu)) sim_eqv ha hb
theorem pd_ne (hu : X.A.units + 64 < cLine) (ha : PD X H0 a ta) (hb : PD X H0 b tb) : PD X H0 (.Compare a [.NotEq] [b] pos) (dOp (rEqv true) ta tb) := pd_cmp (opOr op_ne (op_neD hu)) sim_nev ha hb

/-! whole numbers -/
def rI2 (C : Int → Int → Prop) (g : Int → Int → D) : DR2
  | .int i, .int j, L, Q => C i j ∧ Q (g i j) L
  | _, _, _, _ => False
theorem sim_I {C : Int → Int → Prop} {g : Int → Int → V} {g' : Int → Int → D} (hg : ∀ i j H, Rp X.K H (g i j) (g' i j)) : Sim2 X.K (rI C g) (rI2 C g') := by
  intro x y H d e L Q' Q rx ry hL h k
  unfold rI2 at h
  split at h
  · cases rx.int_inv; cases ry.int_inv
    exact ⟨_, _, rfl, rfl, h.1, k _ H _ L .refl hL (hg _ _ _) h.2⟩
  · exact h.elim
theorem sim_I0 {g : Int → Int → V} {g' : Int → Int → D} (hg : ∀ i j H, Rp X.K H (g i j) (g' i j)) : Sim2 X.K (rI0 g) (rI2 (fun _ _ => True) g') := by
  intro x y H d e L Q' Q rx ry hL h k
  unfold rI2 at h
  split at h
  · cases rx.int_inv; cases ry.int_inv
    exact ⟨_, _, rfl, rfl, k _ H _ L .refl hL (hg _ _ _) h.2⟩
  · exact h.elim
abbrev rLtD : DR2 := rI2 (fun _ _ => True) fun i j => .bl (decide (i < j))
abbrev rLeD : DR2 := rI2 (fun _ _ => True) fun i j => .bl (decide (i ≤ j))
abbrev rGtD : DR2 := rI2 (fun _ _ => True) fun i j => .bl (decide (j < i))
abbrev rGeD : DR2 := rI2 (fun _ _ => True) fun i j => .bl (decide (j ≤ i))
theorem pd_lt (ha : PD X H0 a ta) (hb : PD X H0 b tb) : PD X H0 (.Compare a [.Lt] [b] pos) (dOp rLtD ta tb) := pd_cmp op_lt (sim_I0 fun _ _ _ => .bl _) ha hb
theorem pd_le (ha : PD X H0 a ta) (hb : PD X H0 b tb) : PD X H0 (.Compare a [.LtE] [b] pos) (dOp rLeD ta tb) := pd_cmp op_le (sim_I0 fun _ _ _ => .bl _) ha hb
theorem pd_gt (ha : PD X H0 a ta) (hb : PD X H0 b tb) : PD X H0 (.Compare a [.Gt] [b] pos) (dOp rGtD ta tb) := pd_cmp op_gt (sim_I0 fun _ _ _ => .bl _) ha hb
theorem pd_ge (ha : PD X H0 a ta) (hb : PD X H0 b tb) : PD X H0 (.Compare a [.GtE] [b] pos) (dOp rGeD ta tb) := pd_cmp op_ge (sim_I0 fun _ _ _ => .bl _) ha hb
abbrev rSubD : DR2 := rI2 (fun _ _ => True) fun i j => .int (i - j)
abbrev CMulU (i j : Int) : Prop := CMulW i j ∨ CMul i j
abbrev rMulD : DR2 := rI2 CMulU fun i j => .int (i * j)
theorem op_mulU : OpR X (binaryOp .Mult) (rI CMulU fun i j => .int (i * j)) := fun pins s σ H x y v u Q I rx ry ⟨i, j, e1, e2, hc, q⟩ => by
  rcases hc with hc | hc
  · exact op_mulW pins s σ H x y v u Q I rx ry ⟨i, j, e1, e2, hc, q⟩
  · exact op_mul pins s σ H x y v u Q I rx ry ⟨i, j, e1, e2, hc, q⟩
abbrev rDivD : DR2 := rI2 CDivW fun i j => .int (i / j)
abbrev rModD : DR2 := rI2 (fun _ j => 0 < j) fun i j => .int (i % j)
abbrev rPowD : DR2 := rI2 CPow fun i j => .int (i ^ j.toNat)
abbrev rShrD : DR2 := rI2 (fun _ j => 0 ≤ j) fun i j => .int (i / 2 ^ j.toNat)
abbrev rAndD : DR2 := rI2 (fun _ _ => True) fun i j => .int (Builtin.bitAnd i j)
theorem pd_sub (ha : PD X H0 a ta) (hb : PD X H0 b tb) : PD X H0 (.BinOp a .Sub b pos) (dOp rSubD ta tb) := pd_op op_sub (sim_I0 fun _ _ _ => .int _) ha hb
theorem pd_mul (ha : PD X H0 a ta) (hb : PD X H0 b tb) : PD X H0 (.BinOp a .Mult b pos) (dOp rMulD ta tb) := pd_op op_mulU (sim_I fun _ _ _ => .int _) ha hb
theorem pd_div (ha : PD X H0 a ta) (hb : PD X H0 b tb) : PD X H0 (.BinOp a .FloorDiv b pos) (dOp rDivD ta tb) := pd_op op_fdivW (sim_I fun _ _ _ => .int _) ha hb
theorem pd_mod (ha : PD X H0 a ta) (hb : PD X H0 b tb) : PD X H0 (.BinOp a .Mod b pos) (dOp rModD ta tb) := pd_op op_mod (sim_I fun _ _ _ => .int _) ha hb
theorem pd_pow (ha : PD X H0 a ta) (hb : PD X H0 b tb) : PD X H0 (.BinOp a .Pow b pos) (dOp rPowD ta tb) := pd_op op_pow (sim_I fun _ _ _ => .int _) ha hb
theorem pd_shr (ha : PD X H0 a ta) (hb : PD X H0 b tb) : PD X H0 (.BinOp a .RShift b pos) (dOp rShrD ta tb) := pd_op op_shr (sim_I fun _ _ _ => .int _) ha hb
theorem pd_andb (ha : PD X H0 a ta) (hb : PD X H0 b tb) : PD X H0 (.BinOp a .BitAnd b pos) (dOp rAndD ta tb) := pd_op op_and (sim_I0 fun _ _ _ => .int _) ha hb
/-- + of ints, of texts, of lists -/
def rAddD : DR2
  | .int i, .int j, L, Q => Q (.int (i + j)) L
  | .str i, .str j, L, Q => i.length + j.length ≤ sizeLine ∧ Q (.str (i ++ j)) L
  | .ref p, .ref q, L, Q => ∃ xs ys, L p = some (.lst xs) ∧ L q = some (.lst ys) ∧ xs.length + ys.length ≤ sizeLine ∧ ∀ r, L r = none → Q (.ref r) (lupd L r (.lst (xs ++ ys)))
  | _, _, _, _ => False
theorem pd_add (ha : PD X H0 a ta) (hb : PD X H0 b tb) : PD X H0 (.BinOp a .Add b pos) (dOp rAddD ta tb) := by
  refine pd_op (opOr op_add (opOr op_add_str op_cat)) ?_ ha hb
  intro x y H d e L Q' Q rx ry hL h k
  unfold rAddD at h
  split at h
  · cases rx.int_inv; cases ry.int_inv
    exact .inl ⟨_, _, rfl, rfl, k _ H _ L .refl hL (.int _) h⟩
  · cases rx.str_inv; cases ry.str_inv
    exact .inr (.inl ⟨_, _, rfl, rfl, h.1, k _ H _ L .refl hL (.str _) h.2⟩)
  · cases rx.ref_inv; cases ry.ref_inv
    obtain ⟨xs, ys, l1, l2, hz, q⟩ := h
    obtain ⟨vs, s1, r1⟩ := hL.lst l1
    obtain ⟨us, s2, r2⟩ := hL.lst l2
    refine .inr (.inr ⟨_, _, vs, us, rfl, rfl, s1, s2, by rw [r1.length, r2.length]; exact hz, fun r hr => ?_⟩)
    have t := tk_new (K := X.K) (o := .lst (vs ++ us)) hr
    exact k _ _ _ _ t (hL.putL t (r1.append r2)) (.ref r) (q r (hL.none hr))
  · exact h.elim

/-! tests, and, or, not, if else -/
def dB (t : DE) : DT := fun τ L Q => t τ L fun x L1 => ∃ c, x = .bl c ∧ Q c L1
def dAnd (t u : DT) : DT := fun τ L Q => t τ L fun c L1 => if c = true then u τ L1 Q else Q false L1
def dOr (t u : DT) : DT := fun τ L Q => t τ L fun c L1 => if c = true then Q true L1 else u τ L1 Q
def dNot (t : DT) : DT := fun τ L Q => t τ L fun c L1 => Q (!c) L1
variable {t u : DT} {op : CmpOp}
theorem pdt_val {e : Expr} {t : DE} (h : PD X H0 e t) (he : ∀ whole, isTrue e X.env whole = (do let v ← whole; standAt e.pos; holding [v] (truthy v)) := by intro _; rfl) : PDT X H0 e (dB t) :=
  PT.imp (pt_val h he) fun σ H Q ⟨τ, L, Q', I, q, k⟩ => ⟨τ, L, _, I, q, fun v H1 d L1 t1 h1 r1 ⟨c, ed, q1⟩ => by
    subst ed
    exact ⟨c, r1.bl_inv, k c H1 L1 t1 h1 q1⟩⟩
theorem pdt_cmp {r : R2} {R : DR2} (ho : OpR X (compareOp op) r) (hR : Sim2 X.K r R) (ha : PD X H0 a ta) (hb : PD X H0 b tb) (hm : behindInMarks op b = false := by first | exact nobehind _ (by decide) (by decide) | rfl) : PDT X H0 (.Compare a [op] [b] pos) (dB (dOp R ta tb)) :=
  PT.imp (pt_cmpR ho ha hb hm) fun σ H Q ⟨τ, L, Q', I, q, k⟩ => lOp hR σ H _ ⟨τ, L, _, I, q, fun v H1 d L1 t1 h1 r1 ⟨c, ed, q1⟩ => by
    subst ed
    exact ⟨c, r1.bl_inv, k c H1 L1 t1 h1 q1⟩⟩
theorem pdt_eq (hu : X.A.units + 64 < cLine) (ha : PD X H0 a ta) (hb : PD X H0 b tb) : PDT X H0 (.Compare a [.Eq] [b] pos) (dB (dOp (rEqv false) ta tb)) := pdt_cmp (opOr op_eq (op_eqD hu)) sim_eqv ha hb
theorem pdt_ne (hu : X.A.units + 64 < cLine) (ha : PD X H0 a ta) (hb : PD X H0 b tb) : PDT X H0 (.Compare a [.NotEq] [b] pos) (dB (dOp (rEqv true) ta tb)) := pdt_cmp (opOr op_ne (op_neD hu)) sim_nev ha hb
theorem pdt_lt (ha : PD X H0 a ta) (hb : PD X H0 b tb) : PDT X H0 (.Compare a [.Lt] [b] pos) (dB (dOp rLtD ta tb)) := pdt_cmp op_lt (sim_I0 fun _ _ _ => .bl _) ha hb
theorem pdt_le (ha : PD X H0 a ta) (hb : PD X H0 b tb) : PDT X H0 (.Compare a [.LtE] [b] pos) (dB (dOp rLeD ta tb)) := pdt_cmp op_le (sim_I0 fun _ _ _ => .bl _) ha hb
theorem pdt_gt (ha : PD X H0 a ta) (hb : PD X H0 b tb) : PDT X H0 (.Compare a [.Gt] [b] pos) (dB (dOp rGtD ta tb)) := pdt_cmp op_gt (sim_I0 fun _ _ _ => .bl _) ha hb
theorem pdt_ge (ha : PD X H0 a ta) (hb : PD X H0 b tb) : PDT X H0 (.Compare a [.GtE] [b] pos) (dB (dOp rGeD ta tb)) := pdt_cmp op_ge (sim_I0 fun _ _ _ => .bl _) ha hb
theorem lAnd : ∀ σ H Q, lT X.K H0 (dAnd t u) σ H Q → tAnd (lT X.K H0 t) (lT X.K H0 u) σ H Q := fun σ H Q ⟨τ, L, Q', I, q, k⟩ => ⟨τ, L, _, I, q, fun c H1 L1 t1 h1 q1 => by
  cases c with
  | true =>
    rw [if_pos rfl]
    simp only [if_true] at q1
    exact ⟨τ, L1, Q', I.to t1 h1, q1, fun b H2 L2 t2 h2 q2 => k b H2 L2 (t1.trans t2) h2 q2⟩
  | false => exact k false H1 L1 t1 h1 q1⟩
theorem lOr : ∀ σ H Q, lT X.K H0 (dOr t u) σ H Q → tOr (lT X.K H0 t) (lT X.K H0 u) σ H Q := fun σ H Q ⟨τ, L, Q', I, q, k⟩ => ⟨τ, L, _, I, q, fun c H1 L1 t1 h1 q1 => by
  cases c with
  | false =>
    rw [if_neg Bool.false_ne_true]
    simp only [if_false, Bool.false_eq_true] at q1
    exact ⟨τ, L1, Q', I.to t1 h1, q1, fun b H2 L2 t2 h2 q2 => k b H2 L2 (t1.trans t2) h2 q2⟩
  | true => exact k true H1 L1 t1 h1 q1⟩
theorem pdw_and1 (ha : PDT X H0 a t) : PDW X H0 (.BoolOp .And [a] pos) t := pw_and1 ha
theorem pdw_or1 (ha : PDT X H0 a t) : PDW X H0 (.BoolOp .Or [a] pos) t := pw_or1 ha
theorem pdw_and (ha : PDT X H0 a t) (hb : PDW X H0 (.BoolOp .And (b :: rest) pos) u) : PDW X H0 (.BoolOp .And (a :: b :: rest) pos) (dAnd t u) := PW.imp (pw_and ha hb) lAnd
theorem pdw_or (ha : PDT X H0 a t) (hb : PDW X H0 (.BoolOp .Or (b :: rest) pos) u) : PDW X H0 (.BoolOp .Or (a :: b :: rest) pos) (dOr t u) := PW.imp (pw_or ha hb) lOr
theorem PDW.pt (h : PDW X H0 e t) : PDT X H0 e t := PW.pt h
theorem pdt_not (ha : PDT X H0 a t) : PDT X H0 (.UnaryOp .Not a pos) (dNot t) := PT.imp (pt_not ha) fun σ H Q ⟨τ, L, Q', I, q, k⟩ => ⟨τ, L, _, I, q, fun c H1 L1 t1 h1 q1 => k (!c) H1 L1 t1 h1 q1⟩
def dAndV (ta tb : DE) : DE := fun τ L Q => ta τ L fun x L1 => ∃ c, x = .bl c ∧ if c = true then tb τ L1 Q else Q (.bl false) L1
def dOrV (ta tb : DE) : DE := fun τ L Q => ta τ L fun x L1 => ∃ c, x = .bl c ∧ if c = true then Q (.bl true) L1 else tb τ L1 Q
def dNotV (ta : DE) : DE := fun τ L Q => ta τ L fun x L1 => ∃ c, x = .bl c ∧ Q (.bl (!c)) L1
theorem pd_one {op} (h : PD X H0 a ta) : PD X H0 (.BoolOp op [a] pos) ta := pe_one h
theorem pd_and (ha : PD X H0 a ta) (hb : PD X H0 (.BoolOp .And (b :: rest) pos) tb) : PD X H0 (.BoolOp .And (a :: b :: rest) pos) (dAndV ta tb) := PE.imp (pe_and ha hb) fun σ H Q ⟨τ, L, Q', I, q, k⟩ => ⟨τ, L, _, I, q, fun v H1 d L1 t1 h1 r1 ⟨c, ed, q1⟩ => by
  subst ed
  refine ⟨c, r1.bl_inv, ?_⟩
  cases c with
  | true =>
    rw [if_pos rfl]
    simp only [if_true] at q1
    exact ⟨τ, L1, Q', I.to t1 h1, q1, fun b H2 d L2 t2 h2 r2 q2 => k b H2 d L2 (t1.trans t2) h2 r2 q2⟩
  | false => exact k _ H1 _ L1 t1 h1 (.bl false) q1⟩
theorem pd_or (ha : PD X H0 a ta) (hb : PD X H0 (.BoolOp .Or (b :: rest) pos) tb) : PD X H0 (.BoolOp .Or (a :: b :: rest) pos) (dOrV ta tb) := PE.imp (pe_or ha hb) fun σ H Q ⟨τ, L, Q', I, q, k⟩ => ⟨τ, L, _, I, q, fun v H1 d L1 t1 h1 r1 ⟨c, ed, q1⟩ => by
  subst ed
  refine ⟨c, r1.bl_inv, ?_⟩
  cases c with
  | false =>
    rw [if_neg Bool.false_ne_true]
    simp only [if_false, Bool.false_eq_true] at q1
    exact ⟨τ, L1, Q', I.to t1 h1, q1, fun b H2 d L2 t2 h2 r2 q2 => k b H2 d L2 (t1.trans t2) h2 r2 q2⟩
  | true => exact k _ H1 _ L1 t1 h1 (.bl true) q1⟩
theorem pd_not (ha : PD X H0 a ta) : PD X H0 (.UnaryOp .Not a pos) (dNotV ta) := PE.imp (pe_not ha) fun σ H Q ⟨τ, L, Q', I, q, k⟩ => ⟨τ, L, _, I, q, fun v H1 d L1 t1 h1 r1 ⟨c, ed, q1⟩ => by
  subst ed
  exact ⟨c, r1.bl_inv, k _ H1 _ L1 t1 h1 (.bl (!c)) q1⟩⟩
def dIf (t : DT) (ta tb : DE) : DE := fun τ L Q => t τ L fun c L1 => if c = true then ta τ L1 Q else tb τ L1 Q
theorem pd_if (hc : PDT X H0 c t) (ha : PD X H0 a ta) (hb : PD X H0 b tb) : PD X H0 (.IfExp c a b pos) (dIf t ta tb) := PE.imp (pe_ifExp hc ha hb) fun σ H Q ⟨τ, L, Q', I, q, k⟩ => ⟨τ, L, _, I, q, fun c H1 L1 t1 h1 q1 => by
  cases c with
  | true =>
    rw [if_pos rfl]
    simp only [if_true] at q1
    exact ⟨τ, L1, Q', I.to t1 h1, q1, fun b H2 d L2 t2 h2 r2 q2 => k b H2 d L2 (t1.trans t2) h2 r2 q2⟩
  | false =>
    rw [if_neg Bool.false_ne_true]
    simp only [if_false, Bool.false_eq_true] at q1
    exact ⟨τ, L1, Q', I.to t1 h1, q1, fun b H2 d L2 t2 h2 r2 q2 => k b H2 d L2 (t1.trans t2) h2 r2 q2⟩⟩

/-! argument lists, displays -/
def dNil : DA := fun _ L Q => Q [] L
def dCons (ta : DE) (tr : DA) : DA := fun τ L Q => ta τ L fun x L1 => tr τ L1 fun xs L2 => Q (x :: xs) L2
variable {tr : DA}
theorem pda_nil : PDA X H0 [] dNil := PA.imp pa_nil fun σ H Q ⟨τ, L, Q', I, q, k⟩ => k [] H [] L .refl I.hp .nil q
theorem pda_cons (ha : PD X H0 a ta) (hr : PDA X H0 es tr) (hs : starEach (a :: es) X.env = (false, eval a X.env) :: starEach es X.env := by rfl) : PDA X H0 (a :: es) (dCons ta tr) :=
  PA.imp (pa_cons ha hr hs) fun σ H Q ⟨τ, L, Q', I, q, k⟩ => ⟨τ, L, _, I, q, fun v H1 d L1 t1 h1 r1 q1 => ⟨τ, L1, _, I.to t1 h1, q1, fun vs H2 ds L2 t2 h2 r2 q2 => k (v :: vs) H2 (d :: ds) L2 (t1.trans t2) h2 (.cons (r1.mono t2) r2) q2⟩⟩
def dTup (t : DA) : DE := fun τ L Q => t τ L fun ds L1 => ds.length ≤ sizeLine ∧ Q (.tup ds) L1
def dLst (t : DA) : DE := fun τ L Q => t τ L fun ds L1 => ds.length ≤ sizeLine ∧ ∀ p, L1 p = none → Q (.ref p) (lupd L1 p (.lst ds))
theorem pd_tup {x1} (h : PDA X H0 es tr) : PD X H0 (.Tuple es x1 pos) (dTup tr) := PE.imp (pe_tup h) fun σ H Q ⟨τ, L, Q', I, q, k⟩ => ⟨τ, L, _, I, q, fun vs H1 ds L1 t1 h1 r1 ⟨hz, q1⟩ =>
  ⟨by rw [r1.length]; exact hz, fun p hp => k _ _ _ L1 (t1.trans (tk_new hp)) (h1.grow hp) (.tup (.inl (.inl upd_same)) (r1.mono (tk_new hp))) q1⟩⟩
theorem pd_lst (h : PDA X H0 es tr) : PD X H0 (.List es pos) (dLst tr) := PE.imp (pe_lst h) fun σ H Q ⟨τ, L, Q', I, q, k⟩ => ⟨τ, L, _, I, q, fun vs H1 ds L1 t1 h1 r1 ⟨hz, q1⟩ =>
  ⟨by rw [r1.length]; exact hz, fun p hp => k _ _ _ _ (t1.trans (tk_new hp)) (h1.putL (tk_new hp) r1) (.ref p) (q1 p (h1.none hp))⟩⟩
end

/-! ### subscripts, slices -/
def rIxD : DR2
  | .tup ds, .int i, L, Q => ∃ d, atI ds i = some d ∧ Q d L
  | .fls ds, .int i, L, Q => ∃ d, atI ds i = some d ∧ Q d L
  | .ref a, .int i, L, Q => ∃ ds d, LRd L a ds ∧ atI ds i = some d ∧ Q d L
  | .str z, .int i, L, Q => z.length ≤ sizeLine ∧ ∃ c, atI z.cps.toList i = some c ∧ Q (.str ⟨#[c]⟩) L
  | _, _, _, _ => False
theorem at_rp {K : PySem.W.Frag} {H : Hp} {xs : List V} {ds : List D} {i : Int} {d : D} (r : RpL K H xs ds) (h : atI ds i = some d) : ∃ v, atI xs i = some v ∧ Rp K H v d := by
  unfold atI at h ⊢
  rw [r.length]
  cases e : ixN ds.length i with
  | none => rw [e] at h; cases h
  | some j =>
    rw [e] at h
    exact r.get (show ds[j]? = some d from h)
section
variable {X : Cx} {H0 : Hp} {a b c e : Expr} {es rest : List Expr} {pos p2 : Pos} {ta tb tc te : DE} {tr : DA}
theorem pd_ix (ha : PD X H0 a ta) (hb : PD X H0 b tb) (hs : PlainIx b := by exact fun _ _ => rfl) : PD X H0 (.Subscript a b pos) (dOp rIxD ta tb) := PE.imp (pe_ix ix_seq ha hb hs) (lOp (by
  intro x y H d e L Q' Q rx ry hL h k
  unfold rIxD at h
  split at h
  · obtain ⟨d, hd, q⟩ := h
    cases ry.int_inv
    cases rx with
    | tup s r =>
      obtain ⟨v, hv, rv⟩ := at_rp r hd
      exact .inr (.inl ⟨_, _, _, _, rfl, rfl, s, hv, k _ H _ L .refl hL rv q⟩)
  · obtain ⟨d, hd, q⟩ := h
    cases ry.int_inv
    cases rx with
    | fls s r =>
      obtain ⟨v, hv, rv⟩ := at_rp r hd
      exact .inl ⟨_, _, _, _, rfl, rfl, s.1, hv, k _ H _ L .refl hL rv q⟩
  · obtain ⟨ds, d, hl, hd, q⟩ := h
    cases rx.ref_inv; cases ry.int_inv
    obtain ⟨xs, s, r⟩ := hL.rd hl
    obtain ⟨v, hv, rv⟩ := at_rp r hd
    exact .inl ⟨_, _, _, _, rfl, rfl, s, hv, k _ H _ L .refl hL rv q⟩
  · obtain ⟨hz, c, hc, q⟩ := h
    cases rx.str_inv; cases ry.int_inv
    exact .inr (.inr ⟨_, _, _, rfl, rfl, hz, hc, k _ H _ L .refl hL (.str _) q⟩)
  · exact h.elim))
abbrev DO := DSt → LHp → (Option Int → LHp → Prop) → Prop
def lO (K : PySem.W.Frag) (H0 : Hp) (t : DO) : TO := fun σ H Q => ∃ τ L Q', Ins K H0 σ H τ L ∧ t τ L Q' ∧ ∀ b H' L', TK K H H' → HRp K L' H' → Q' b L' → Q b H'
def PDO (X : Cx) (H0 : Hp) (e : Option Expr) (t : DO) : Prop := PO X e (lO X.K H0 t)
theorem PO.imp {e : Option Expr} {t t' : TO} (h : PO X e t) (w : ∀ σ H Q, t' σ H Q → t σ H Q) : PO X e t' := ⟨fun pins s σ H Q I q => h.run pins s σ H Q I (w σ H Q q)⟩
def dNoPart : DO := fun _ L Q => Q none L
def dPart (t : DE) : DO := fun τ L Q => t τ L fun x L1 => ∃ i, x = .int i ∧ Q (some i) L1
theorem pdo_none : PDO X H0 none dNoPart := PO.imp po_none fun σ H Q ⟨τ, L, Q', I, q, k⟩ => k none H L .refl I.hp q
theorem pdo_some (h : PD X H0 e te) : PDO X H0 (some e) (dPart te) := PO.imp (po_some h) fun σ H Q ⟨τ, L, Q', I, q, k⟩ => ⟨τ, L, _, I, q, fun v H1 d L1 t1 h1 r1 ⟨i, ed, q1⟩ => by
  subst ed
  exact ⟨i, r1.int_inv, k _ H1 L1 t1 h1 q1⟩⟩
def cutD (xs : List D) (lo hi : Option Int) : List D := (xs.drop (HT.sIx xs.length 0 lo)).take (HT.sIx xs.length xs.length hi - HT.sIx xs.length 0 lo)
def rSlD : D → Option Int → Option Int → LHp → DK → Prop
  | .str z, lo, hi, L, Q => z.length ≤ sizeLine ∧ Q (.str (cutS z lo hi)) L
  | .ref a, lo, hi, L, Q => ∃ ds, LRd L a ds ∧ ∀ p, L p = none → Q (.ref p) (lupd L p (.lst (cutD ds lo hi)))
  | _, _, _, _, _ => False
def dSl (te : DE) (tl th : DO) : DE := fun τ L Q => te τ L fun x L1 => tl τ L1 fun l L2 => th τ L2 fun u L3 => rSlD x l u L3 Q
theorem pd_slice {lo hi : Option Expr} {tl th : DO} (he : PD X H0 e te) (hl : PDO X H0 lo tl) (hu : PDO X H0 hi th) : PD X H0 (.Subscript e (.Slice lo hi none p2) pos) (dSl te tl th) :=
  PE.imp (pe_slice (SlR.or sl_str sl_list) he hl hu) fun σ H Q ⟨τ, L, Q', I, q, k⟩ => ⟨τ, L, _, I, q, fun v H1 d L1 t1 h1 r1 q1 => ⟨τ, L1, _, I.to t1 h1, q1, fun l H2 L2 t2 h2 q2 => ⟨τ, L2, _, (I.to t1 h1).to t2 h2, q2, fun u H3 L3 t3 h3 q3 => by
    have r3 := r1.mono (t2.trans t3)
    have t123 := t1.trans (t2.trans t3)
    unfold rSlD at q3
    split at q3
    · cases r3.str_inv
      exact .inl ⟨_, rfl, q3.1, k _ _ _ _ t123 h3 (.str _) q3.2⟩
    · cases r3.ref_inv
      obtain ⟨ds, hd, q3⟩ := q3
      obtain ⟨xs, s, r⟩ := h3.rd hd
      refine .inr ⟨_, xs, rfl, s, fun p hp => ?_⟩
      have r' : RpL X.K H3 (cutV xs l u) (cutD ds l u) := by
        unfold cutV cutD
        rw [r.length]
        exact (r.drop _).take _
      exact k _ _ _ _ (t123.trans (tk_new hp)) (h3.putL (tk_new hp) r') (.ref p) (q3 p (h3.none hp))
    · exact q3.elim⟩⟩⟩

/-! ### built-in calls -/
abbrev DRC := List D → LHp → DK → Prop
def SimC (K : PySem.W.Frag) (r : List V → Hp → VK → Prop) (R : DRC) : Prop := ∀ xs H ds L (Q' : DK) (Q : VK), RpL K H xs ds → HRp K L H → R ds L Q' → (∀ v H' c L', TK K H H' → HRp K L' H' → Rp K H' v c → Q' c L' → Q v H') → r xs H Q
def dCB (R : DRC) (t : DA) : DE := fun τ L Q => t τ L fun ds L1 => R ds L1 Q
theorem lCB {r : List V → Hp → VK → Prop} {R : DRC} (hR : SimC X.K r R) : ∀ σ H Q, lE X.K H0 (dCB R tr) σ H Q → tCB r (lA X.K H0 tr) σ H Q := fun σ H Q ⟨τ, L, Q', I, q, k⟩ => ⟨τ, L, _, I, q, fun vs H1 ds L1 t1 h1 r1 q1 =>
  hR vs H1 ds L1 Q' Q r1 h1 q1 fun v H' c L' t2 h2 r2 q2 => k v H' c L' (t1.trans t2) h2 r2 q2⟩
theorem callOr {f : Value} {r r' : List V → Hp → VK → Prop} (h : CallR X f r) (h' : CallR X f r') : CallR X f (fun xs H Q => r xs H Q ∨ r' xs H Q) := fun pins s σ H xs us Q I rv q => by
  rcases q with q | q
  · exact h pins s σ H xs us Q I rv q
  · exact h' pins s σ H xs us Q I rv q
theorem pd_cb {id : String} {x : Str} {p : Pos} {r : List V → Hp → VK → Prop} {R : DRC} (hc : CallR X (.builtin id) r) (hR : SimC X.K r R) (hg : Gl X x) (hm : X.mg x = none) (hv : bootBuiltins x = some (.builtin id)) (ha : PDA X H0 (e :: es) tr) (hn : x ≠ "__name__" := by decide) (hdb : (x == ("__debug__" : Str)) = false := by decide)
    (he : starEach (e :: es) X.env = (false, eval e X.env) :: starEach es X.env := by rfl) (hpl : (backTo pos (starEach es X.env)).any (·.1) = false := by rfl) : PD X H0 (.Call (.Name x p) (e :: es) [] pos) (dCB R tr) := PE.imp (pe_callB hc hg hm hv ha hn hdb he hpl) (lCB hR)
theorem pd_cty {T : String} {x : Str} {p : Pos} {r : List V → Hp → VK → Prop} {R : DRC} (hc : CallR X (.type T) r) (hR : SimC X.K r R) (hg : Gl X x) (hm : X.mg x = none) (hv : bootBuiltins x = some (.type T)) (ha : PDA X H0 (e :: es) tr) (hn : x ≠ "__name__" := by decide) (hdb : (x == ("__debug__" : Str)) = false := by decide)
    (he : starEach (e :: es) X.env = (false, eval e X.env) :: starEach es X.env := by rfl) (hpl : (backTo pos (starEach es X.env)).any (·.1) = false := by rfl) : PD X H0 (.Call (.Name x p) (e :: es) [] pos) (dCB R tr) := PE.imp (pe_callTy hc hg hm hv ha hn hdb he hpl) (lCB hR)

def rLenD : DRC
  | [.tup ds], L, Q => Q (.int ds.length) L
  | [.fls ds], L, Q => Q (.int ds.length) L
  | [.ref a], L, Q => ∃ ds, LRd L a ds ∧ Q (.int ds.length) L
  | [.str z], L, Q => z.length ≤ sizeLine ∧ Q (.int z.length) L
  | _, _, _ => False
theorem sim_len : SimC X.K (fun xs H Q => ∃ x n, xs = [x] ∧ LenV X.K x H n ∧ Q (.int n) H) rLenD := by
  intro xs H ds L Q' Q r hL h k
  unfold rLenD at h
  split at h
  · obtain ⟨v, rfl, rv⟩ := r.one
    cases rv with
    | tup s r2 => exact ⟨_, _, rfl, .inr ⟨_, s, rfl⟩, k _ H _ L .refl hL (.int _) (by rw [r2.length]; exact h)⟩
  · obtain ⟨v, rfl, rv⟩ := r.one
    cases rv with
    | fls s r2 => exact ⟨_, _, rfl, .inl ⟨_, s.1, rfl⟩, k _ H _ L .refl hL (.int _) (by rw [r2.length]; exact h)⟩
  · obtain ⟨v, rfl, rv⟩ := r.one
    obtain ⟨ds, hd, q⟩ := h
    cases rv.ref_inv
    obtain ⟨xs, s, r2⟩ := hL.rd hd
    exact ⟨_, _, rfl, .inl ⟨_, s, rfl⟩, k _ H _ L .refl hL (.int _) (by rw [r2.length]; exact q)⟩
  · obtain ⟨v, rfl, rv⟩ := r.one
    cases rv.str_inv
    exact ⟨_, _, rfl, ⟨h.1, rfl⟩, k _ H _ L .refl hL (.int _) h.2⟩
  · exact h.elim
def rIntD : DRC
  | [.int i], L, Q => Q (.int i) L
  | [.bl b], L, Q => Q (.int (if b then 1 else 0)) L
  | [.str a], L, Q => ∃ n, PySem.intText? a = some n ∧ a.length ≤ 640 ∧ Q (.int n) L
  | _, _, _ => False
theorem call_intU : CallR X (.type "int") (fun xs H Q => ((∃ i, xs = [.int i] ∧ Q (.int i) H) ∨ ∃ k, xs = [.bl k] ∧ Q (.int (if k then 1 else 0)) H) ∨ (∃ a n, xs = [.str a] ∧ PySem.intText? a = some n ∧ a.length ≤ 640 ∧ Q (.int n) H)) := callOr call_int1 call_int_str
theorem sim_int : SimC X.K (fun xs H Q => ((∃ i, xs = [.int i] ∧ Q (.int i) H) ∨ ∃ k, xs = [.bl k] ∧ Q (.int (if k then 1 else 0)) H) ∨ (∃ a n, xs = [.str a] ∧ PySem.intText? a = some n ∧ a.length ≤ 640 ∧ Q (.int n) H)) rIntD := by
  intro xs H ds L Q' Q r hL h k
  unfold rIntD at h
  split at h
  · obtain ⟨v, rfl, rv⟩ := r.one
    cases rv.int_inv
    exact .inl (.inl ⟨_, rfl, k _ H _ L .refl hL (.int _) h⟩)
  · obtain ⟨v, rfl, rv⟩ := r.one
    cases rv.bl_inv
    exact .inl (.inr ⟨_, rfl, k _ H _ L .refl hL (.int _) h⟩)
  · obtain ⟨v, rfl, rv⟩ := r.one
    cases rv.str_inv
    obtain ⟨n, h1, h2, q⟩ := h
    exact .inr ⟨_, n, rfl, h1, h2, k _ H _ L .refl hL (.int _) q⟩
  · exact h.elim
def rStrD : DRC
  | [.int i], L, Q => i.natAbs.log2 < 1920 ∧ Q (.str (toString i)) L
  | _, _, _ => False
theorem sim_str : SimC X.K (fun xs H Q => ∃ i, xs = [.int i] ∧ i.natAbs.log2 < 1920 ∧ Q (.str (toString i)) H) rStrD := by
  intro xs H ds L Q' Q r hL h k
  unfold rStrD at h
  split at h
  · obtain ⟨v, rfl, rv⟩ := r.one
    cases rv.int_inv
    exact ⟨_, rfl, h.1, k _ H _ L .refl hL (.str _) h.2⟩
  · exact h.elim
def rAbsD : DRC
  | [.int i], L, Q => Q (.int (if i < 0 then -i else i)) L
  | _, _, _ => False
theorem sim_abs : SimC X.K (fun xs H Q => ∃ i, xs = [.int i] ∧ Q (.int (if i < 0 then -i else i)) H) rAbsD := by
  intro xs H ds L Q' Q r hL h k
  unfold rAbsD at h
  split at h
  · obtain ⟨v, rfl, rv⟩ := r.one
    cases rv.int_inv
    exact ⟨_, rfl, k _ H _ L .refl hL (.int _) h⟩
  · exact h.elim
def rI2C (g : Int → Int → Int) : DRC
  | [.int i, .int j], L, Q => Q (.int (g i j)) L
  | _, _, _ => False
theorem sim_I2C {g : Int → Int → Int} : SimC X.K (fun xs H Q => ∃ i j, xs = [.int i, .int j] ∧ Q (.int (g i j)) H) (rI2C g) := by
  intro xs H ds L Q' Q r hL h k
  unfold rI2C at h
  split at h
  · obtain ⟨v, u, rfl, rv, ru⟩ := r.two
    cases rv.int_inv; cases ru.int_inv
    exact ⟨_, _, rfl, k _ H _ L .refl hL (.int _) h⟩
  · exact h.elim
abbrev rMaxD : DRC := rI2C fun i j => if j > i then j else i
abbrev rMinD : DRC := rI2C fun i j => if j < i then j else i
abbrev rGcdD : DRC := rI2C fun i j => ((Nat.gcd i.natAbs j.natAbs : Nat) : Int)
/-- the built-in type of a value -/
def tyD (L : LHp) : D → String → Prop
  | .non, t => t = "NoneType"
  | .bl _, t => t = "bool"
  | .int _, t => t = "int"
  | .str _, t => t = "str"
  | .tup _, t => t = "tuple"
  | .ref a, t => ((∃ ds, LRd L a ds) ∧ t = "list") ∨ ((∃ kvs, L a = some (.dk kvs)) ∧ t = "dict")
  | .ty _, _ => False
  | .fls _, _ => False
  | .exc _ _ _, _ => False
  | .cls _, _ => False
theorem tyX_of {K : PySem.W.Frag} {H : Hp} {L : LHp} {v : V} {d : D} {t : String} (r : Rp K H v d) (hL : HRp K L H) (h : tyD L d t) : TyX K H v (.type t) := by
  cases d with
  | non => cases r.non_inv; cases (show t = "NoneType" from h); exact .base .non
  | bl b => cases r.bl_inv; cases (show t = "bool" from h); exact .base (.bl _)
  | int b => cases r.int_inv; cases (show t = "int" from h); exact .base (.int _)
  | str b => cases r.str_inv; cases (show t = "str" from h); exact .base (.str _)
  | tup ds =>
    cases (show t = "tuple" from h)
    cases r with
    | tup s _ =>
      rcases s with (s | ⟨o, s⟩) | ⟨o, its, n, s, c, _⟩
      · exact .base (.tup s)
      · exact .fTuple s
      · exact .kTuple s c
  | ref a =>
    rcases (show ((∃ ds, LRd L a ds) ∧ t = "list") ∨ ((∃ kvs, L a = some (.dk kvs)) ∧ t = "dict") from h) with ⟨⟨ds, hd⟩, e⟩ | ⟨⟨kvs, hd⟩, e⟩
    · cases r.ref_inv; cases e
      obtain ⟨xs, s, _⟩ := hL.rd hd
      rcases s with (s | ⟨o, s⟩) | ⟨o, its, n, s, c, _⟩
      · exact .base (.lst s)
      · exact .base (.frz s)
      · exact .kList s c
    · cases r.ref_inv; cases e
      obtain ⟨xs, s, _⟩ := hL _ _ hd
      rcases s with s | ⟨o, s⟩
      · exact .base (.dK s)
      · exact .fDict s
  | ty n => exact (show False from h).elim
  | fls n => exact (show False from h).elim
  | exc c ns ds => exact (show False from h).elim
  | cls c => exact (show False from h).elim
def rIsiD : DRC
  | [d, .ty n], L, Q => ∃ t b, tyD L d t ∧ kitB t n = some b ∧ Q (.bl b) L
  | _, _, _ => False
theorem sim_isi : SimC X.K (rIsi X.K) rIsiD := by
  intro xs H ds L Q' Q r hL h k
  unfold rIsiD at h
  split at h
  · obtain ⟨v, u, rfl, rv, ru⟩ := r.two
    cases ru.ty_inv
    obtain ⟨t, b, h1, h2, q⟩ := h
    exact ⟨v, _, _, _, b, rfl, .ty _, tyX_of rv hL h1, kit_ty h2, k _ H _ L .refl hL (.bl _) q⟩
  · exact h.elim
def rListD : DRC
  | [.ref a], L, Q => ∃ ds, LRd L a ds ∧ ∀ p, L p = none → Q (.ref p) (lupd L p (.lst ds))
  | [.tup ds], L, Q => ∀ p, L p = none → Q (.ref p) (lupd L p (.lst ds))
  | _, _, _ => False
theorem sim_list : SimC X.K (fun xs H Q => ∃ p ys, xs = [.ref p] ∧ (SqL X.K H p ys ∨ SqT X.K H p ys) ∧ ∀ l, H l = none → Q (.ref l) (upd H l (.lst ys))) rListD := by
  intro xs H ds L Q' Q r hL h k
  unfold rListD at h
  split at h
  · obtain ⟨v, rfl, rv⟩ := r.one
    obtain ⟨ds, hd, q⟩ := h
    cases rv.ref_inv
    obtain ⟨xs, s, r2⟩ := hL.rd hd
    exact ⟨_, _, rfl, .inl s, fun p hp => k _ _ _ _ (tk_new hp) (hL.putL (tk_new hp) r2) (.ref p) (q p (hL.none hp))⟩
  · obtain ⟨v, rfl, rv⟩ := r.one
    cases rv with
    | tup s r2 => exact ⟨_, _, rfl, .inr s, fun p hp => k _ _ _ _ (tk_new hp) (hL.putL (tk_new hp) r2) (.ref p) (h p (hL.none hp))⟩
  · exact h.elim
def rAllD : DRC
  | [.ref a], L, Q => ∃ bs : List Bool, LRd L a (bs.map .bl) ∧ Q (.bl (bs.all id)) L
  | _, _, _ => False
theorem rp_bls {K : PySem.W.Frag} {H : Hp} : ∀ {bs : List Bool} {xs : List V}, RpL K H xs (bs.map .bl) → xs = bs.map .bl
  | [], _, r => by cases r; rfl
  | b :: bs, _, r => by
    rw [List.map_cons] at r
    cases r with
    | cons r1 r2 =>
      cases r1.bl_inv
      rw [rp_bls r2, List.map_cons]
theorem sim_all : SimC X.K (rAll X.K) rAllD := by
  intro xs H ds L Q' Q r hL h k
  unfold rAllD at h
  split at h
  · obtain ⟨v, rfl, rv⟩ := r.one
    obtain ⟨bs, hd, q⟩ := h
    cases rv.ref_inv
    obtain ⟨xs, s, r2⟩ := hL.rd hd
    cases rp_bls r2
    exact ⟨_, bs, rfl, s, k _ H _ L .refl hL (.bl _) q⟩
  · exact h.elim
theorem pd_gcd {x : Str} {p : Pos} (hg : Gl X x) (hm : X.mg x = some (.builtin "math.gcd")) (ha : PDA X H0 (e :: es) tr) (hdb : (x == ("__debug__" : Str)) = false := by decide)
    (he : starEach (e :: es) X.env = (false, eval e X.env) :: starEach es X.env := by rfl) (hpl : (backTo pos (starEach es X.env)).any (·.1) = false := by rfl) : PD X H0 (.Call (.Name x p) (e :: es) [] pos) (dCB rGcdD tr) := PE.imp (pe_callBfun cr_gcd hg hm ha hdb he hpl) (lCB sim_I2C)
def dBits (t : DE) : DE := fun τ L Q => t τ L fun x L1 => ∃ i, x = .int i ∧ Q (.int (Builtin.Int.intBits i : Nat)) L1
theorem pd_bits {o : Expr} {to : DE} {apos pos : Pos} (ho : PD X H0 o to) (hbase : attributeBase o "bit_length" X.env (eval o X.env) = eval o X.env := by rfl) (hline : (apos.endLine == pos.line) = true := by rfl) : PD X H0 (.Call (.Attribute o "bit_length" apos) [] [] pos) (dBits to) :=
  PE.imp (pe_bits ho hbase hline) fun σ H Q ⟨τ, L, Q', I, q, k⟩ => ⟨τ, L, _, I, q, fun v H1 d L1 t1 h1 r1 ⟨i, ed, q1⟩ => by
    subst ed
    exact ⟨i, r1.int_inv, k _ H1 _ L1 t1 h1 (.int _) q1⟩⟩

/-! ### methods of lists and texts -/
abbrev DRM := D → List D → LHp → DK → Prop
def SimM (K : PySem.W.Frag) (r : V → List V → Hp → VK → Prop) (R : DRM) : Prop := ∀ x xs H d ds L (Q' : DK) (Q : VK), Rp K H x d → RpL K H xs ds → HRp K L H → R d ds L Q' → (∀ v H' c L', TK K H H' → HRp K L' H' → Rp K H' v c → Q' c L' → Q v H') → r x xs H Q
def tyM (T : String) (L : LHp) : D → Prop
  | .str _ => T = "str"
  | .ref a => T = "list" ∧ ∃ ds, LRd L a ds
  | _ => False
theorem tyV_of {K : PySem.W.Frag} {H : Hp} {L : LHp} {T : String} {v : V} {d : D} (r : Rp K H v d) (hL : HRp K L H) (h : tyM T L d) : tyV K T v H := by
  cases d with
  | str z => cases r.str_inv; exact h
  | ref a =>
    cases r.ref_inv
    obtain ⟨e, ds, hd⟩ := (show T = "list" ∧ ∃ ds, LRd L a ds from h)
    obtain ⟨xs, s, _⟩ := hL.rd hd
    exact .inl ⟨e, xs, s⟩
  | _ => exact (show False from h).elim
def dBM (T : String) (R : DRM) (to : DE) (t : DA) : DE := fun τ L Q => to τ L fun x L1 => tyM T L1 x ∧ t τ L1 fun ds L2 => R x ds L2 Q
theorem pd_bm {o : Expr} {to : DE} {name : Str} {apos cpos : Pos} {T id : String} {r : V → List V → Hp → VK → Prop} {R : DRM} (pa : PlainAttrs T) (slot : Slot T name id) (hty : typeOf (.builtin id) = pure (.type "method_descriptor")) (hm : MtR X id r) (hR : SimM X.K r R) (ho : PD X H0 o to) (ha : PDA X H0 (e :: es) tr)
    (hbase : attributeBase o name X.env (eval o X.env) = eval o X.env := by rfl)
    (hfew : ((backTo cpos (starEach (e :: es) X.env)).all (fun x => !x.1) && (backToKw cpos (keywordEach [] X.env)).all (fun x => x.1.isSome)
      && decide ((e :: es).length + ([] : List Keyword).length + (if ([] : List Keyword).isEmpty then 0 else 1) < 30)) = true := by rfl)
    (hline : (apos.endLine == cpos.line) = true := by rfl) (hs : starEach (e :: es) X.env = (false, eval e X.env) :: starEach es X.env := by rfl) (hplain : (backTo cpos (starEach es X.env)).any (·.1) = false := by rfl) :
    PD X H0 (.Call (.Attribute o name apos) (e :: es) [] cpos) (dBM T R to tr) := PE.imp (pe_bm pa slot hty hm ho ha hbase hfew hline hs hplain) fun σ H Q ⟨τ, L, Q', I, q, k⟩ => ⟨τ, L, _, I, q, fun v H1 d L1 t1 h1 r1 ⟨ty, q1⟩ =>
      ⟨tyV_of r1 h1 ty, τ, L1, _, I.to t1 h1, q1, fun vs H2 ds L2 t2 h2 r2 q2 => hR v vs H2 d ds L2 Q' Q (r1.mono t2) r2 h2 q2 fun u H3 c L3 t3 h3 r3 q3 => k u H3 c L3 (t1.trans (t2.trans t3)) h3 r3 q3⟩⟩
def rAppD : DRM
  | .ref a, [d], L, Q => ∃ xs, L a = some (.lst xs) ∧ xs.length < sizeLine ∧ Q .non (lupd L a (.lst (xs ++ [d])))
  | _, _, _, _ => False
theorem sim_app : SimM X.K rAppend rAppD := by
  intro x xs H d ds L Q' Q rx r hL h k
  unfold rAppD at h
  split at h
  · obtain ⟨v, rfl, rv⟩ := r.one
    obtain ⟨ys, hl, hz, q⟩ := h
    cases rx.ref_inv
    obtain ⟨vs, hv, r2⟩ := hL.lst hl
    exact ⟨_, vs, v, rfl, rfl, hv, by rw [r2.length]; exact hz, k _ _ _ _ (tk_lst hv) (hL.putL (tk_lst hv) (r2.append (.cons rv .nil))) .non q⟩
  · exact h.elim
theorem pd_append {o : Expr} {to : DE} {apos cpos : Pos} (ho : PD X H0 o to) (ha : PDA X H0 (e :: es) tr) (hbase : attributeBase o "append" X.env (eval o X.env) = eval o X.env := by rfl)
    (hfew : ((backTo cpos (starEach (e :: es) X.env)).all (fun x => !x.1) && (backToKw cpos (keywordEach [] X.env)).all (fun x => x.1.isSome)
      && decide ((e :: es).length + ([] : List Keyword).length + (if ([] : List Keyword).isEmpty then 0 else 1) < 30)) = true := by rfl)
    (hline : (apos.endLine == cpos.line) = true := by rfl) (hs : starEach (e :: es) X.env = (false, eval e X.env) :: starEach es X.env := by rfl) (hplain : (backTo cpos (starEach es X.env)).any (·.1) = false := by rfl) :
    PD X H0 (.Call (.Attribute o "append" apos) (e :: es) [] cpos) (dBM "list" rAppD to tr) := pd_bm PySem.F.plainAttrs_list PySem.F.slot_list_append PySem.F.type_list_append mt_append sim_app ho ha hbase hfew hline hs hplain
def rPopD : DRM
  | .ref a, [.int i], L, Q => ∃ xs k y, L a = some (.lst xs) ∧ (-(2 ^ 63) ≤ i ∧ i < 2 ^ 63) ∧ seqIndex? i xs.length = some k ∧ xs[k]? = some y ∧ Q y (lupd L a (.lst (xs.eraseIdx k)))
  | _, _, _, _ => False
theorem sim_pop : SimM X.K rPopAt rPopD := by
  intro x xs H d ds L Q' Q rx r hL h k
  unfold rPopD at h
  split at h
  · obtain ⟨v, rfl, rv⟩ := r.one
    obtain ⟨ys, j, y, hl, ⟨h0, h1⟩, hi, hj, q⟩ := h
    cases rx.ref_inv; cases rv.int_inv
    obtain ⟨vs, hv, r2⟩ := hL.lst hl
    obtain ⟨u, hu, ru⟩ := r2.get hj
    exact ⟨_, vs, _, j, u, rfl, rfl, hv, h0, h1, by rw [r2.length]; exact hi, hu, k _ _ _ _ (tk_lst hv) (hL.putL (tk_lst hv) (r2.erase j)) (ru.mono (tk_lst hv)) q⟩
  · exact h.elim
theorem pd_popAt {o : Expr} {to : DE} {apos cpos : Pos} (ho : PD X H0 o to) (ha : PDA X H0 (e :: es) tr) (hbase : attributeBase o "pop" X.env (eval o X.env) = eval o X.env := by rfl)
    (hfew : ((backTo cpos (starEach (e :: es) X.env)).all (fun x => !x.1) && (backToKw cpos (keywordEach [] X.env)).all (fun x => x.1.isSome)
      && decide ((e :: es).length + ([] : List Keyword).length + (if ([] : List Keyword).isEmpty then 0 else 1) < 30)) = true := by rfl)
    (hline : (apos.endLine == cpos.line) = true := by rfl) (hs : starEach (e :: es) X.env = (false, eval e X.env) :: starEach es X.env := by rfl) (hplain : (backTo cpos (starEach es X.env)).any (·.1) = false := by rfl) :
    PD X H0 (.Call (.Attribute o "pop" apos) (e :: es) [] cpos) (dBM "list" rPopD to tr) := pd_bm PySem.F.plainAttrs_list PySem.F.slot_list_pop PySem.F.type_list_pop mt_popAt sim_pop ho ha hbase hfew hline hs hplain
def rInsD : DRM
  | .ref a, [.int i, y], L, Q => ∃ xs, L a = some (.lst xs) ∧ xs.length < sizeLine ∧ 0 ≤ i ∧ i < 2 ^ 63 ∧ Q .non (lupd L a (.lst (xs.take i.toNat ++ [y] ++ xs.drop i.toNat)))
  | _, _, _, _ => False
theorem pd_insert {o : Expr} {to : DE} {apos cpos : Pos} (ho : PD X H0 o to) (ha : PDA X H0 (e :: es) tr) (hbase : attributeBase o "insert" X.env (eval o X.env) = eval o X.env := by rfl)
    (hfew : ((backTo cpos (starEach (e :: es) X.env)).all (fun x => !x.1) && (backToKw cpos (keywordEach [] X.env)).all (fun x => x.1.isSome)
      && decide ((e :: es).length + ([] : List Keyword).length + (if ([] : List Keyword).isEmpty then 0 else 1) < 30)) = true := by rfl)
    (hline : (apos.endLine == cpos.line) = true := by rfl) (hs : starEach (e :: es) X.env = (false, eval e X.env) :: starEach es X.env := by rfl) (hplain : (backTo cpos (starEach es X.env)).any (·.1) = false := by rfl) :
    PD X H0 (.Call (.Attribute o "insert" apos) (e :: es) [] cpos) (dBM "list" rInsD to tr) := by
  refine pd_bm PySem.F.plainAttrs_list PySem.F.slot_list_insert PySem.F.type_list_insert mt_insert ?_ ho ha hbase hfew hline hs hplain
  intro x xs H d ds L Q' Q rx r hL h k
  unfold rInsD at h
  split at h
  · obtain ⟨v, u, rfl, rv, ru⟩ := r.two
    obtain ⟨ys, hl, hz, h0, h1, q⟩ := h
    cases rx.ref_inv; cases rv.int_inv
    obtain ⟨vs, hv, r2⟩ := hL.lst hl
    exact ⟨_, vs, _, u, rfl, rfl, hv, by rw [r2.length]; exact hz, h0, h1, k _ _ _ _ (tk_lst hv) (hL.putL (tk_lst hv) (((r2.take _).append (.cons ru .nil)).append (r2.drop _))) .non q⟩
  · exact h.elim
def rFindD : DRM
  | .str a, [.str b], L, Q => Q (.int (Txt.find a b)) L
  | _, _, _, _ => False
theorem pd_find {o : Expr} {to : DE} {apos cpos : Pos} (ho : PD X H0 o to) (ha : PDA X H0 (e :: es) tr) (hbase : attributeBase o "find" X.env (eval o X.env) = eval o X.env := by rfl)
    (hfew : ((backTo cpos (starEach (e :: es) X.env)).all (fun x => !x.1) && (backToKw cpos (keywordEach [] X.env)).all (fun x => x.1.isSome)
      && decide ((e :: es).length + ([] : List Keyword).length + (if ([] : List Keyword).isEmpty then 0 else 1) < 30)) = true := by rfl)
    (hline : (apos.endLine == cpos.line) = true := by rfl) (hs : starEach (e :: es) X.env = (false, eval e X.env) :: starEach es X.env := by rfl) (hplain : (backTo cpos (starEach es X.env)).any (·.1) = false := by rfl) :
    PD X H0 (.Call (.Attribute o "find" apos) (e :: es) [] cpos) (dBM "str" rFindD to tr) := by
  refine pd_bm PySem.F.plainAttrs_str PySem.F.slot_str_find PySem.F.type_str_find mt_find ?_ ho ha hbase hfew hline hs hplain
  intro x xs H d ds L Q' Q rx r hL h k
  unfold rFindD at h
  split at h
  · obtain ⟨v, rfl, rv⟩ := r.one
    cases rx.str_inv; cases rv.str_inv
    exact ⟨_, _, rfl, rfl, k _ _ _ _ .refl hL (.int _) h⟩
  · exact h.elim
/-- one sign in a text -/
def rInSD : DR2
  | .str c, .str z, L, Q => ∃ n, c = ⟨#[n]⟩ ∧ Q (.bl (decide (n ∈ z.cps.toList))) L
  | _, _, _, _ => False
theorem sim_inS : Sim2 X.K (fun x y H Q => ∃ (c : Nat) (z : Str), x = .str ⟨#[c]⟩ ∧ y = .str z ∧ Q (.bl (decide (c ∈ z.cps.toList))) H) rInSD := by
  intro x y H d e L Q' Q rx ry hL h k
  unfold rInSD at h
  split at h
  · obtain ⟨n, e, h⟩ := h
    subst e
    cases rx.str_inv; cases ry.str_inv
    exact ⟨_, _, rfl, rfl, k _ H _ L .refl hL (.bl _) h⟩
  · exact h.elim
theorem pd_inS (ha : PD X H0 a ta) (hb : PD X H0 b tb) (hm : behindInMarks .In b = false := by rfl) : PD X H0 (.Compare a [.In] [b] pos) (dOp rInSD ta tb) := pd_cmp op_in_sign sim_inS ha hb hm
def rIsND (neg : Bool) : DR2
  | d, .non, L, Q => (match d with | .non => Q (.bl (xor neg true)) L | .ref _ => Q (.bl (xor neg false)) L | .tup _ => Q (.bl (xor neg false)) L | .int _ => Q (.bl (xor neg false)) L | .str _ => Q (.bl (xor neg false)) L | .bl _ => Q (.bl (xor neg false)) L | .ty _ => Q (.bl (xor neg false)) L | .fls _ => Q (.bl (xor neg false)) L | .exc _ _ _ => Q (.bl (xor neg false)) L | .cls _ => Q (.bl (xor neg false)) L)
  | _, _, _, _ => False
theorem sim_isN : Sim2 X.K (fun x y H Q => y = .non ∧ Q (.bl (decide (x = .non))) H) (rIsND false) := by
  intro x y H d e L Q' Q rx ry hL h k
  unfold rIsND at h
  split at h
  · cases ry.non_inv
    refine ⟨rfl, ?_⟩
    cases rx <;> exact k _ H _ L .refl hL (.bl _) h
  · exact h.elim
theorem sim_notN : Sim2 X.K (fun x y H Q => y = .non ∧ Q (.bl (!decide (x = .non))) H) (rIsND true) := by
  intro x y H d e L Q' Q rx ry hL h k
  unfold rIsND at h
  split at h
  · cases ry.non_inv
    refine ⟨rfl, ?_⟩
    cases rx <;> exact k _ H _ L .refl hL (.bl _) h
  · exact h.elim
theorem pdt_isN (ha : PD X H0 a ta) (hb : PD X H0 b tb) : PDT X H0 (.Compare a [.Is] [b] pos) (dB (dOp (rIsND false) ta tb)) := pdt_cmp op_isN sim_isN ha hb
theorem pd_isN (ha : PD X H0 a ta) (hb : PD X H0 b tb) : PD X H0 (.Compare a [.Is] [b] pos) (dOp (rIsND false) ta tb) := pd_cmp op_isN sim_isN ha hb
theorem pdt_notN (ha : PD X H0 a ta) (hb : PD X H0 b tb) : PDT X H0 (.Compare a [.IsNot] [b] pos) (dB (dOp (rIsND true) ta tb)) := pdt_cmp op_notN sim_notN ha hb

/-! ### f-strings -/
def dFmt (te : DE) : DE := fun τ L Q => te τ L fun x L1 => (∃ y : Str, x = .str y ∧ y.length ≤ sizeLine ∧ Q (.str y) L1) ∨ ∃ i : Int, x = .int i ∧ i.natAbs.log2 < 1920 ∧ Q (.str (toString i)) L1
theorem pd_fmt {pos : Pos} (he : PD X H0 e te) : PD X H0 (.FormattedValue e (-1) none pos) (dFmt te) := PE.imp (pe_fmt he) fun σ H Q ⟨τ, L, Q', I, q, k⟩ => ⟨τ, L, _, I, q, fun v H1 d L1 t1 h1 r1 q1 => by
  rcases q1 with ⟨y, ed, hz, q1⟩ | ⟨i, ed, hz, q1⟩
  · subst ed
    exact .inl ⟨y, r1.str_inv, hz, k _ H1 _ L1 t1 h1 (.str _) q1⟩
  · subst ed
    exact .inr ⟨i, r1.int_inv, hz, k _ H1 _ L1 t1 h1 (.str _) q1⟩⟩
def dJs : List DE → Str → DSt → LHp → (Str → LHp → Prop) → Prop
  | [], acc, _, L, Q => Q acc L
  | t :: ts, acc, τ, L, Q => t τ L fun x L1 => ∃ y : Str, x = .str y ∧ (acc ++ y).length ≤ sizeLine ∧ dJs ts (acc ++ y) τ L1 Q
def PDJ (X : Cx) (H0 : Hp) (es : List Expr) (ts : List DE) : Prop := PJ X es (ts.map (lE X.K H0))
theorem pdj_nil : PDJ X H0 [] [] := .nil
theorem pdj_cons {ts : List DE} (h : PD X H0 e te) (r : PDJ X H0 es ts) : PDJ X H0 (e :: es) (te :: ts) := .cons h r
def lift_js {K : PySem.W.Frag} {H0 : Hp} : ∀ (ts : List DE) (acc : Str) (τ : DSt) (L : LHp) (Q' : Str → LHp → Prop) (σ : L2.St) (H : Hp) (Q : Str → Hp → Prop), Ins K H0 σ H τ L → dJs ts acc τ L Q' → (∀ out H' L', TK K H H' → HRp K L' H' → Q' out L' → Q out H') → tJs (ts.map (lE K H0)) acc σ H Q
  | [], acc, τ, L, Q', σ, H, Q, I, q, k => k acc H L .refl I.hp q
  | t :: ts, acc, τ, L, Q', σ, H, Q, I, q, k => ⟨τ, L, _, I, q, fun v H1 d L1 t1 h1 r1 ⟨y, ed, hz, q1⟩ => by
    subst ed
    exact ⟨y, r1.str_inv, hz, lift_js ts (acc ++ y) τ L1 Q' σ H1 Q (I.to t1 h1) q1 fun out H2 L2 t2 h2 q2 => k out H2 L2 (t1.trans t2) h2 q2⟩⟩
theorem pd_joined {v1 v2 : Expr} {rest : List Expr} {ts : List DE} {pos : Pos} (h : PDJ X H0 (v1 :: v2 :: rest) ts) : PD X H0 (.JoinedStr (v1 :: v2 :: rest) pos) (fun τ L Q => dJs ts Str.empty τ L fun out L1 => Q (.str out) L1) :=
  PE.imp (pe_joined h) fun σ H Q ⟨τ, L, Q', I, q, k⟩ => lift_js ts Str.empty τ L _ σ H _ I q fun out H' L' t' h' q' => k _ H' _ L' t' h' (.str out) q'
end

/-! ### calls of defs -/
/-- what is wished of an exception: its class's name, its fields' names and values -/
abbrev XD := Str → List Str → List D → LHp → Prop
/-- an exception in the air -/
def XRp (K : PySem.W.Frag) (H : Hp) (c : Value) (a : Option Addr) (nm : Str) (ns : List Str) (ds : List D) : Prop := ∃ (d : Addr) (xs : List V), c = .ref (He.ga K nm) ∧ a = some d ∧ H d = some (.xd (ns.zip xs).reverse) ∧ RpL K H xs ds
abbrev DSp := List D → LHp → DK → XD → Prop
def spL (K : PySem.W.Frag) (sp : DSp) : Sp := fun vs H Q E => ∃ ds L Q' E', RpL K H vs ds ∧ HRp K L H ∧ sp ds L Q' E' ∧ (∀ v H' d L', TK K H H' → HRp K L' H' → Rp K H' v d → Q' d L' → Q v H') ∧ (∀ c a H' L' nm ns es, TK K H H' → HRp K L' H' → XRp K H' c a nm ns es → E' nm ns es L' → E c a H')
abbrev ED0 : XD := fun _ _ _ _ => False
/-- what a def wants of exceptions, told over plain data -/
def XRel (K : PySem.W.Frag) (H0 : Hp) (E' : XD) (E : XK) : Prop := ∀ c a H' L' nm ns es, TK K H0 H' → HRp K L' H' → XRp K H' c a nm ns es → E' nm ns es L' → E c a H'
theorem xrel0 {K : PySem.W.Frag} {H0 : Hp} {E : XK} : XRel K H0 ED0 E := fun _ _ _ _ _ _ _ _ _ _ z => z.elim
def dCall (sp : DSp) (E' : XD) (t : DA) : DE := fun τ L Q => t τ L fun ds L1 => sp ds L1 Q E'
section
variable {X : Cx} {H0 : Hp} {a b c e : Expr} {es rest : List Expr} {pos p2 : Pos} {ta tb tc te : DE} {tr : DA}
theorem pe_callR {CX : CXT} {k : Nat} {f : Addr} {sp : Sp} {E : XK} {x : Str} {p : Pos} {t : TA} (F : FnR X.prog X.w X.K X.mg X.base CX k f sp) (hr : Room k X.A) (hg : Gl X x) (hm : X.mg x = some (.ref f)) (hk : PySem.W.keepIn X.K (.ref f) = true) (hx : Passes CX X E)
    (ha : PA X (e :: es) t) (hdb : (x == ("__debug__" : Str)) = false := by decide) (he : starEach (e :: es) X.env = (false, eval e X.env) :: starEach es X.env := by rfl) (hpl : (backTo pos (starEach es X.env)).any (·.1) = false := by rfl) :
    PE X (.Call (.Name x p) (e :: es) [] pos) (fun σ H Q => t σ H fun vs H1 => sp vs H1 Q E) := by
  refine ⟨fun pins s σ H Q I h => ?_⟩
  refine wpAny_Call_Name_kw (ld_glob I hg hm ?_ hdb)
  refine PySem.W.callWith_K (h₀ := X.base) I.ok.mod.kin hk (thn (ha.run pos pins s σ H _ I h) fun us s1 ⟨vs, H1, I1, r, q⟩ => ⟨I1.kIn, ?_⟩) he hpl
  exact wpAny_call (run_fnR F hr hx I1 r q)
theorem pe_callR0 {CX : CXT} {k : Nat} {f : Addr} {sp : Sp} {E : XK} {x : Str} {p : Pos} (F : FnR X.prog X.w X.K X.mg X.base CX k f sp) (hr : Room k X.A) (hg : Gl X x) (hm : X.mg x = some (.ref f)) (hk : PySem.W.keepIn X.K (.ref f) = true) (hx : Passes CX X E)
    (hdb : (x == ("__debug__" : Str)) = false := by decide) : PE X (.Call (.Name x p) [] [] pos) (fun σ H Q => sp [] H Q E) := by
  refine ⟨fun pins s σ H Q I h => ?_⟩
  refine wpAny_Call_Name_kw (ld_glob I hg hm ?_ hdb)
  exact PySem.W.callWith_K0 I.kIn hk (wpAny_call (run_fnR F hr hx I .nil h))
theorem l_call {sp : DSp} {E' : XD} {E : XK} (hE : XRel X.K H0 E' E) : ∀ σ H Q, lE X.K H0 (dCall sp E' tr) σ H Q → lA X.K H0 tr σ H fun vs H1 => spL X.K sp vs H1 Q E := fun σ H Q ⟨τ, L, Q', I, q, k⟩ =>
  ⟨τ, L, _, I, q, fun vs H1 ds L1 t1 h1 r1 q1 => ⟨ds, L1, Q', E', r1, h1, q1, fun v H2 d L2 t2 h2 r2 q2 => k v H2 d L2 (t1.trans t2) h2 r2 q2, fun c a H2 L2 nm ns es t2 h2 y z => hE c a H2 L2 nm ns es (I.tk.trans (t1.trans t2)) h2 y z⟩⟩
theorem pd_call {CX : CXT} {k : Nat} {f : Addr} {sp : DSp} {E : XK} {E' : XD} {x : Str} {p : Pos} (F : FnR X.prog X.w X.K X.mg X.base CX k f (spL X.K sp)) (hr : Room k X.A) (hk : PySem.W.keepIn X.K (.ref f) = true) (hm : X.mg x = some (.ref f)) (hx : Passes CX X E) (hE : XRel X.K H0 E' E)
    (ha : PDA X H0 (e :: es) tr) (hg : Gl X x := by rfl) (hdb : (x == ("__debug__" : Str)) = false := by decide) (he : starEach (e :: es) X.env = (false, eval e X.env) :: starEach es X.env := by rfl) (hpl : (backTo pos (starEach es X.env)).any (·.1) = false := by rfl) :
    PD X H0 (.Call (.Name x p) (e :: es) [] pos) (dCall sp E' tr) := PE.imp (pe_callR F hr hg hm hk hx ha hdb he hpl) (l_call hE)
theorem pd_call0 {CX : CXT} {k : Nat} {f : Addr} {sp : DSp} {E : XK} {E' : XD} {x : Str} {p : Pos} (F : FnR X.prog X.w X.K X.mg X.base CX k f (spL X.K sp)) (hr : Room k X.A) (hk : PySem.W.keepIn X.K (.ref f) = true) (hm : X.mg x = some (.ref f)) (hx : Passes CX X E) (hE : XRel X.K H0 E' E)
    (hg : Gl X x := by rfl) (hdb : (x == ("__debug__" : Str)) = false := by decide) : PD X H0 (.Call (.Name x p) [] [] pos) (dCall sp E' dNil) := PE.imp (pe_callR0 F hr hg hm hk hx hdb) fun σ H Q ⟨τ, L, Q', I, q, k⟩ =>
      ⟨[], L, Q', E', .nil, I.hp, q, fun v H2 d L2 t2 h2 r2 q2 => k v H2 d L2 t2 h2 r2 q2, fun c a H2 L2 nm ns es t2 h2 y z => hE c a H2 L2 nm ns es (I.tk.trans t2) h2 y z⟩

/-! ### targets, statements -/
abbrev DG := D → DSt → LHp → (DSt → LHp → Prop) → Prop
abbrev DGs := List D → DSt → LHp → (DSt → LHp → Prop) → Prop
def lG (K : PySem.W.Frag) (H0 : Hp) (g : DG) : TG := fun v σ H Q => ∃ d τ L Q', Ins K H0 σ H τ L ∧ Rp K H v d ∧ g d τ L Q' ∧ ∀ σ' H' τ' L', Ins K H0 σ' H' τ' L' → Q' τ' L' → Q σ' H'
def lGs (K : PySem.W.Frag) (H0 : Hp) (g : DGs) : TGs := fun vs σ H Q => ∃ ds τ L Q', Ins K H0 σ H τ L ∧ RpL K H vs ds ∧ g ds τ L Q' ∧ ∀ σ' H' τ' L', TK K H H' → Ins K H0 σ' H' τ' L' → Q' τ' L' → Q σ' H'
/-- a target that keeps what stood -/
def lGt (K : PySem.W.Frag) (H0 : Hp) (g : DG) : TG := fun v σ H Q => ∃ d τ L Q', Ins K H0 σ H τ L ∧ Rp K H v d ∧ g d τ L Q' ∧ ∀ σ' H' τ' L', TK K H H' → Ins K H0 σ' H' τ' L' → Q' τ' L' → Q σ' H'
def PDG (X : Cx) (H0 : Hp) (e : Expr) (g : DG) : Prop := PG X e (lGt X.K H0 g)
def PDGs (X : Cx) (H0 : Hp) (es : List Expr) (g : DGs) : Prop := PGs X es (lGs X.K H0 g)
theorem PG.imp {t t' : TG} (h : PG X e t) (w : ∀ v σ H Q, t' v σ H Q → t v σ H Q) : PG X e t' := ⟨fun pins s σ H v u Q I r q => h.run pins s σ H v u Q I r (w v σ H Q q)⟩
theorem PGs.imp {t t' : TGs} (h : PGs X es t) (w : ∀ v σ H Q, t' v σ H Q → t v σ H Q) : PGs X es t' := ⟨fun pins s σ H v u Q I r q => h.run pins s σ H v u Q I r (w v σ H Q q)⟩
def dgName (i : Nat) : DG := fun d τ L Q => Q (τ.set i (some d)) L
theorem pdg_name {i : Nat} {x : Str} {pos : Pos} (hN : X.N.Nodup) (hi : X.N[i]? = some x := by rfl) (hx : Loc X.env.scope x := by first | exact Or.inl rfl | exact Or.inr rfl) (hf : X.fn x = true ∨ X.env.scope.names.lookup x = some .local := by first | exact .inl rfl | exact .inr rfl | assumption) : PDG X H0 (.Name x pos) (dgName i) :=
  PG.imp (pg_name hN hi hx hf) fun v σ H Q ⟨d, τ, L, Q', I, r, q, k⟩ => k _ H _ L .refl (I.set r i) q
def dgNil : DGs := fun ds τ L Q => ds = [] ∧ Q τ L
def dgCons (g : DG) (gs : DGs) : DGs := fun ds τ L Q => ∃ d r, ds = d :: r ∧ g d τ L fun τ' L' => gs r τ' L' Q
theorem pdgs_nil : PDGs X H0 [] dgNil := PGs.imp pgs_nil fun v σ H Q ⟨ds, τ, L, Q', I, r, ⟨e, q⟩, k⟩ => by
  subst e
  cases r
  exact ⟨rfl, k σ H τ L .refl I q⟩
theorem pdgs_cons {g : DG} {gs : DGs} (h1 : PDG X H0 e g) (h2 : PDGs X H0 es gs) (hs : (assignEach (e :: es) X.env).map (·.2) = assign e X.env :: (assignEach es X.env).map (·.2) := by rfl) : PDGs X H0 (e :: es) (dgCons g gs) :=
  PGs.imp (pgs_cons h1 h2 hs) fun v σ H Q ⟨ds, τ, L, Q', I, r, ⟨d, dr, ed, q⟩, k⟩ => by
    subst ed
    cases r with
    | cons r1 r2 => exact ⟨_, _, rfl, d, τ, L, _, I, r1, q, fun σ1 H1 τ1 L1 t1 I1 q1 => ⟨dr, τ1, L1, Q', I1, r2.mono t1, q1, fun σ2 H2 τ2 L2 t2 I2 q2 => k σ2 H2 τ2 L2 (t1.trans t2) I2 q2⟩⟩
def dgTup (n : Nat) (g : DGs) : DG := fun d τ L Q => ∃ ds, d = .tup ds ∧ ds.length = n ∧ g ds τ L Q
theorem pdg_tup {k n : Nat} {g : DGs} {pos : Pos} (hc : X.calm = true) (h : PDGs X H0 es g) (hn : (assignEach es X.env).length = n := by rfl) (hst : (assignEach es X.env).findIdx? (·.1) = none := by rfl) : PDG X H0 (.Tuple es k pos) (dgTup n g) :=
  PG.imp (pg_tup hc h hn hst) fun v σ H Q ⟨d, τ, L, Q', I, r, ⟨ds, ed, hl, q⟩, k⟩ => by
    subst ed
    cases r with
    | tup s r2 => exact ⟨_, _, rfl, s, by rw [r2.length]; exact hl, ds, τ, L, Q', I, r2, q, k⟩
/-- xs[i] = v -/
def dgSub (to ti : DE) : DG := fun d τ L Q => to τ L fun o L1 => ti τ L1 fun i L2 => ∃ p xs k j, o = .ref p ∧ i = .int k ∧ L2 p = some (.lst xs) ∧ ixN xs.length k = some j ∧ Q τ (lupd L2 p (.lst (xs.set j d)))
theorem pdg_sub {o i : Expr} {to ti : DE} {pos : Pos} (ho : PD X H0 o to) (hi : PD X H0 i ti) (ha : ∀ v, assign (.Subscript o i pos) X.env v = (do
      let ov ← holding [v] (eval o X.env)
      let iv ← holding [v, ov] (eval i X.env)
      standAt pos
      holding [v, ov, iv] (setItem ov iv v)
      release [v, ov, iv] []) := by intro _; rfl) : PDG X H0 (.Subscript o i pos) (dgSub to ti) :=
  PG.imp (pg_sub ho hi set_list ha) fun v σ H Q ⟨d, τ, L, Q', I, r, q, k⟩ => ⟨τ, L, _, I, q, fun ov H1 od L1 t1 h1 r1 q1 => ⟨τ, L1, _, I.to t1 h1, q1, fun iv H2 id L2 t2 h2 r2 ⟨p, xs, n, j, e1, e2, hl, hj, q2⟩ => by
    subst e1 e2
    cases (r1.mono t2).ref_inv; cases r2.int_inv
    obtain ⟨vs, hv, rr⟩ := h2.lst hl
    have t12 := t1.trans t2
    have t3 := tk_lst (K := X.K) (o := .lst (vs.set j v)) hv
    exact ⟨_, vs, _, j, rfl, rfl, hv, by rw [rr.length]; exact hj, k σ _ τ _ (t12.trans t3) ((I.to t12 h2).to t3 (h2.putL t3 (rr.set (r.mono t12) j))) q2⟩⟩⟩

def dNext : DS := fun D τ L => D.nx τ L
def dSeq (t u : DS) : DS := fun D τ L => t { D with nx := u D } τ L
variable {st : Stmt} {sts : List Stmt} {t u : DS}
theorem pdss_nil : PDSs X H0 [] dNext := PSs.imp pss_nil fun D σ H ⟨τ, L, D', I, q, k, _⟩ => k σ H τ L .refl I q
theorem pdss_one (h : PDS X H0 st t) : PDSs X H0 [st] t := pss_one h
theorem pdss_cons (h1 : PDS X H0 st t) (h2 : PDSs X H0 sts u) : PDSs X H0 (st :: sts) (dSeq t u) := PSs.imp (pss_cons h1 h2) fun D σ H ⟨τ, L, D', I, q, k1, k2, k3, k4⟩ =>
  ⟨τ, L, _, I, q, fun σ1 H1 τ1 L1 t1 I1 q1 => ⟨τ1, L1, D', I1, q1, fun σ2 H2 τ2 L2 t2 => k1 σ2 H2 τ2 L2 (t1.trans t2), k2, fun σ2 H2 τ2 L2 t2 => k3 σ2 H2 τ2 L2 (t1.trans t2), fun σ2 H2 τ2 L2 t2 => k4 σ2 H2 τ2 L2 (t1.trans t2)⟩, k2, k3, k4⟩
theorem pds_pass {pos : Pos} : PDS X H0 (.Pass pos) dNext := PS.imp ps_pass fun D σ H ⟨τ, L, D', I, q, k, _⟩ => k σ H τ L .refl I q
def dBreak : DS := fun D τ L => D.bk τ L
def dCont : DS := fun D τ L => D.ct τ L
theorem pds_break {pos : Pos} : PDS X H0 (.Break pos) dBreak := PS.imp ps_break fun D σ H ⟨τ, L, D', I, q, _, _, k, _⟩ => k σ H τ L .refl I q
theorem pds_continue {pos : Pos} : PDS X H0 (.Continue pos) dCont := PS.imp ps_continue fun D σ H ⟨τ, L, D', I, q, _, _, _, k⟩ => k σ H τ L .refl I q
def dNever : DS := fun _ _ _ => False
theorem pds_never : PDS X H0 st dNever := PS.imp ps_never fun D σ H ⟨τ, L, D', I, q, k⟩ => q
theorem pdss_never {sts : List Stmt} : PDSs X H0 sts dNever := PSs.imp pss_never fun D σ H ⟨τ, L, D', I, q, k⟩ => q
def dDrop (te : DE) : DS := fun D τ L => te τ L fun _ L1 => D.nx τ L1
theorem pds_expr {pos : Pos} (he : PD X H0 e te) (hs : swapsWith e none pos.line X.env = pure false := by rfl) : PDS X H0 (.Expr e pos) (dDrop te) := PS.imp (ps_expr he hs) fun D σ H ⟨τ, L, D', I, q, k1, k2, k3, k4⟩ => ⟨τ, L, _, I, q, fun v H1 d L1 t1 h1 r1 q1 => k1 σ H1 τ L1 t1 (I.to t1 h1) q1⟩
def dRet (te : DE) : DS := fun D τ L => te τ L D.rt
theorem pds_ret {pos : Pos} (he : PD X H0 e te) : PDS X H0 (.Return (some e) pos) (dRet te) := PS.imp (ps_ret he) fun D σ H ⟨τ, L, D', I, q, k1, k2, k3, k4⟩ => ⟨τ, L, _, I, q, fun v H1 d L1 t1 h1 r1 q1 => k2 v H1 d L1 (I.tk.trans t1) h1 r1 q1⟩
def dRetN : DS := fun D _ L => D.rt .non L
theorem pds_retN {pos : Pos} : PDS X H0 (.Return none pos) dRetN := PS.imp ps_retN fun D σ H ⟨τ, L, D', I, q, k1, k2, k3, k4⟩ => k2 _ H _ L I.tk I.hp .non q
def dAsg (te : DE) (g : DG) : DS := fun D τ L => te τ L fun x L1 => g x τ L1 D.nx
theorem pds_asg {tg e : Expr} {g : DG} {pos : Pos} (he : PD X H0 e te) (hg : PDG X H0 tg g) (hs : swapsWithSole [tg] e pos.line X.env = pure false := by rfl) (hw : swappedStores [tg] e X.env = pure none := by rfl)
    (h1 : (assignEach [tg] X.env).map (·.2) = [assign tg X.env] := by rfl) : PDS X H0 (.Assign [tg] e pos) (dAsg te g) := PS.imp (ps_asg he hg hs hw h1) fun D σ H ⟨τ, L, D', I, q, k1, k2, k3, k4⟩ =>
      ⟨τ, L, _, I, q, fun v H1 d L1 t1 h1 r1 q1 => ⟨d, τ, L1, _, I.to t1 h1, r1, q1, fun σ2 H2 τ2 L2 t2 I2 q2 => k1 σ2 H2 τ2 L2 (t1.trans t2) I2 q2⟩⟩
def dSet (i : Nat) (te : DE) : DS := fun D τ L => te τ L fun x L1 => D.nx (τ.set i (some x)) L1
theorem pds_set {i : Nat} {x : Str} {e : Expr} {pos pos' : Pos} (hN : X.N.Nodup) (he : PD X H0 e te) (hi : X.N[i]? = some x := by rfl) (hx : Loc X.env.scope x := by first | exact Or.inl rfl | exact Or.inr rfl) (hs : swapsWith e (some (.Name x pos')) pos.line X.env = pure false := by rfl) (hf : X.fn x = true ∨ X.env.scope.names.lookup x = some .local := by first | exact .inl rfl | exact .inr rfl | assumption) :
    PDS X H0 (.Assign [.Name x pos'] e pos) (dSet i te) := PS.imp (ps_set hN hi hx he hs hf) fun D σ H ⟨τ, L, D', I, q, k1, k2, k3, k4⟩ =>
      ⟨τ, L, _, I, q, fun v H1 d L1 t1 h1 r1 q1 => k1 _ H1 _ L1 t1 ((I.to t1 h1).set r1 i) q1⟩
def dPar (i j : Nat) (ta : DA) : DS := fun D τ L => ta τ L fun ds L1 => ∃ v w, ds = [v, w] ∧ D.nx ((τ.set i (some v)).set j (some w)) L1
theorem pds_par {i j : Nat} {x y : Str} {a b : Expr} {ta : DA} {pos px py pt : Pos} {kt k2 pt2} (hc : X.calm = true) (hN : X.N.Nodup) (ha : PDA X H0 [a, b] ta) (hi : X.N[i]? = some x := by rfl) (hj : X.N[j]? = some y := by rfl) (hij : i ≠ j := by decide)
    (hx : X.env.scope.names.lookup x = some .local := by rfl) (hy : X.env.scope.names.lookup y = some .local := by rfl)
    (hw : swappedStores [.Tuple [.Name x px, .Name y py] kt pt] (.Tuple [a, b] k2 pt2) X.env = pure (some [x, y]) := by rfl)
    (hs : swapsWithSole [.Tuple [.Name x px, .Name y py] kt pt] (.Tuple [a, b] k2 pt2) pos.line X.env = pure false := by rfl) :
    PDS X H0 (.Assign [.Tuple [.Name x px, .Name y py] kt pt] (.Tuple [a, b] k2 pt2) pos) (dPar i j ta) := PS.imp (ps_par hc hN hi hj hij hx hy ha hw hs) fun D σ H ⟨τ, L, D', I, q, k1, k2, k3, k4⟩ =>
      ⟨τ, L, _, I, q, fun vs H1 ds L1 t1 h1 r1 ⟨v, w, ed, q1⟩ => by
        subst ed
        obtain ⟨x, y, rfl, rx, ry⟩ := r1.two
        exact ⟨x, y, rfl, k1 _ H1 _ L1 t1 (((I.to t1 h1).set rx i).set ry j) q1⟩⟩
def dIfS (c : DT) (t u : DS) : DS := fun D τ L => c τ L fun b L1 => if b = true then t D τ L1 else u D τ L1
theorem pds_if {c : Expr} {a b : List Stmt} {tc : DT} {pos : Pos} (hc : PDT X H0 c tc) (ha : PDSs X H0 a t) (hb : PDSs X H0 b u) : PDS X H0 (.If c a b pos) (dIfS tc t u) := PS.imp (ps_if hc ha hb) fun D σ H ⟨τ, L, D', I, q, k1, k2, k3, k4⟩ =>
  ⟨τ, L, _, I, q, fun v H1 L1 t1 h1 q1 => by
    have w1 := fun σ2 H2 τ2 L2 t2 => k1 σ2 H2 τ2 L2 (t1.trans t2)
    have w3 := fun σ2 H2 τ2 L2 t2 => k3 σ2 H2 τ2 L2 (t1.trans t2)
    have w4 := fun σ2 H2 τ2 L2 t2 => k4 σ2 H2 τ2 L2 (t1.trans t2)
    cases v with
    | true =>
      refine iteT ?_
      simp only [if_true] at q1
      exact ⟨τ, L1, D', I.to t1 h1, q1, w1, k2, w3, w4⟩
    | false =>
      refine iteF ?_
      simp only [if_false, Bool.false_eq_true] at q1
      exact ⟨τ, L1, D', I.to t1 h1, q1, w1, k2, w3, w4⟩⟩
def dWhile (c : DT) (tb : DS) : DS := fun D τ L => ∃ W : Nat → DSt → LHp → Prop, (∃ m, W m τ L) ∧ ∀ m τ L, W m τ L →
  c τ L fun b L1 => if b = true then ∃ N : DSt → LHp → Prop, (∀ τ' L', N τ' L' → ∃ m', m' < m ∧ W m' τ' L') ∧ tb { D with nx := N, ct := N, bk := D.nx } τ L1 else D.nx τ L1
theorem pds_while {c : Expr} {body : List Stmt} {tc : DT} {pos : Pos} (hp : PassesOwn (model X.prog X.w) X.A X.env X.xe) (hc : PDT X H0 c tc) (hb : PDSs X H0 body t) : PDS X H0 (.While c body [] pos) (dWhile tc t) := PS.imp (ps_while hp hc hb) fun D σ H ⟨τ, L, D', I, ⟨W, ⟨m, w0⟩, turn⟩, k1, k2, k3, k4⟩ =>
  ⟨fun m σ H' => ∃ τ L, TK X.K H H' ∧ Ins X.K H0 σ H' τ L ∧ W m τ L, ⟨m, τ, L, .refl, I, w0⟩, fun m σ1 H1 ⟨τ1, L1, t1, I1, w1⟩ => ⟨τ1, L1, _, I1, turn m τ1 L1 w1, fun b H2 L2 t2 h2 q2 => by
    have t12 := t1.trans t2
    cases b with
    | true =>
      refine iteT ?_
      simp only [if_true] at q2
      obtain ⟨N, hN, q2⟩ := q2
      exact ⟨fun σ H' => ∃ τ L, TK X.K H H' ∧ Ins X.K H0 σ H' τ L ∧ N τ L, fun σ3 H3 ⟨τ3, L3, t3, I3, n3⟩ => (let ⟨m', hm, w3⟩ := hN τ3 L3 n3; ⟨m', hm, τ3, L3, t3, I3, w3⟩), τ1, L2, _, I1.to t2 h2, q2, fun σ3 H3 τ3 L3 t3 I3 n3 => ⟨τ3, L3, t12.trans t3, I3, n3⟩, k2, fun σ3 H3 τ3 L3 t3 I3 n3 => k1 σ3 H3 τ3 L3 (t12.trans t3) I3 n3, fun σ3 H3 τ3 L3 t3 I3 n3 => ⟨τ3, L3, t12.trans t3, I3, n3⟩⟩
    | false =>
      refine iteF ?_
      simp only [if_false, Bool.false_eq_true] at q2
      exact k1 σ1 H2 τ1 L2 t12 (I1.to t2 h2) q2⟩⟩

/-! ### for -/
def dForL (tl : DE) (g : DG) (tb : DS) : DS := fun D τ L => tl τ L fun x L1 => ∃ a ds, x = .ref a ∧ LRd L1 a ds ∧ ∃ Pv : Nat → DSt → LHp → Prop, Pv 0 τ L1 ∧ (∀ i τ' L', i ≤ ds.length → Pv i τ' L' → LRd L' a ds) ∧
  (∀ i d τ' L', ds[i]? = some d → Pv i τ' L' → g d τ' L' fun τ2 L2 => tb { D with nx := Pv (i + 1), ct := Pv (i + 1), bk := D.nx } τ2 L2) ∧ (∀ τ' L', Pv ds.length τ' L' → D.nx τ' L')
def dForT (tl : DE) (g : DG) (tb : DS) : DS := fun D τ L => tl τ L fun x L1 => ∃ ds, x = .tup ds ∧ ∃ Pv : Nat → DSt → LHp → Prop, Pv 0 τ L1 ∧
  (∀ i d τ' L', ds[i]? = some d → Pv i τ' L' → g d τ' L' fun τ2 L2 => tb { D with nx := Pv (i + 1), ct := Pv (i + 1), bk := D.nx } τ2 L2) ∧ (∀ τ' L', Pv ds.length τ' L' → D.nx τ' L')
def dForR (ta : DA) (g : DG) (tb : DS) : DS := fun D τ L => ta τ L fun ds L1 => ∃ j : Int, ds = [.int j] ∧ (-(2 ^ 62) ≤ j ∧ j < 2 ^ 62) ∧ ∃ Pv : Nat → DSt → LHp → Prop, Pv 0 τ L1 ∧
  (∀ (i : Nat) τ' L', i < j.toNat → Pv i τ' L' → g (.int (i : Int)) τ' L' fun τ2 L2 => tb { D with nx := Pv (i + 1), ct := Pv (i + 1), bk := D.nx } τ2 L2) ∧ (∀ τ' L', Pv j.toNat τ' L' → D.nx τ' L')
section
variable {iter tg : Expr} {body : List Stmt} {g : DG} {pos : Pos} {tb : DS}
theorem pds_forL (hp : PassesOwn (model X.prog X.w) X.A X.env X.xe) (hc : X.calm = true) (hi : PD X H0 iter te) (hg : PDG X H0 tg g) (hb : PDSs X H0 body tb) (hs : ∀ x, foldedSetIterable iter X.env x = pure x := by intro _; rfl) : PDS X H0 (.For tg iter body [] pos) (dForL te g tb) :=
  PS.imp (ps_for hp hc (pi_list hi) hg hb hs) fun D σ H ⟨τ, L, D', I, q, k1, k2, k3, k4⟩ => ⟨τ, L, _, I, q, fun v H1 d L1 t1 h1 r1 ⟨a, ds, ed, hl, Pv, p0, pl, ps, pe⟩ => by
    subst ed
    cases r1.ref_inv
    obtain ⟨xs, s, rr⟩ := h1.rd hl
    refine ⟨a, rfl, ⟨xs, s⟩, fun i m σ H' => m = ds.length - i ∧ i ≤ ds.length ∧ ∃ τ L, TK X.K H H' ∧ Ins X.K H0 σ H' τ L ∧ Pv i τ L, ⟨ds.length, by simp, Nat.zero_le _, τ, L1, t1, I.to t1 h1, p0⟩, ?_⟩
    rintro i m σ2 H2 ⟨rfl, hi, τ2, L2, t2, I2, p2⟩
    obtain ⟨ys, s2, rr2⟩ := I2.hp.rd (pl i τ2 L2 hi p2)
    by_cases hlt : i < ds.length
    · have hly : i < ys.length := by rw [rr2.length]; exact hlt
      refine .inr ⟨⟨ys, ys[i], s2, by simp [hly]⟩, fun σ H' => ∃ τ L, TK X.K H H' ∧ Ins X.K H0 σ H' τ L ∧ Pv (i + 1) τ L, fun σ' H' p' => ⟨ds.length - (i + 1), by omega, rfl, hlt, p'⟩, fun x H' y => ?_⟩
      obtain ⟨e, y⟩ := y
      subst e
      obtain ⟨d, hd, rd⟩ := rr2.get' (y ys s2)
      exact ⟨d, τ2, L2, _, I2, rd, ps i d τ2 L2 hd p2, fun σ3 H3 τ3 L3 t3 I3 q3 => ⟨τ3, L3, _, I3, q3, fun σ4 H4 τ4 L4 t4 I4 n4 => ⟨τ4, L4, t2.trans (t3.trans t4), I4, n4⟩, k2, fun σ4 H4 τ4 L4 t4 I4 n4 => k1 σ4 H4 τ4 L4 (t2.trans (t3.trans t4)) I4 n4, fun σ4 H4 τ4 L4 t4 I4 n4 => ⟨τ4, L4, t2.trans (t3.trans t4), I4, n4⟩⟩⟩
    · have e : i = ds.length := by omega
      subst e
      exact .inl ⟨⟨ys, s2, by rw [rr2.length]; exact Nat.le_refl _⟩, k1 σ2 H2 τ2 L2 t2 I2 (pe τ2 L2 p2)⟩⟩
theorem pds_forT (hp : PassesOwn (model X.prog X.w) X.A X.env X.xe) (hc : X.calm = true) (hi : PD X H0 iter te) (hg : PDG X H0 tg g) (hb : PDSs X H0 body tb) (hs : ∀ x, foldedSetIterable iter X.env x = pure x := by intro _; rfl) : PDS X H0 (.For tg iter body [] pos) (dForT te g tb) :=
  PS.imp (ps_for hp hc (pi_tup hi) hg hb hs) fun D σ H ⟨τ, L, D', I, q, k1, k2, k3, k4⟩ => ⟨τ, L, _, I, q, fun v H1 d L1 t1 h1 r1 ⟨ds, ed, Pv, p0, ps, pe⟩ => by
    subst ed
    cases r1 with
    | @tup a xs _ s rr =>
      refine ⟨a, rfl, ⟨xs, s⟩, for_tup (xs := xs) (fun i σ H' => ∃ τ L, TK X.K H1 H' ∧ Ins X.K H0 σ H' τ L ∧ Pv i τ L) ⟨τ, L1, .refl, I.to t1 h1, p0⟩ (fun i σ H' _ ⟨_, _, t, _, _⟩ => t.t _ _ s) (fun i x σ2 H2 hx ⟨τ2, L2, t2, I2, p2⟩ => ?_) fun σ2 H2 ⟨τ2, L2, t2, I2, p2⟩ => k1 σ2 H2 τ2 L2 (t1.trans t2) I2 (pe τ2 L2 (by rw [← rr.length]; exact p2))⟩
      obtain ⟨d, hd, rd⟩ := (rr.mono t2).get' hx
      exact ⟨d, τ2, L2, _, I2, rd, ps i d τ2 L2 hd p2, fun σ3 H3 τ3 L3 t3 I3 q3 => ⟨τ3, L3, _, I3, q3, fun σ4 H4 τ4 L4 t4 I4 n4 => ⟨τ4, L4, t2.trans (t3.trans t4), I4, n4⟩, k2, fun σ4 H4 τ4 L4 t4 I4 n4 => k1 σ4 H4 τ4 L4 (t1.trans (t2.trans (t3.trans t4))) I4 n4, fun σ4 H4 τ4 L4 t4 I4 n4 => ⟨τ4, L4, t2.trans (t3.trans t4), I4, n4⟩⟩⟩⟩
theorem pds_forR {a : Expr} {ta : DA} {p pos' : Pos} (hp : PassesOwn (model X.prog X.w) X.A X.env X.xe) (hc : X.calm = true) (hm : X.mg "range" = none) (hi : PDA X H0 [a] ta) (hgt : PDG X H0 tg g) (hb : PDSs X H0 body tb) (hg : Gl X "range" := by rfl) (hs : starEach [a] X.env = [(false, eval a X.env)] := by rfl)
    (hf : ∀ x, foldedSetIterable (.Call (.Name "range" p) [a] [] pos') X.env x = pure x := by intro _; rfl) : PDS X H0 (.For tg (.Call (.Name "range" p) [a] [] pos') body [] pos) (dForR ta g tb) :=
  PS.imp (ps_for hp hc (pi_range1 hg hm hi hs) hgt hb hf) fun D σ H ⟨τ, L, D', I, q, k1, k2, k3, k4⟩ => ⟨τ, L, _, I, q, fun vs H1 ds L1 t1 h1 r1 ⟨j, ed, ⟨h0, h2⟩, Pv, p0, ps, pe⟩ => by
    subst ed
    obtain ⟨v, rfl, rv⟩ := r1.one
    cases rv.int_inv
    refine ⟨j, rfl, h0, h2, for_range (lo := 0) (n := j.toNat) (fun i σ H' => ∃ τ L, TK X.K H1 H' ∧ Ins X.K H0 σ H' τ L ∧ Pv i τ L) ⟨τ, L1, .refl, I.to t1 h1, p0⟩ (fun i σ2 H2 hx ⟨τ2, L2, t2, I2, p2⟩ => ?_) fun σ2 H2 ⟨τ2, L2, t2, I2, p2⟩ => k1 σ2 H2 τ2 L2 (t1.trans t2) I2 (pe τ2 L2 p2)⟩
    have e0 : (0 : Int) + (i : Int) = (i : Int) := Int.zero_add _
    rw [e0]
    exact ⟨_, τ2, L2, _, I2, .int _, ps i τ2 L2 hx p2, fun σ3 H3 τ3 L3 t3 I3 q3 => ⟨τ3, L3, _, I3, q3, fun σ4 H4 τ4 L4 t4 I4 n4 => ⟨τ4, L4, t2.trans (t3.trans t4), I4, n4⟩, k2, fun σ4 H4 τ4 L4 t4 I4 n4 => k1 σ4 H4 τ4 L4 (t1.trans (t2.trans (t3.trans t4))) I4 n4, fun σ4 H4 τ4 L4 t4 I4 n4 => ⟨τ4, L4, t2.trans (t3.trans t4), I4, n4⟩⟩⟩⟩
end

/-! ### list comprehensions of one clause, the target a name -/
def dTYes : DT := fun _ L Q => Q true L
def PDTs (X : Cx) (H0 : Hp) (ifs : List Expr) (t : DT) : Prop := PTs X ifs (lT X.K H0 t)
theorem pdts_nil : PDTs X H0 [] dTYes := ⟨fun pins s σ H Q I ⟨τ, L, Q', J, q, k⟩ => pts_nil.run pins s σ H Q I (k true H L .refl J.hp q)⟩
theorem pdts_one {c : Expr} {t : DT} (h : PDT X H0 c t) : PDTs X H0 [c] t := pts_one h
/-- one turn behind the target -/
def lcTurn (tt : DT) (te : DE) (E : Addr) (τ : DSt) (L : LHp) (N : LHp → Prop) : Prop := tt τ L fun b L2 => if b = true then te τ L2 fun y L3 => ∃ acc, L3 E = some (.lst acc) ∧ acc.length < sizeLine ∧ N (lupd L3 E (.lst (acc ++ [y]))) else N L2
def dLcL (j : Nat) (tl : DE) (tt : DT) (te : DE) : DE := fun τ L Q => tl τ L fun x L1 => ∃ a ds, x = .ref a ∧ LRd L1 a ds ∧ ∀ E, L1 E = none → ∃ Pv : Nat → LHp → Prop, Pv 0 (lupd L1 E (.lst [])) ∧ (∀ i L', i ≤ ds.length → Pv i L' → LRd L' a ds) ∧
  (∀ i d L', ds[i]? = some d → Pv i L' → lcTurn tt te E (τ.set j (some d)) L' (Pv (i + 1))) ∧ (∀ L', Pv ds.length L' → Q (.ref E) L')
def dLcR (j : Nat) (ta : DA) (tt : DT) (te : DE) : DE := fun τ L Q => ta τ L fun ds L1 => ∃ n : Int, ds = [.int n] ∧ (-(2 ^ 62) ≤ n ∧ n < 2 ^ 62) ∧ ∀ E, L1 E = none → ∃ Pv : Nat → LHp → Prop, Pv 0 (lupd L1 E (.lst [])) ∧
  (∀ (i : Nat) L', i < n.toNat → Pv i L' → lcTurn tt te E (τ.set j (some (.int (i : Int)))) L' (Pv (i + 1))) ∧ (∀ L', Pv n.toNat L' → Q (.ref E) L')
def dLcS (j : Nat) (tl : DE) (tt : DT) (te : DE) : DE := fun τ L Q => tl τ L fun x L1 => ∃ z : Str, x = .str z ∧ ∀ E, L1 E = none → ∃ Pv : Nat → LHp → Prop, Pv 0 (lupd L1 E (.lst [])) ∧
  (∀ (i : Nat) c L', z.cps[i]? = some c → Pv i L' → lcTurn tt te E (τ.set j (some (.str ⟨#[c]⟩))) L' (Pv (i + 1))) ∧ (∀ L', Pv z.cps.size L' → Q (.ref E) L')
theorem wipe_set {σ : L2.St} {j : Nat} {x : V} : wipe ((wipe σ [j]).set j (some x)) [j] = wipe σ [j] := by
  show ((σ.set j none).set j (some x)).set j none = σ.set j none
  rw [List.set_set, List.set_set]
theorem ins_wipe {σ : L2.St} {H : Hp} {τ : DSt} {L : LHp} {j : Nat} {v : V} {d : D} (I : Ins X.K H0 σ H τ L) (r : Rp X.K H v d) : Ins X.K H0 ((wipe σ [j]).set j (some v)) H (τ.set j (some d)) L := by
  have e : (wipe σ [j]).set j (some v) = σ.set j (some v) := by
    show (σ.set j none).set j (some v) = σ.set j (some v)
    rw [List.set_set]
  rw [e]
  exact I.set r j
/-- the common end of a turn -/
theorem lc_turn {tt : DT} {te : DE} {E : Addr} {σ2 : L2.St} {H2 : Hp} {τ2 : DSt} {L2 : LHp} {N : LHp → Prop} {Nx : Hp → Prop} (I : Ins X.K H0 σ2 H2 τ2 L2) (q : lcTurn tt te E τ2 L2 N) (k : ∀ H' L', TK X.K H2 H' → HRp X.K L' H' → N L' → Nx H') :
    lT X.K H0 tt σ2 H2 fun b H3 => if b = true then lE X.K H0 te σ2 H3 fun y H4 => ∃ acc, H4 E = some (.lst acc) ∧ acc.length < sizeLine ∧ Nx (upd H4 E (.lst (acc ++ [y]))) else Nx H3 := by
  refine ⟨τ2, L2, _, I, q, fun b H3 L3 t3 h3 q3 => ?_⟩
  cases b with
  | true =>
    rw [if_pos rfl]
    simp only [if_true] at q3
    refine ⟨τ2, L3, _, I.to t3 h3, q3, fun v H4 d L4 t4 h4 r4 ⟨acc, ha, hz, n⟩ => ?_⟩
    obtain ⟨xs, hx, rx⟩ := h4.lst ha
    have t5 := tk_lst (K := X.K) (o := .lst (xs ++ [v])) hx
    exact ⟨xs, hx, by rw [rx.length]; exact hz, k _ _ (t3.trans (t4.trans t5)) (h4.putL t5 (rx.append (.cons r4 .nil))) n⟩
  | false =>
    rw [if_neg Bool.false_ne_true]
    simp only [if_false, Bool.false_eq_true] at q3
    exact k _ _ t3 h3 q3
section
variable {elt iter : Expr} {ifs : List Expr} {scope : Scope} {j : Nat} {x : Str} {px pos : Pos} {tt : DT}
theorem l_lcL : ∀ σ H Q, lE X.K H0 (dLcL j te tt ta) σ H Q → tLc (iList X.K (lE X.K H0 te)) (gName j) (lT X.K H0 tt) (lE X.K H0 ta) [j] σ H Q := fun σ H Q ⟨τ, L, Q', I, q, k⟩ => ⟨τ, L, _, I, q, fun v H1 d L1 t1 h1 r1 ⟨a, ds, ed, hl, q1⟩ => by
  subst ed
  cases r1.ref_inv
  obtain ⟨xs, s, rr⟩ := h1.rd hl
  refine ⟨a, rfl, ⟨xs, s⟩, fun E hE => ?_⟩
  obtain ⟨Pv, p0, pl, ps, pe⟩ := q1 E (h1.none hE)
  have tE := tk_new (K := X.K) (o := .lst []) hE
  have hE' := h1.putL tE (ds := []) .nil
  refine ⟨fun i m H' => m = ds.length - i ∧ i ≤ ds.length ∧ ∃ L, TK X.K H H' ∧ HRp X.K L H' ∧ Pv i L, ⟨ds.length, by simp, Nat.zero_le _, _, t1.trans tE, hE', p0⟩, ?_⟩
  rintro i m H2 ⟨rfl, hi, L2, t2, h2, p2⟩
  obtain ⟨ys, s2, rr2⟩ := h2.rd (pl i L2 hi p2)
  by_cases hlt : i < ds.length
  · have hly : i < ys.length := by rw [rr2.length]; exact hlt
    refine .inr ⟨⟨ys, ys[i], s2, by simp [hly]⟩, fun H' => ∃ L, TK X.K H H' ∧ HRp X.K L H' ∧ Pv (i + 1) L, fun H' p' => ⟨ds.length - (i + 1), by omega, rfl, hlt, p'⟩, fun y H' yl => ?_⟩
    obtain ⟨e, yl⟩ := yl
    subst e
    obtain ⟨d, hd, rd⟩ := rr2.get' (yl ys s2)
    exact ⟨wipe_set, lc_turn (ins_wipe (I.to t2 h2) rd) (ps i d L2 hd p2) fun H' L' t' h' n' => ⟨L', t2.trans t', h', n'⟩⟩
  · have e : i = ds.length := by omega
    subst e
    exact .inl ⟨⟨ys, s2, by rw [rr2.length]; exact Nat.le_refl _⟩, k _ H2 _ L2 t2 h2 (.ref E) (pe L2 p2)⟩⟩
theorem l_lcR : ∀ σ H Q, lE X.K H0 (dLcR j tr tt ta) σ H Q → tLc (iRng1 (lA X.K H0 tr)) (gName j) (lT X.K H0 tt) (lE X.K H0 ta) [j] σ H Q := fun σ H Q ⟨τ, L, Q', I, q, k⟩ => ⟨τ, L, _, I, q, fun vs H1 ds L1 t1 h1 r1 ⟨n, ed, ⟨n0, n1⟩, q1⟩ => by
  subst ed
  obtain ⟨v, rfl, rv⟩ := r1.one
  cases rv.int_inv
  refine ⟨n, rfl, n0, n1, fun E hE => ?_⟩
  obtain ⟨Pv, p0, ps, pe⟩ := q1 E (h1.none hE)
  have tE := tk_new (K := X.K) (o := .lst []) hE
  have hE' := h1.putL tE (ds := []) .nil
  refine lc_range (lo := 0) (n := n.toNat) (fun i H' => ∃ L, TK X.K H H' ∧ HRp X.K L H' ∧ Pv i L) ⟨_, t1.trans tE, hE', p0⟩ (fun i H2 hi ⟨L2, t2, h2, p2⟩ => ?_) fun H2 ⟨L2, t2, h2, p2⟩ => k _ H2 _ L2 t2 h2 (.ref E) (pe L2 p2)
  have e0 : (0 : Int) + (i : Int) = (i : Int) := Int.zero_add _
  rw [e0]
  exact ⟨wipe_set, lc_turn (ins_wipe (I.to t2 h2) (.int _)) (ps i L2 hi p2) fun H' L' t' h' n' => ⟨L', t2.trans t', h', n'⟩⟩⟩
theorem l_lcS : ∀ σ H Q, lE X.K H0 (dLcS j te tt ta) σ H Q → tLc (iStr (lE X.K H0 te)) (gName j) (lT X.K H0 tt) (lE X.K H0 ta) [j] σ H Q := fun σ H Q ⟨τ, L, Q', I, q, k⟩ => ⟨τ, L, _, I, q, fun v H1 d L1 t1 h1 r1 ⟨z, ed, q1⟩ => by
  subst ed
  cases r1.str_inv
  refine ⟨z, rfl, fun E hE => ?_⟩
  obtain ⟨Pv, p0, ps, pe⟩ := q1 E (h1.none hE)
  have tE := tk_new (K := X.K) (o := .lst []) hE
  have hE' := h1.putL tE (ds := []) .nil
  refine ⟨fun i m H' => m = z.cps.size - i ∧ i ≤ z.cps.size ∧ ∃ L, TK X.K H H' ∧ HRp X.K L H' ∧ Pv i L, ⟨z.cps.size, by simp, Nat.zero_le _, _, t1.trans tE, hE', p0⟩, ?_⟩
  rintro i m H2 ⟨rfl, hi, L2, t2, h2, p2⟩
  by_cases hlt : i < z.cps.size
  · refine .inr ⟨hlt, fun H' => ∃ L, TK X.K H H' ∧ HRp X.K L H' ∧ Pv (i + 1) L, fun H' p' => ⟨z.cps.size - (i + 1), by omega, rfl, hlt, p'⟩, fun y H' yl => ?_⟩
    obtain ⟨e, c, hc, ey⟩ := yl
    subst e ey
    exact ⟨wipe_set, lc_turn (ins_wipe (I.to t2 h2) (.str _)) (ps i c L2 hc p2) fun H' L' t' h' n' => ⟨L', t2.trans t', h', n'⟩⟩
  · have e : i = z.cps.size := by omega
    subst e
    exact .inl ⟨Nat.le_refl _, k _ H2 _ L2 t2 h2 (.ref E) (pe L2 p2)⟩⟩
abbrev Blk (X : Cx) (scope : Scope) (s : Shared) (H : Hp) (C : Addr) (cl : List (Str × Addr)) (fp : List Addr) : Cx := X.blk s H scope (compEnvC scope cl C X.env) fp
theorem pd_lcL (hc : X.calm = true) (hN : X.N.Nodup) (hi : PD X H0 iter te) (ok : blkC X.N X.env.scope scope [(x, j)] = true)
    (ht : ∀ (s : Shared) (H : Hp) (C : Addr) (cl : List (Str × Addr)) (fp : List Addr), PDTs (Blk X scope s H C cl fp) H0 ifs tt) (he : ∀ (s : Shared) (H : Hp) (C : Addr) (cl : List (Str × Addr)) (fp : List Addr), PD (Blk X scope s H C cl fp) H0 elt ta)
    (hg : ∀ (s : Shared) (H : Hp) (C : Addr) (cl : List (Str × Addr)) (fp : List Addr), PG (Blk X scope s H C cl fp) (.Name x px) (gName j) := by exact fun _ _ _ _ _ => pg_name (by assumption) rfl (by first | exact .inl rfl | exact .inr rfl))
    (hs : ∀ x, foldedSetIterable iter X.env x = pure x := by intro _; rfl) : PD X H0 (.ListComp elt [⟨.Name x px, iter, ifs, 0⟩] scope pos) (dLcL j te tt ta) :=
  PE.imp (pe_lc (tt := lT X.K H0 tt) (te := lE X.K H0 ta) hc hN (pi_list hi) (blkOk_by ok) hg ht he hs) l_lcL
theorem pd_lcS (hc : X.calm = true) (hN : X.N.Nodup) (hi : PD X H0 iter te) (ok : blkC X.N X.env.scope scope [(x, j)] = true)
    (ht : ∀ (s : Shared) (H : Hp) (C : Addr) (cl : List (Str × Addr)) (fp : List Addr), PDTs (Blk X scope s H C cl fp) H0 ifs tt) (he : ∀ (s : Shared) (H : Hp) (C : Addr) (cl : List (Str × Addr)) (fp : List Addr), PD (Blk X scope s H C cl fp) H0 elt ta)
    (hg : ∀ (s : Shared) (H : Hp) (C : Addr) (cl : List (Str × Addr)) (fp : List Addr), PG (Blk X scope s H C cl fp) (.Name x px) (gName j) := by exact fun _ _ _ _ _ => pg_name (by assumption) rfl (by first | exact .inl rfl | exact .inr rfl))
    (hs : ∀ x, foldedSetIterable iter X.env x = pure x := by intro _; rfl) : PD X H0 (.ListComp elt [⟨.Name x px, iter, ifs, 0⟩] scope pos) (dLcS j te tt ta) :=
  PE.imp (pe_lc (tt := lT X.K H0 tt) (te := lE X.K H0 ta) hc hN (pi_str hi) (blkOk_by ok) hg ht he hs) l_lcS
theorem pd_lcR {n : Expr} {p pos' : Pos} (hc : X.calm = true) (hN : X.N.Nodup) (hm : X.mg "range" = none) (hi : PDA X H0 [n] tr) (ok : blkC X.N X.env.scope scope [(x, j)] = true)
    (ht : ∀ (s : Shared) (H : Hp) (C : Addr) (cl : List (Str × Addr)) (fp : List Addr), PDTs (Blk X scope s H C cl fp) H0 ifs tt) (he : ∀ (s : Shared) (H : Hp) (C : Addr) (cl : List (Str × Addr)) (fp : List Addr), PD (Blk X scope s H C cl fp) H0 elt ta)
    (hg : ∀ (s : Shared) (H : Hp) (C : Addr) (cl : List (Str × Addr)) (fp : List Addr), PG (Blk X scope s H C cl fp) (.Name x px) (gName j) := by exact fun _ _ _ _ _ => pg_name (by assumption) rfl (by first | exact .inl rfl | exact .inr rfl))
    (hgr : Gl X "range" := by rfl) (hs1 : starEach [n] X.env = [(false, eval n X.env)] := by rfl) (hs : ∀ x, foldedSetIterable (.Call (.Name "range" p) [n] [] pos') X.env x = pure x := by intro _; rfl) : PD X H0 (.ListComp elt [⟨.Name x px, (.Call (.Name "range" p) [n] [] pos'), ifs, 0⟩] scope pos) (dLcR j tr tt ta) :=
  PE.imp (pe_lc (tt := lT X.K H0 tt) (te := lE X.K H0 ta) hc hN (pi_range1 hgr hm hi hs1) (blkOk_by ok) hg ht he hs) l_lcR
/-- name = [..] -/
theorem pds_setLcR {i : Nat} {y : Str} {py spos : Pos} {n : Expr} {p pos' : Pos} (hc : X.calm = true) (hN : X.N.Nodup) (hm : X.mg "range" = none) (hi : PDA X H0 [n] tr) (ok : blkC X.N X.env.scope scope [(x, j)] = true)
    (ht : ∀ (s : Shared) (H : Hp) (C : Addr) (cl : List (Str × Addr)) (fp : List Addr), PDTs (Blk X scope s H C cl fp) H0 ifs tt) (he : ∀ (s : Shared) (H : Hp) (C : Addr) (cl : List (Str × Addr)) (fp : List Addr), PD (Blk X scope s H C cl fp) H0 elt ta)
    (hsw : swapsWith (.ListComp elt [⟨.Name x px, (.Call (.Name "range" p) [n] [] pos'), ifs, 0⟩] scope pos) (some (.Name y py)) spos.line X.env = pure true)
    (hy : X.N[i]? = some y := by rfl) (hyl : X.env.scope.names.lookup y = some .local := by rfl)
    (hg : ∀ (s : Shared) (H : Hp) (C : Addr) (cl : List (Str × Addr)) (fp : List Addr), PG (Blk X scope s H C cl fp) (.Name x px) (gName j) := by exact fun _ _ _ _ _ => pg_name (by assumption) rfl (by first | exact .inl rfl | exact .inr rfl))
    (hgr : Gl X "range" := by rfl) (hs1 : starEach [n] X.env = [(false, eval n X.env)] := by rfl) (hs : ∀ x, foldedSetIterable (.Call (.Name "range" p) [n] [] pos') X.env x = pure x := by intro _; rfl) : PDS X H0 (.Assign [.Name y py] (.ListComp elt [⟨.Name x px, (.Call (.Name "range" p) [n] [] pos'), ifs, 0⟩] scope pos) spos) (dSet i (dLcR j tr tt ta)) :=
  PS.imp (ps_setLc (tt := lT X.K H0 tt) (te := lE X.K H0 ta) hc hN hy hyl hsw (pi_range1 hgr hm hi hs1) (blkOk_by ok) hg ht he hs) fun D σ H ⟨τ, L, D', I, q, k1, k2, k3, k4⟩ => l_lcR σ H _ ⟨τ, L, _, I, q, fun v H1 d L1 t1 h1 r1 q1 => k1 _ H1 _ L1 t1 ((I.to t1 h1).set r1 i) q1⟩
end
end

/-! ### a def keeps its promise -/
def dstart (N : List Str) (ds : List D) : DSt := ds.map some ++ List.replicate (N.length - ds.length) none
theorem rps_start {K : PySem.W.Frag} {H : Hp} {N : List Str} {vs : List V} {ds : List D} (r : RpL K H vs ds) : RpS K H (L2.start N vs) (dstart N ds) := by
  have hl := r.length
  refine ⟨?_, fun i d h => ?_⟩
  · unfold L2.start dstart
    rw [List.length_append, List.length_append, List.length_map, List.length_map, List.length_replicate, List.length_replicate, hl]
  · unfold dstart at h
    unfold L2.start
    by_cases hi : i < ds.length
    · rw [List.getElem?_append_left (by simpa using hi), List.getElem?_map] at h
      cases e : ds[i]? with
      | none => rw [e] at h; cases h
      | some a =>
        rw [e] at h
        cases h
        obtain ⟨v, hv, rv⟩ := r.get e
        refine ⟨v, ?_, rv⟩
        rw [List.getElem?_append_left (by simp; omega), List.getElem?_map, hv]
        rfl
    · rw [List.getElem?_append_right (by simpa using hi), List.getElem?_replicate] at h
      split at h <;> cases h
section
variable {P : Program} {w : World} {K : PySem.W.Frag} {mg : Str → Option Value} {base : Heap} {x qual : Str} {params : Arguments} {body : List Stmt} {scope : Scope} {f : Addr} {fd : FuncData} {N ps : List Str} {k : Nat} {sp : DSp}
abbrev FnL (P : Program) (w : World) (K : PySem.W.Frag) (mg : Str → Option Value) (base : Heap) (CX : CXT) (k : Nat) (f : Addr) (sp : DSp) : Prop := FnR P w K mg base CX k f (spL K sp)
theorem FnL.mono {CX : CXT} {j k : Nat} (F : FnL P w K mg base CX j f sp) (h : j ≤ k) : FnL P w K mg base CX k f sp := FnR.mono F h
/-- a def without defaults that lets no exception out -/
theorem fnOk_mk (F : FunD K x qual params body scope [] [] f fd)
    (S : FnScope N ps scope) (len : ∀ ds L Q E, sp ds L Q E → ds.length = ps.length)
    (hbody : ∀ (cdv : Value) (A : Around) (outer : List Env) (s : Shared) (H : Hp) (E : XK) (ds : List D) (L : LHp) (Q : DK) (E' : XD), Room k (A.deeper (envOfC qual scope s.heap.objs.size f cdv)) → sp ds L Q E' →
      ∃ t, PDSs (cxOf CX0 P w K mg base N qual scope f cdv A outer s H E).nox H body t ∧ t { nx := fun _ L' => Q .non L', rt := Q } (dstart N ds) L) : FnOk P w K mg base CX0 (k + 1) f fd ps (spL K sp) := by
  refine F.ok S (fun vs H Q E ⟨ds, L, Q', E', r, h, s, _⟩ => by rw [r.length]; exact len _ _ _ _ s) fun cdv A outer s H vs Q E hr ⟨ds, L, Q', E', r, h, q, k1, k2⟩ => ?_
  obtain ⟨t, ht, hq⟩ := hbody cdv A outer s H E ds L Q' E' hr q
  exact ⟨_, (PSs.nox ht : PSs (cxOf CX0 P w K mg base N qual scope f cdv A outer s H E) body (lS K H t)), dstart N ds, L, _, ⟨.refl, rps_start r, h⟩, hq, fun σ' H' τ' L' t' I' n' => k1 _ H' _ L' t' I'.hp .non n', fun v H' d L' t' h' r' q' => k1 v H' d L' t' h' r' q', fun σ' H' τ' L' t' I' n' => n'.elim, fun σ' H' τ' L' t' I' n' => n'.elim⟩
theorem fnL_mk (F : FunD K x qual params body scope [] [] f fd) (hb : ∀ (kV doc pm : Value) (an : Option Addr) (cdv ct : Value) (us : List Value), us.length = ps.length → bindArgs (PySem.W.fnOf x qual params body scope .none kV doc pm an cdv ct) ⟨us, []⟩ = pure (ps.zip us))
    (S : FnScope N ps scope) (len : ∀ ds L Q E, sp ds L Q E → ds.length = ps.length)
    (hbody : ∀ (cdv : Value) (A : Around) (outer : List Env) (s : Shared) (H : Hp) (E : XK) (ds : List D) (L : LHp) (Q : DK) (E' : XD), Room k (A.deeper (envOfC qual scope s.heap.objs.size f cdv)) → sp ds L Q E' →
      ∃ t, PDSs (cxOf CX0 P w K mg base N qual scope f cdv A outer s H E).nox H body t ∧ t { nx := fun _ L' => Q .non L', rt := Q } (dstart N ds) L) : FnL P w K mg base CX0 (k + 1) f sp :=
  ((fnOk_mk F S len hbody).raw (FunD.bindsN F hb) .nil).imp fun vs H Q E h => by rw [List.append_nil]; exact h
/-- the heap that a law sees: the script alone -/
theorem law_start {H : Hp} {a : Addr} {ns : List Int} {sp : DSp} (hS : SqL K H a (ns.map V.int)) (hO : Only H)
    (h : sp [.fls (ns.map D.int)] (fun _ => none) (fun d _ => d = .bl true) ED0) : spL K sp [.ref a] H (fun v _ => v = .bl true) fun _ _ _ => False := by
  have rp : RpL K H (ns.map V.int) (ns.map D.int) := by
    clear hS h
    induction ns with
    | nil => exact .nil
    | cons n ns ih => exact .cons (.int n) ih
  have hF : SqF K H a (ns.map V.int) := by
    refine ⟨hS, ?_⟩
    rcases hS with (q | q) | ⟨o, its, n, lk, r⟩
    · rcases hO a with z | ⟨o, xs, z⟩ <;> rw [z] at q <;> cases q
    · exact .inl q
    · exact .inr ⟨o, lk, fun H' => .inr ⟨o, its, n, lk, r⟩⟩
  refine ⟨[.fls (ns.map D.int)], fun _ => none, fun d _ => d = .bl true, ED0, .cons (.fls hF rp) .nil, (fun b o e => by cases e), h, (fun v H' d L' _ _ r q => ?_), fun _ _ _ _ _ _ _ _ _ _ z => z⟩
  subst q
  exact r.bl_inv
/-- def f( *xs) -/
def spStar (sp : DSp) : DSp := fun ds L Q E => ds.length ≤ sizeLine ∧ sp [.tup ds] L Q E
theorem fnL_star {pv : Str} (F : FunD K x qual params body scope [] [] f fd) (S : FnScope N [pv] scope)
    (hb : ∀ (kV doc pm : Value) (an : Option Addr) (cdv ct : Value) (rest : List Value), bindArgs (PySem.W.fnOf x qual params body scope .none kV doc pm an cdv ct) ⟨rest, []⟩ = (newTuple rest >>= fun t => pure [(pv, t)]))
    (hbody : ∀ (cdv : Value) (A : Around) (outer : List Env) (s : Shared) (H : Hp) (E : XK) (ds : List D) (L : LHp) (Q : DK) (E' : XD), Room k (A.deeper (envOfC qual scope s.heap.objs.size f cdv)) → sp ds L Q E' →
      ∃ t, PDSs (cxOf CX0 P w K mg base N qual scope f cdv A outer s H E).nox H body t ∧ t { nx := fun _ L' => Q .non L', rt := Q } (dstart N ds) L) : FnL P w K mg base CX0 (k + 1) f (spStar sp) := by
  obtain ⟨oc, od, dV, kV, doc, pm, an, cdv, ct, osl, rfl, lk, hcd, hd, _⟩ := F.ex
  have ed : dV = .none := by
    rcases hd with ⟨_, e⟩ | ⟨z, _⟩
    · exact e
    · exact absurd rfl z
  subst ed
  refine (StX.fn_star (ps := []) (pv := pv) (sp := spL K sp) lk hcd S StX.cxUp_none (fun us rest hl => ?_) fun A outer s H vs Q E hr ⟨ds, L, Q', E', r, h, q, k1, k2⟩ => ?_).imp fun vs H Q E ⟨ds, L, Q', E', r, h, ⟨hz, q⟩, k1, k2⟩ => ?_
  · have eu : us = [] := List.eq_nil_of_length_eq_zero hl
    subst eu
    exact hb kV doc pm an cdv ct rest
  · obtain ⟨t, ht, hq⟩ := hbody cdv A outer s H E ds L Q' E' hr q
    exact ⟨_, (PSs.nox ht : PSs (cxOf CX0 P w K mg base N qual scope f cdv A outer s H E) body (lS K H t)), dstart N ds, L, _, ⟨.refl, rps_start r, h⟩, hq, fun σ' H' τ' L' t' I' n' => k1 _ H' _ L' t' I'.hp .non n', fun v H' d L' t' h' r' q' => k1 v H' d L' t' h' r' q', fun σ' H' τ' L' t' I' n' => n'.elim, fun σ' H' τ' L' t' I' n' => n'.elim⟩
  · refine ⟨[], vs, rfl, rfl, by rw [r.length]; exact hz, fun p hp => ⟨[.tup ds], L, Q', E', .cons (.tup (.inl (.inl upd_same)) (r.mono (tk_new hp))) .nil, h.grow hp, q, fun v H' d L' t' => k1 v H' d L' ((tk_new hp).trans t'), fun c a H' L' nm ns es t' => k2 c a H' L' nm ns es ((tk_new hp).trans t')⟩⟩
end
end DV
/-! Exceptions, told over plain data. -/
namespace DV
open PySem PySem.Spec PyProof.Rows L2 ExS
/-- a wish about exceptions, with the slots of the frame -/
abbrev DWX := Str → List Str → List D → DSt → LHp → Prop
/-- the context takes exceptions that W wishes -/
def WOk (X : Cx) (H0 : Hp) (W : DWX) : Prop := ∃ Wv : WX, Takes X Wv ∧ ∀ c a σ H τ L nm ns es, Ins X.K H0 σ H τ L → XRp X.K H c a nm ns es → W nm ns es τ L → Wv c a σ H
/-- .. in a def's own body -/
def wxd (E : XD) : DWX := fun nm ns es _ L => E nm ns es L
section
variable {P : Program} {w : World} {K : PySem.W.Frag} {mg : Str → Option Value} {base : Heap} {x qual : Str} {params : Arguments} {body : List Stmt} {scope : Scope} {f : Addr} {fd : FuncData} {N ps : List Str} {k : Nat} {sp : DSp}
theorem wok_def {A : Around} {outer : List Env} {cdv : Value} {s : Shared} {H : Hp} {E : XK} {E' : XD} (hE : XRel K H E' E) : WOk (cxOf (L2.CX P w) P w K mg base N qual scope f cdv A outer s H E) H (wxd E') :=
  ⟨fun c a _ H' => E c a H', takes_of (X := cxOf (L2.CX P w) P w K mg base N qual scope f cdv A outer s H E) rfl rfl rfl rfl, fun c a σ H' τ L nm ns es I y z => hE c a H' L nm ns es I.tk I.hp y z⟩
/-- a def that may raise -/
theorem fnOkX (F : FunD K x qual params body scope [] [] f fd) (S : FnScope N ps scope) (len : ∀ ds L Q E, sp ds L Q E → ds.length = ps.length)
    (hbody : ∀ (cdv : Value) (A : Around) (outer : List Env) (s : Shared) (H : Hp) (E : XK) (ds : List D) (L : LHp) (Q : DK) (E' : XD), Room k (A.deeper (envOfC qual scope s.heap.objs.size f cdv)) → XRel K H E' E → sp ds L Q E' →
      ∃ t, PDSs (cxOf (L2.CX P w) P w K mg base N qual scope f cdv A outer s H E) H body t ∧ t { nx := fun _ L' => Q .non L', rt := Q } (dstart N ds) L) : FnOk P w K mg base (L2.CX P w) (k + 1) f fd ps (spL K sp) := by
  refine F.ok S (fun vs H Q E ⟨ds, L, Q', E', r, h, s, _⟩ => by rw [r.length]; exact len _ _ _ _ s) fun cdv A outer s H vs Q E hr ⟨ds, L, Q', E', r, h, q, k1, k2⟩ => ?_
  obtain ⟨t, ht, hq⟩ := hbody cdv A outer s H E ds L Q' E' hr k2 q
  exact ⟨_, ht, dstart N ds, L, _, ⟨.refl, rps_start r, h⟩, hq, fun σ' H' τ' L' t' I' n' => k1 _ H' _ L' t' I'.hp .non n', fun v H' d L' t' h' r' q' => k1 v H' d L' t' h' r' q', fun σ' H' τ' L' t' I' n' => n'.elim, fun σ' H' τ' L' t' I' n' => n'.elim⟩
theorem fnX_mk (F : FunD K x qual params body scope [] [] f fd) (hb : ∀ (kV doc pm : Value) (an : Option Addr) (cdv ct : Value) (us : List Value), us.length = ps.length → bindArgs (PySem.W.fnOf x qual params body scope .none kV doc pm an cdv ct) ⟨us, []⟩ = pure (ps.zip us))
    (S : FnScope N ps scope) (len : ∀ ds L Q E, sp ds L Q E → ds.length = ps.length)
    (hbody : ∀ (cdv : Value) (A : Around) (outer : List Env) (s : Shared) (H : Hp) (E : XK) (ds : List D) (L : LHp) (Q : DK) (E' : XD), Room k (A.deeper (envOfC qual scope s.heap.objs.size f cdv)) → XRel K H E' E → sp ds L Q E' →
      ∃ t, PDSs (cxOf (L2.CX P w) P w K mg base N qual scope f cdv A outer s H E) H body t ∧ t { nx := fun _ L' => Q .non L', rt := Q } (dstart N ds) L) : FnR P w K mg base (L2.CX P w) (k + 1) f (spL K sp) :=
  ((fnOkX F S len hbody).raw (FunD.bindsN F hb) .nil).imp fun vs H Q E h => by rw [List.append_nil]; exact h
end
section
variable {X : Cx} {H0 : Hp} {e a b : Expr} {es : List Expr} {st : Stmt} {pos pos2 p : Pos} {te : DE} {tr : DA} {W : DWX} {x : Str}
/-- raise C(..): the class's code is its name -/
def dRaise (W : DWX) (x : Str) (fs : List Str) (ta : DA) : DS := fun D τ L => ta τ L fun ds L1 => ds.length = fs.length ∧ W x ("code" :: fs) (.str x :: ds) τ L1
theorem pds_raise {C fI : Addr} {t : Txt} {qual : Str} {params : Arguments} {nms : List (Str × NameKind)} {k : Nat} (hc : X.calm = true) (hW : WOk X H0 W) (T : OwnT X.prog X.K C fI t qual params nms) (hsup : X.mg "super" = none) (hr : Room k X.A) (ha : PDA X H0 (e :: es) tr) (hm : X.mg x = some (.ref (He.ga X.K x))) (hC : C = He.ga X.K x) (hn : t.nm = x) (hg : Gl X x := by rfl) (hdb : (x == ("__debug__" : Str)) = false := by decide)
    (he : starEach (e :: es) X.env = (false, eval e X.env) :: starEach es X.env := by rfl) (hpl : (backTo pos (starEach es X.env)).any (·.1) = false := by rfl) : PDS X H0 (.Raise (some (.Call (.Name x p) (e :: es) [] pos)) none pos2) (dRaise W x t.fs tr) := by
  obtain ⟨Wv, tk, hw⟩ := hW
  subst hC
  refine PS.imp (ps_raise hc tk (pmk_sup T hsup hr ha hg hm hdb he hpl)) fun D σ H ⟨τ, L, D', I, q, k1, k2, k3, k4⟩ => ⟨τ, L, _, I, q, fun vs H1 ds L1 t1 h1 r1 ⟨hl, q1⟩ => ⟨by rw [r1.length]; exact hl, fun d hd => ?_⟩⟩
  have t2 := tk_new (K := X.K) (o := .xd (fieldsOf t.nm t.fs vs)) hd
  refine hw _ _ σ _ τ L1 x _ _ ((I.to t1 h1).to t2 (h1.grow hd)) ⟨d, .str x :: vs, rfl, rfl, ?_, .cons (.str x) (r1.mono t2)⟩ q1
  rw [upd_same, ← hn]
  rfl
/-- f(..), f may raise -/
def dCallX (sp : DSp) (W : DWX) (t : DA) : DE := fun τ L Q => t τ L fun ds L1 => sp ds L1 Q fun nm ns es L' => W nm ns es τ L'
theorem run_fnRS {CX : CXT} {k : Nat} {f : Addr} {sp : Sp} {E : XK} {pins : List (Addr × Obj)} {σ : L2.St} {H : Hp} {s : Shared} {Q : VK} {us : List Value} {vs : List V} (F : FnR X.prog X.w X.K X.mg X.base CX k f sp) (hr : Room k X.A) (hx : PassesAt CX X σ E) (I : Inv X pins σ H s) (r : Vals vs us) (h : sp vs H Q E) :
    codeAny (model X.prog X.w) X.A (.call (.ref f) ⟨us, []⟩) (wants (EP X pins σ Q) X.xe) s :=
  codeAny_mono (F X.A X.stack s H us vs Q E hr I.env0 r h) fun r s' hq => by
    cases r with
    | error e => exact hx pins H s e s' I hq
    | ok fl =>
      cases fl with
      | ret u => exact I.after hq
      | next => exact hq.elim
      | brk => exact hq.elim
      | cont => exact hq.elim
theorem pd_callX {k : Nat} {f : Addr} {sp : DSp} (F : FnR X.prog X.w X.K X.mg X.base (L2.CX X.prog X.w) k f (spL X.K sp)) (hr : Room k X.A) (hk : PySem.W.keepIn X.K (.ref f) = true) (hm : X.mg x = some (.ref f)) (hW : WOk X H0 W)
    (ha : PDA X H0 (e :: es) tr) (hg : Gl X x := by rfl) (hdb : (x == ("__debug__" : Str)) = false := by decide) (he : starEach (e :: es) X.env = (false, eval e X.env) :: starEach es X.env := by rfl) (hpl : (backTo pos (starEach es X.env)).any (·.1) = false := by rfl) :
    PD X H0 (.Call (.Name x p) (e :: es) [] pos) (dCallX sp W tr) := by
  obtain ⟨Wv, tk, hw⟩ := hW
  refine ⟨fun pins s σ H Q I ⟨τ, L, Q', I', q, kk⟩ => wpAny_Call_Name_kw (ld_glob I hg hm ?_ hdb)⟩
  have h : lA X.K H0 tr σ H fun vs H1 => spL X.K sp vs H1 Q (WE Wv σ) := ⟨τ, L, _, I', q, fun vs H1 ds L1 t1 h1 r1 q1 => ⟨ds, L1, Q', _, r1, h1, q1, fun v H2 d L2 t2 h2 r2 q2 => kk v H2 d L2 (t1.trans t2) h2 r2 q2, fun c a H2 L2 nm ns es t2 h2 y z => hw c a σ H2 τ L2 nm ns es (I'.to (t1.trans t2) h2) y z⟩⟩
  refine PySem.W.callWith_K (h₀ := X.base) I.ok.mod.kin hk (thn (ha.run pos pins s σ H _ I h) fun us s1 ⟨vs, H1, I1, r, q⟩ => ⟨I1.kIn, ?_⟩) he hpl
  exact wpAny_call (run_fnRS F hr (passAt tk σ) I1 r q)
/-- try: .. except .. as n -/
def dTry (i : Nat) (ok : Str → Prop) (tb : DWX → DS) (th : DS) : DS := fun D τ L => tb (fun nm ns es τ' L' => ok nm ∧ th { nx := fun τ2 L2 => D.nx (τ2.set i none) L2, rt := D.rt, bk := fun τ2 L2 => D.bk (τ2.set i none) L2, ct := fun τ2 L2 => D.ct (τ2.set i none) L2 } (τ'.set i (some (.exc nm ns es))) L') D τ L
theorem Ins.unset {K : PySem.W.Frag} {H : Hp} {σ : L2.St} {τ : DSt} {L : LHp} (I : Ins K H0 σ H τ L) (i : Nat) : Ins K H0 (σ.set i none) H (τ.set i none) L := by
  refine ⟨I.tk, ⟨by rw [List.length_set, List.length_set]; exact I.sl.1, fun j d h => ?_⟩, I.hp⟩
  by_cases hj : i = j
  · subst hj
    by_cases hl : i < τ.length
    · rw [List.getElem?_set_self hl] at h; cases h
    · rw [List.getElem?_eq_none (by rw [List.length_set]; omega)] at h; cases h
  · rw [List.getElem?_set_ne hj] at h ⊢
    exact I.sl.2 j d h
theorem pds_try {n : Str} {i : Nat} {test : Expr} {cm : Value → Prop} {ok : Str → Prop} {body suite : List Stmt} {b₀ : Stmt} {pos' : Pos} {tb : DWX → DS} {th : DS} (hs : X.stack = X.env :: X.outer) (hf : X.env.frame = some X.env.locals) (hex : X.ex = []) (hN : X.N.Nodup) (hi : X.N[i]? = some n) (hln : X.env.kindOf n = some .local) (ht : TestOk X test cm)
    (hok : ∀ nm, ok nm → cm (.ref (He.ga X.K nm))) (hb : ∀ (H1 : Hp) (W : DWX) (pn : List (Addr × Obj)) (xe : Value → Shared → Prop), WOk (X.tr pn xe) H1 W → PassesOwn (model X.prog X.w) X.A X.env xe → PDSs (X.tr pn xe) H1 body (tb W))
    (hsu : ∀ (a : Addr) (pn : List (Addr × Obj)), PDSs (X.suite a pn) H0 (b₀ :: suite) th) : PDS X H0 (.Try body [.ExceptHandler (some test) (some n) (b₀ :: suite) pos'] [] [] pos) (dTry i ok tb th) := by
  let tbV : WX → TS := fun Wv Dv σ H => ∃ (WD : DWX) (H1 : Hp), (∀ c a σ H τ L nm ns es, Ins X.K H1 σ H τ L → XRp X.K H c a nm ns es → WD nm ns es τ L → Wv c a σ H) ∧ lS X.K H1 (tb WD) Dv σ H
  refine PS.imp (ps_tryT (tb := tbV) (ts := lS X.K H0 th) hs hf hex hN hi hln ht (fun Wv pn xe tk po => ⟨fun pins s σ H D I ⟨WD, H1, hw, h⟩ => (hb H1 WD pn xe ⟨Wv, tk, hw⟩ po).run pins s σ H D I h⟩) hsu) fun D σ H ⟨τ, L, D', I, q, k1, k2, k3, k4⟩ => ?_
  refine ⟨_, H, fun c a σ2 H2 τ2 L2 nm ns es I2 y hz => ?_, τ, L, D', ⟨.refl, I.sl, I.hp⟩, q, fun σ4 H4 τ4 L4 t4 I4 n4 => k1 σ4 H4 τ4 L4 t4 ⟨I.tk.trans t4, I4.sl, I4.hp⟩ n4, fun v H4 d4 L4 t4 h4 r4 q4 => k2 v H4 d4 L4 (I.tk.trans t4) h4 r4 q4, fun σ4 H4 τ4 L4 t4 I4 n4 => k3 σ4 H4 τ4 L4 t4 ⟨I.tk.trans t4, I4.sl, I4.hp⟩ n4, fun σ4 H4 τ4 L4 t4 I4 n4 => k4 σ4 H4 τ4 L4 t4 ⟨I.tk.trans t4, I4.sl, I4.hp⟩ n4⟩
  obtain ⟨hk, q2⟩ := hz
  obtain ⟨d, xs, ec, ea, hd, rr⟩ := y
  subst ec ea
  refine ⟨hok nm hk, fun a oe vs na hz hv => ?_⟩
  have t3 := tk_new (K := X.K) (o := exq a oe) na
  have nd : d ≠ a := fun z => by rw [z, na] at hd; cases hd
  have ex : ExAt (upd H2 a (exq a oe)) a (He.ga X.K nm) (ns.zip xs).reverse := ⟨oe, d, upd_same, hz, ⟨vs, hv⟩, by rw [upd_ne nd]; exact hd⟩
  have I3 := (I2.to t3 (I2.hp.grow na)).set (.exc ex (rr.mono t3)) i
  refine ⟨_, L2, _, ⟨I.tk.trans I3.tk, I3.sl, I3.hp⟩, q2, fun σ4 H4 τ4 L4 t4 I4 n4 => ?_, fun v H4 d4 L4 t4 h4 r4 q4 => k2 v H4 d4 L4 t4 h4 r4 q4, fun σ4 H4 τ4 L4 t4 I4 n4 => ?_, fun σ4 H4 τ4 L4 t4 I4 n4 => ?_⟩
  · exact k1 _ H4 _ L4 (I3.tk.trans t4) (I4.unset i) n4
  · exact k3 _ H4 _ L4 (I3.tk.trans t4) (I4.unset i) n4
  · exact k4 _ H4 _ L4 (I3.tk.trans t4) (I4.unset i) n4
/-- names of classes -/
theorem pd_cls (hm : X.mg x = some (.ref (He.ga X.K x))) (hg : Gl X x := by rfl) (hd : (x == ("__debug__" : Str)) = false := by decide) : PD X H0 (.Name x p) (dC (.cls x)) := PE.imp (pe_glob (v := .ref (He.ga X.K x)) hg hm rfl hd) (lE_c fun _ => .cls x)
/-- e.f of an exception -/
def dFld (ok : Str → Prop) (f : Str) (te : DE) : DE := fun τ L Q => te τ L fun x L1 => ∃ nm ns es v, x = .exc nm ns es ∧ ok nm ∧ (ns.zip es).reverse.lookup f = some v ∧ Q v L1
theorem zip_look {K : PySem.W.Frag} {H : Hp} {f : Str} : ∀ {ns : List Str} {xs : List V} {es : List D} {v : D}, RpL K H xs es → (ns.zip es).lookup f = some v → ∃ u, (ns.zip xs).lookup f = some u ∧ Rp K H u v
  | [], _, _, _, _, h => by simp at h
  | _ :: _, _, _, _, .nil, h => by simp at h
  | n :: ns, _, _, _, .cons r t, h => by
    rw [List.zip_cons_cons, List.lookup_cons] at h ⊢
    cases e : f == n with
    | true => rw [e] at h; cases h; exact ⟨_, rfl, r⟩
    | false => rw [e] at h; exact zip_look t h
theorem rev_look {K : PySem.W.Frag} {H : Hp} {f : Str} {ns : List Str} {xs : List V} {es : List D} {v : D} (r : RpL K H xs es) (h : (ns.zip es).reverse.lookup f = some v) : ∃ u, (ns.zip xs).reverse.lookup f = some u ∧ Rp K H u v := by
  have key : ∀ (ns : List Str) (xs : List V) (es : List D), RpL K H xs es → ∀ (pa : List (Str × V)) (pb : List (Str × D)), (∀ v, pb.lookup f = some v → ∃ u, pa.lookup f = some u ∧ Rp K H u v) → (pb.lookup f = none → pa.lookup f = none) →
      ∀ v, ((ns.zip es).reverse ++ pb).lookup f = some v → ∃ u, ((ns.zip xs).reverse ++ pa).lookup f = some u ∧ Rp K H u v := fun ns => by
    induction ns with
    | nil => intro xs es r pa pb h1 h2 v h; exact h1 v (by simpa using h)
    | cons n ns ih =>
      intro xs es r pa pb h1 h2 v h
      cases r with
      | nil => exact h1 v (by simpa using h)
      | @cons u us d ds ru rt =>
        rw [List.zip_cons_cons, List.reverse_cons, List.append_assoc] at h ⊢
        refine ih _ _ rt ((n, u) :: pa) ((n, d) :: pb) (fun v hv => ?_) (fun hv => ?_) v h
        · rw [List.lookup_cons] at hv ⊢
          cases e : f == n with
          | true => rw [e] at hv; cases hv; exact ⟨_, rfl, ru⟩
          | false => rw [e] at hv; exact h1 v hv
        · rw [List.lookup_cons] at hv ⊢
          cases e : f == n with
          | true => rw [e] at hv; cases hv
          | false => rw [e] at hv; exact h2 hv
  have z := key ns xs es r [] [] (fun v hv => by cases hv) (fun _ => rfl) v (by rw [List.append_nil]; exact h)
  rw [List.append_nil] at z
  exact z
theorem pd_fld {ok : Str → Prop} {f : Str} (hk : ∀ nm, ok nm → XfC X.K (He.ga X.K nm) ∧ PySem.W.findIn X.K (.ref (He.ga X.K nm)) f = some none) (he : PD X H0 e te) (hb : attributeBase e f X.env (eval e X.env) = eval e X.env := by rfl) : PD X H0 (.Attribute e f pos) (dFld ok f te) :=
  PE.imp (pe_exf he hb) fun σ H Q ⟨τ, L, Q', I, q, k⟩ => ⟨τ, L, _, I, q, fun v H1 d L1 t1 h1 r1 ⟨nm, ns, es, u, ed, ho, hl, q1⟩ => by
    subst ed
    cases r1 with
    | exc ex rr =>
      obtain ⟨y, hy, ry⟩ := rev_look rr hl
      exact ⟨_, _, _, y, rfl, ex, (hk nm ho).1, (hk nm ho).2, hy, k y H1 u L1 t1 h1 ry q1⟩⟩
/-- isinstance(e, C) of an exception -/
def rIsED (ib : Str → Str → Option Bool) : DRC
  | [.exc nm _ _, .cls c], L, Q => ∃ b, ib nm c = some b ∧ Q (.bl b) L
  | _, _, _ => False
theorem sim_isE {ib : Str → Str → Option Bool} (hk : ∀ nm c b, ib nm c = some b → ExcC X.K (He.ga X.K nm) ∧ PySem.W.kitOne X.K (.ref (He.ga X.K nm)) (.ref (He.ga X.K c)) = some b) : SimC X.K (rIsX X.K) (rIsED ib) := by
  intro xs H ds L Q' Q r hL h k
  unfold rIsED at h
  split at h
  · obtain ⟨v, u, rfl, rv, ru⟩ := r.two
    obtain ⟨b, hb, q⟩ := h
    obtain ⟨h1, h2⟩ := hk _ _ _ hb
    cases rv with
    | exc ex rr =>
      cases ru with
      | cls c => exact ⟨_, _, _, _, _, b, rfl, ex, h1, ClsV.own _, h2, k _ H _ L .refl hL (.bl _) q⟩
  · exact h.elim
end
end DV
/-! Further rules over plain data. -/
namespace DV
open PySem PySem.Spec PyProof.Rows L2
section
variable {X : Cx} {H0 : Hp} {e a b : Expr} {es : List Expr} {pos p : Pos} {ta tb te : DE} {tr : DA} {x : Str}
/-! a text in a list of texts -/
theorem inV_strs (z : Str) : ∀ ss : List Str, inV (.str z) (ss.map V.str) = decide (z ∈ ss)
  | [] => by simp [inV]
  | s :: ss => by
    have ih := inV_strs z ss
    unfold inV at ih ⊢
    rw [List.map_cons, List.any_cons, ih]
    by_cases h : s = z
    · subst h; simp [eqV]
    · have h2 : ¬ z = s := fun e => h e.symm
      simp [eqV, h, h2]
theorem rp_strs {K : PySem.W.Frag} {H : Hp} : ∀ {xs : List V} {ss : List Str}, RpL K H xs (ss.map .str) → xs = ss.map V.str
  | _, [], r => by
    cases r
    rfl
  | _, s :: ss, r => by
    rw [List.map_cons] at r
    cases r with
    | cons r1 r2 =>
      cases r1.str_inv
      rw [rp_strs r2, List.map_cons]
def rInLD : DR2
  | .str z, .ref a, L, Q => ∃ ss : List Str, LRd L a (ss.map .str) ∧ Q (.bl (decide (z ∈ ss))) L
  | _, _, _, _ => False
theorem sim_inL : Sim2 X.K (rIn X.K false) rInLD := by
  intro x y H d e L Q' Q rx ry hL h k
  unfold rInLD at h
  split at h
  · obtain ⟨ss, hl, q⟩ := h
    cases rx.str_inv
    cases ry.ref_inv
    obtain ⟨xs, s, r⟩ := hL.rd hl
    cases rp_strs r
    refine ⟨_, _, rfl, .inl s, rfl, by simp [flatV], ?_⟩
    rw [if_neg Bool.false_ne_true, inV_strs]
    exact k _ H _ L .refl hL (.bl _) q
  · exact h.elim
theorem pd_inL (ha : PD X H0 a ta) (hb : PD X H0 b tb) (hm : behindInMarks .In b = false := by rfl) : PD X H0 (.Compare a [.In] [b] pos) (dOp rInLD ta tb) := pd_cmp op_in_seq sim_inL ha hb hm
theorem pdt_inL (ha : PD X H0 a ta) (hb : PD X H0 b tb) (hm : behindInMarks .In b = false := by rfl) : PDT X H0 (.Compare a [.In] [b] pos) (dB (dOp rInLD ta tb)) := pdt_cmp op_in_seq sim_inL ha hb hm
/-! tuple(a list) -/
def dTupOf (te : DE) : DE := fun τ L Q => te τ L fun x L1 => (∃ a ds, x = .ref a ∧ LRd L1 a ds ∧ Q (.tup ds) L1) ∨ ∃ ds, x = .tup ds ∧ Q (.tup ds) L1
theorem pd_tupleOf (hm : X.mg "tuple" = none) (ha : PD X H0 e te) (hg : Gl X "tuple" := by rfl) (na : starEach [e] X.env = (false, eval e X.env) :: starEach [] X.env := by rfl) : PD X H0 (.Call (.Name "tuple" p) [e] [] pos) (dTupOf te) :=
  PE.imp (pe_tupleOf hg hm ha na) fun σ H Q ⟨τ, L, Q', I, q, k⟩ => ⟨τ, L, _, I, q, fun v H1 d L1 t1 h1 r1 h => by
    rcases h with ⟨a, ds, ed, hl, q1⟩ | ⟨ds, ed, q1⟩
    · subst ed
      cases r1.ref_inv
      obtain ⟨xs, s, rr⟩ := h1.rd hl
      exact .inl ⟨a, xs, rfl, s, fun p hp => k _ _ _ L1 (t1.trans (tk_new hp)) (h1.grow hp) (.tup (.inl (.inl upd_same)) (rr.mono (tk_new hp))) q1⟩
    · subst ed
      cases r1 with
      | tup s rr => exact .inr ⟨_, _, rfl, s, k _ _ _ L1 t1 h1 (.tup s rr) q1⟩⟩
/-! math.lcm -/
def CLcm (i j : Int) : Prop := i.natAbs < 2 ^ 8000 ∧ j.natAbs < 2 ^ 8000 ∧ (Nat.lcm i.natAbs j.natAbs).log2 < bitsLine
def rLcm : List V → Hp → VK → Prop := fun vs H Q => ∃ a b : Int, vs = [.int a, .int b] ∧ CLcm a b ∧ Q (.int ((Nat.lcm a.natAbs b.natAbs : Nat) : Int)) H
theorem log_lt {n k : Nat} (h : n < 2 ^ k) (hk : 0 < k) : n.log2 < k := by
  by_cases h0 : n = 0
  · subst h0; rw [Nat.log2_zero]; exact hk
  · exact (Nat.log2_lt h0).mpr h
theorem cr_lcm : CallR X (.builtin "math.lcm") rLcm := by
  intro pins s σ H vs us Q I r h
  obtain ⟨a, b, rfl, ⟨h1, h2, h3⟩, q⟩ := h
  obtain ⟨t, u, rfl⟩ := Vals.int2 r
  have e1 : Nat.lcm 1 a.natAbs = a.natAbs := Nat.lcm_one_left _
  have m1 : max 1 a.natAbs < 2 ^ 8000 := by
    rcases Nat.le_total 1 a.natAbs with h | h
    · rw [Nat.max_eq_right h]; exact h1
    · rw [Nat.max_eq_left h]; exact Nat.one_lt_two_pow (by decide)
  have m2 : max a.natAbs b.natAbs < 2 ^ 8000 := by
    rcases Nat.le_total a.natAbs b.natAbs with h | h
    · rw [Nat.max_eq_right h]; exact h2
    · rw [Nat.max_eq_left h]; exact h1
  have l1 := log_lt m1 (by decide)
  have l2 := log_lt m2 (by decide)
  have run := PySem.W.mg_run_lcm a t b u (by omega) (by omega) (by rw [e1]; exact h3)
  rw [e1] at run
  exact call_function_meets PySem.W.MGF.kind_lcm PySem.W.MGF.plain_lcm PySem.W.MGF.entry_lcm (PySem.W.MGF.args_lcm _ _) run.meets ⟨.int _, H, I.tok _, ⟨_, rfl⟩, q⟩
def rLcmD : DRC
  | [.int i, .int j], L, Q => CLcm i j ∧ Q (.int ((Nat.lcm i.natAbs j.natAbs : Nat) : Int)) L
  | _, _, _ => False
theorem sim_lcm : SimC X.K rLcm rLcmD := by
  intro xs H ds L Q' Q r hL h k
  unfold rLcmD at h
  split at h
  · obtain ⟨v, u, rfl, rv, ru⟩ := r.two
    cases rv.int_inv; cases ru.int_inv
    exact ⟨_, _, rfl, h.1, k _ H _ L .refl hL (.int _) h.2⟩
  · exact h.elim
theorem pd_lcm (hg : Gl X x) (hm : X.mg x = some (.builtin "math.lcm")) (ha : PDA X H0 (e :: es) tr) (hdb : (x == ("__debug__" : Str)) = false := by decide)
    (he : starEach (e :: es) X.env = (false, eval e X.env) :: starEach es X.env := by rfl) (hpl : (backTo pos (starEach es X.env)).any (·.1) = false := by rfl) : PD X H0 (.Call (.Name x p) (e :: es) [] pos) (dCB rLcmD tr) := PE.imp (pe_callBfun cr_lcm hg hm ha hdb he hpl) (lCB sim_lcm)
/-! a text times a number from 2 on -/
def timesS (z : Str) (n : Int) : Str := ⟨(List.replicate n.toNat z.cps).foldl (· ++ ·) #[]⟩
def CTimes (z : Str) (n : Int) : Prop := 2 ≤ n ∧ n ≤ 1000 ∧ 1 ≤ z.length ∧ z.length ≤ 1000 ∧ (timesS z n).length ≤ sizeLine
theorem op_smul : OpR X (binaryOp .Mult) (fun x y H Q => ∃ z n, x = .str z ∧ y = .int n ∧ CTimes z n ∧ Q (.str (timesS z n)) H) := by
  intro pins s σ H x y v u Q I rx ry h
  obtain ⟨z, n, rfl, rfl, ⟨h1, h2, h3, h4, h5⟩, q⟩ := h
  obtain ⟨t, rfl⟩ := rx
  obtain ⟨t2, rfl⟩ := ry
  have n1 : ¬ n < 1 := by omega
  have ne : (n == 1 || z.length == 0) = false := by
    rw [Bool.or_eq_false_iff]
    exact ⟨by simp; omega, by simp; omega⟩
  refine PySem.P.mul_str ?_ (fun _ _ => ?_) (fun _ _ => ?_) ?_
  · rw [decide_eq_false (by omega), decide_eq_false (by omega)]; rfl
  · have h5 : (9223372036854775807 : Int) / 1000 ≤ (2 ^ 63 - 1) / n := by
      have h6 : (9223372036854775807 : Int) / 1000 * n ≤ 9223372036854775807 := by omega
      exact (Int.le_ediv_iff_mul_le (by omega)).mpr h6
    omega
  · have h7 : z.length * n.toNat ≤ 1000 * 1000 := Nat.mul_le_mul h4 (by omega)
    show decide (z.length * n.toNat > sizeLine) = false
    exact decide_eq_false (by rw [sizeLine_eq]; omega)
  · rw [if_neg n1, ne, if_neg Bool.false_ne_true]
    exact ⟨h5, ⟨.str _, H, I.tok _, ⟨_, rfl⟩, q⟩⟩
def rMulSD : DR2
  | .str z, .int n, L, Q => CTimes z n ∧ Q (.str (timesS z n)) L
  | _, _, _, _ => False
theorem pd_smul (ha : PD X H0 a ta) (hb : PD X H0 b tb) : PD X H0 (.BinOp a .Mult b pos) (dOp rMulSD ta tb) := pd_op op_smul (by
  intro x y H d e L Q' Q rx ry hL h k
  unfold rMulSD at h
  split at h
  · cases rx.str_inv; cases ry.int_inv
    exact ⟨_, _, rfl, rfl, h.1, k _ H _ L .refl hL (.str _) h.2⟩
  · exact h.elim) ha hb
/-! {} -/
def dDict0 : DE := fun _ L Q => ∀ p, L p = none → Q (.ref p) (lupd L p (.dk []))
theorem pd_dict0 : PD X H0 (.Dict [] [] pos) dDict0 := PE.imp pe_dnewK fun σ H Q ⟨τ, L, Q', I, q, k⟩ => fun p hp =>
  k _ _ _ _ (tk_new hp) (I.hp.put (u := .dk []) (tk_new hp) ⟨[], .inl upd_same, .nil⟩) (.ref p) (q p (I.hp.none hp))
end
end DV
/-! Defs whose bodies want no calm: they may be called within an except suite, too. -/
namespace DV
open PySem PySem.Spec PyProof.Rows L2 ExS L2H
/-- a promise of a def that asks nothing about a handled exception -/
def FnW (P : Program) (w : World) (K : PySem.W.Frag) (mg : Str → Option Value) (base : Heap) (CX : CXT) (k : Nat) (f : Addr) (sp : Sp) : Prop :=
  ∀ (A : Around) (outer : List Env) (s : Shared) (H : Hp) (us : List Value) (vs : List V) (Q : VK) (E : XK), RoomH k A → Env0 P w K mg base A outer s H → Vals vs us → sp vs H Q E →
    codeAny (model P w) A (.call (.ref f) ⟨us, []⟩) (CR CX outer P w H s Q E) s
section
variable {P : Program} {w : World} {K : PySem.W.Frag} {mg : Str → Option Value} {base : Heap} {x qual : Str} {params : Arguments} {body : List Stmt} {scope : Scope} {f : Addr} {fd : FuncData} {N ps : List Str} {k j : Nat} {sp : DSp} {CX : CXT} {spv : Sp}
theorem FnW.mono (F : FnW P w K mg base CX j f spv) (h : j ≤ k) : FnW P w K mg base CX k f spv := fun A outer s H us vs Q E hr => F A outer s H us vs Q E (hr.mono h)
theorem FnW.fnR (F : FnW P w K mg base CX k f spv) : FnR P w K mg base CX k f spv := fun A outer s H us vs Q E hr => F A outer s H us vs Q E (roomH_of hr)
/-- the def's own object: a pin that tells nothing -/
theorem pin_fun {A : Around} {outer : List Env} {s : Shared} {H : Hp} {o : Obj} (e0 : Env0 P w K mg base A outer s H) (lk : K.lookup f = some o) (nc : ∀ v, o.data ≠ .cell v) : PinOk outer H s (f, o) := by
  have hb := e0.mod.kin _ _ lk
  refine ⟨(e0.bs _ _ hb).1, (e0.bs _ _ hb).2, fun hm => ?_, nc⟩
  have := (e0.funs.mem hm).1
  rw [hb] at this
  cases this
theorem fnW_mk (F : FunD K x qual params body scope [] [] f fd) (hb : ∀ (kV doc pm : Value) (an : Option Addr) (cdv ct : Value) (us : List Value), us.length = ps.length → bindArgs (PySem.W.fnOf x qual params body scope .none kV doc pm an cdv ct) ⟨us, []⟩ = pure (ps.zip us))
    (S : FnScope N ps scope) (len : ∀ ds L Q E, sp ds L Q E → ds.length = ps.length)
    (hbody : ∀ (cdv : Value) (A : Around) (outer : List Env) (s : Shared) (H : Hp) (E : XK) (p : Addr × Obj) (ds : List D) (L : LHp) (Q : DK) (E' : XD), RoomH k (A.deeper (envOfC qual scope s.heap.objs.size f cdv)) → sp ds L Q E' →
      ∃ t, PDSs (cxH CX0 P w K mg base N qual scope f cdv A outer s H E p).nox H body t ∧ t { nx := fun _ L' => Q .non L', rt := Q } (dstart N ds) L) : FnW P w K mg base CX0 (k + 1) f (spL K sp) := by
  have B := FunD.bindsN F hb
  obtain ⟨oc, od, dV, kV, doc, pm, an, cdv, ct, osl, rfl, lk, hcd, _, _⟩ := F.ex
  intro A outer s H us vs Q E hr e0 r ⟨ds, L, Q', E', r', h, hsp, k1, k2⟩
  have hl : vs.length = ps.length := by rw [r'.length]; exact len _ _ _ _ hsp
  have KX : K.In s.heap := e0.mod.kin.keeps fun b o e => (e0.bs b o e).1
  have lim : s.heap.NoLimit := e0.mod.nolimit.keeps fun b o e => (e0.bs b o e).1
  have bb := B s us KX (by rw [List.append_nil, ← r.length]; exact hl)
  rw [List.append_nil] at bb
  have hkind : ∀ y ∈ ps.zip us, scope.names.lookup y.1 = some .local ∨ (scope.names.lookup y.1 = some .cell ∧ ((cellsFrom (s.heap.objs.size + 1) scope.names []).lookup y.1).isSome = true) := fun ⟨n, v⟩ hy => by
    rcases S.par n (List.of_mem_zip hy).1 with q | q
    · exact .inl q
    · exact .inr ⟨q, PySem.W.cellsFrom_some _ _ _ (.inl q)⟩
  refine codeAny_call_function hr.depth (KX _ _ lk) rfl S.co S.gen rfl (PySem.W.codeRec_of KX hcd) (bb _ _ _ _ ?_)
  refine wpAny_newFunctionEnv_cells S.kind hkind fun env he s1 xx => ?_
  subst he
  refine ⟨lim.keeps xx.toInCall.keep, codeAny_func ?_⟩
  have pk := pin_fun e0 lk (fun v z => by cases z)
  obtain ⟨t, ht, hq⟩ := hbody cdv A outer s H E _ ds L Q' E' (hr.deeper _) hsp
  have I := inv_startH (CX := CX0) (E := E) (cd := cdv) (f := f) S pk e0 hl r xx
  have ht' := (PSs.nox ht : PSs (cxH CX0 P w K mg base N qual scope f cdv A outer s H E _) body (lS K H t))
  have hq' : lS K H t { nx := fun _ H' => Q .non H', rt := Q } (L2.start N vs) H := ⟨dstart N ds, L, _, ⟨.refl, rps_start r', h⟩, hq, fun σ' H' τ' L' t' I' n' => k1 _ H' _ L' t' I'.hp .non n', fun v H' d L' t' h' r' q' => k1 v H' d L' t' h' r' q', fun σ' H' τ' L' t' I' n' => n'.elim, fun σ' H' τ' L' t' I' n' => n'.elim⟩
  refine wpAny_mono (ht'.run [] s1 (L2.start N vs) H _ I hq') (fun fl s' hs => ?_) fun e s' hs => hs
  cases fl with
  | ret u =>
    obtain ⟨v, σ', H', J, rv, q⟩ := hs
    exact ⟨v, H', J.os, J.bare, J.base, J.hok, rv, q⟩
  | next =>
    obtain ⟨σ', H', J, q⟩ := hs
    exact ⟨V.non, H', J.os, J.bare, J.base, J.hok, rfl, q⟩
  | brk =>
    obtain ⟨_, _, _, q⟩ := hs
    exact False.elim q
  | cont =>
    obtain ⟨_, _, _, q⟩ := hs
    exact False.elim q
end
section
variable {X : Cx} {H0 : Hp} {e : Expr} {es : List Expr} {pos : Pos} {tr : DA}
/-- f(..) of such a def, in any context -/
theorem pd_callW {k : Nat} {f : Addr} {sp : DSp} {x : Str} {p : Pos} (F : FnW X.prog X.w X.K X.mg X.base CX0 k f (spL X.K sp)) (hr : RoomH k X.A) (hk : PySem.W.keepIn X.K (.ref f) = true) (hm : X.mg x = some (.ref f))
    (ha : PDA X H0 (e :: es) tr) (hg : Gl X x := by rfl) (hdb : (x == ("__debug__" : Str)) = false := by decide) (he : starEach (e :: es) X.env = (false, eval e X.env) :: starEach es X.env := by rfl) (hpl : (backTo pos (starEach es X.env)).any (·.1) = false := by rfl) :
    PD X H0 (.Call (.Name x p) (e :: es) [] pos) (dCall sp ED0 tr) := by
  refine ⟨fun pins s σ H Q I h => ?_⟩
  have h' := l_call (X := X) (E := fun _ _ _ => False) xrel0 σ H Q h
  refine wpAny_Call_Name_kw (ld_glob I hg hm ?_ hdb)
  refine PySem.W.callWith_K (h₀ := X.base) I.ok.mod.kin hk (thn (ha.run pos pins s σ H _ I h') fun us s1 ⟨vs, H1, I1, r, q⟩ => ⟨I1.kIn, ?_⟩) he hpl
  refine wpAny_call (codeAny_mono (F X.A X.stack s1 H1 us vs Q _ hr I1.env0 r q) fun r s' hq => ?_)
  cases r with
  | error e => exact hq.elim
  | ok fl =>
    cases fl with
    | ret u => exact I1.after hq
    | next => exact hq.elim
    | brk => exact hq.elim
    | cont => exact hq.elim
end
end DV
/-! Further rules over plain data, II. -/
namespace DV
open PySem PySem.Spec PyProof.Rows L2
section
variable {X : Cx} {H0 : Hp} {e a b elt iter : Expr} {es ifs : List Expr} {pos p px py spos : Pos} {ta tb te : DE} {tt : DT} {tr : DA} {x y : Str} {scope : Scope} {j i : Nat}
/-! - a written number -/
theorem pd_negc {n : Int} {k : Nat} : PD X H0 (.UnaryOp .USub (.Constant (.int n) k p) pos) (dC (.int (-n))) :=
  PE.imp (pe_un un_neg pe_int) fun σ H Q ⟨τ, L, Q', I, q, kk⟩ => ⟨n, rfl, kk _ H _ L .refl I.hp (.int _) q⟩
/-! name = [.. for x in a list ..] -/
theorem pds_setLcL (hc : X.calm = true) (hN : X.N.Nodup) (hi : PD X H0 iter te) (ok : blkC X.N X.env.scope scope [(x, j)] = true)
    (ht : ∀ (s : Shared) (H : Hp) (C : Addr) (cl : List (Str × Addr)) (fp : List Addr), PDTs (Blk X scope s H C cl fp) H0 ifs tt) (he : ∀ (s : Shared) (H : Hp) (C : Addr) (cl : List (Str × Addr)) (fp : List Addr), PD (Blk X scope s H C cl fp) H0 elt ta)
    (hsw : swapsWith (.ListComp elt [⟨.Name x px, iter, ifs, 0⟩] scope pos) (some (.Name y py)) spos.line X.env = pure true)
    (hy : X.N[i]? = some y := by rfl) (hyl : X.env.scope.names.lookup y = some .local := by rfl)
    (hg : ∀ (s : Shared) (H : Hp) (C : Addr) (cl : List (Str × Addr)) (fp : List Addr), PG (Blk X scope s H C cl fp) (.Name x px) (gName j) := by exact fun _ _ _ _ _ => pg_name (by assumption) rfl (by first | exact .inl rfl | exact .inr rfl))
    (hs : ∀ x, foldedSetIterable iter X.env x = pure x := by intro _; rfl) : PDS X H0 (.Assign [.Name y py] (.ListComp elt [⟨.Name x px, iter, ifs, 0⟩] scope pos) spos) (dSet i (dLcL j te tt ta)) :=
  PS.imp (ps_setLc (tt := lT X.K H0 tt) (te := lE X.K H0 ta) hc hN hy hyl hsw (pi_list hi) (blkOk_by ok) hg ht he hs) fun D σ H ⟨τ, L, D', I, q, k1, k2, k3, k4⟩ => l_lcL σ H _ ⟨τ, L, _, I, q, fun v H1 d L1 t1 h1 r1 q1 => k1 _ H1 _ L1 t1 ((I.to t1 h1).set r1 i) q1⟩
/-! [.. for x in name ..] over an empty dict -/
def dLcK0 (i : Nat) : DE := fun τ L Q => ∃ d, τ[i]? = some (some (.ref d)) ∧ L d = some (.dk []) ∧ ∀ E, L E = none → Q (.ref E) (lupd L E (.lst []))
theorem pts_never : PTs X ifs (fun _ _ _ => False) := ⟨fun pins s σ H Q I h => h.elim⟩
theorem pe_never : PE X e (fun _ _ _ => False) := ⟨fun pins s σ H Q I h => h.elim⟩
theorem pd_lcK0 (hc : X.calm = true) (hN : X.N.Nodup) (hi : X.N[i]? = some y := by rfl) (ok : blkC X.N X.env.scope scope [(x, j)] = true := by decide +kernel)
    (hv : Vis X.env.scope y := by first | exact Or.inl rfl | exact Or.inr (Or.inl rfl) | exact Or.inr (Or.inr rfl)) (hd : (y == ("__debug__" : Str)) = false := by decide)
    (hcd : (y == ("__classdict__" : Str)) = false := by decide)
    (hg : ∀ (s : Shared) (H : Hp) (C : Addr) (cl : List (Str × Addr)) (fp : List Addr), PG (Blk X scope s H C cl fp) (.Name x px) (gName j) := by exact fun _ _ _ _ _ => pg_name (by assumption) rfl (by first | exact .inl rfl | exact .inr rfl))
    (hs : ∀ x, foldedSetIterable (.Name y py) X.env x = pure x := by intro _; rfl) : PD X H0 (.ListComp elt [⟨.Name x px, (.Name y py), ifs, 0⟩] scope pos) (dLcK0 i) := by
  have base := pe_lc (elt := elt) (pos := pos) (tt := fun _ _ _ => False) (te := fun _ _ _ => False) hc hN (pi_keys (X := X) (tg := .Name x px) (pe_var hi hv hd hcd (pos := py))) (blkOk_by ok) hg (fun _ _ _ _ _ => pts_never (ifs := ifs)) (fun _ _ _ _ _ => pe_never) hs
  refine ⟨fun pins s σ H Q I ⟨τ, L, Q', J, ⟨d, hτ, hL, q⟩, k⟩ => ?_⟩
  obtain ⟨v, hσ, rv⟩ := J.sl.2 i _ hτ
  cases rv.ref_inv
  obtain ⟨xs, rd, rk⟩ := J.hp _ _ hL
  cases rk
  have fin : ∀ E, H E = none → Q (.ref E) (upd H E (.lst [])) := fun E hE => by
    have tE := tk_new (K := X.K) (o := .lst []) hE
    exact k _ _ _ _ tE (J.hp.putL tE (ds := []) .nil) (.ref E) (q E (J.hp.none hE))
  rcases rd with rd | ⟨o, rd⟩
  · refine (pe_lock base).run pins s σ H Q I ⟨d, _, rd, trivial, fun od => ?_⟩
    refine ⟨_, hσ, d, od, rfl, .inl ⟨[], upd_same, fun E hE => ?_⟩⟩
    have ne : E ≠ d := fun z => by rw [z, upd_same] at hE; cases hE
    rw [upd_ne ne] at hE
    refine ⟨fun i m H' => i = 0 ∧ H' = upd (upd H d (.frz od (.dK []))) E (.lst []), ⟨0, rfl, rfl⟩, ?_⟩
    rintro i m H' ⟨rfl, rfl⟩
    have hd2 : upd (upd H d (.frz od (.dK []))) E (.lst []) d = some (.frz od (.dK [])) := by rw [upd_ne ne.symm, upd_same]
    refine .inl ⟨⟨hd2, Nat.le_refl _⟩, hd2, ?_⟩
    have e2 : upd (upd (upd H d (.frz od (.dK []))) E (.lst [])) d (.dK []) = upd H E (.lst []) := by
      funext b
      by_cases h1 : b = d
      · subst h1; rw [upd_same, upd_ne ne.symm, rd]
      · rw [upd_ne h1]
        by_cases h2 : b = E
        · subst h2; rw [upd_same, upd_same]
        · rw [upd_ne h2, upd_ne h1, upd_ne h2]
    rw [e2]
    exact fin E hE
  · refine base.run pins s σ H Q I ⟨_, hσ, d, o, rfl, .inl ⟨[], rd, fun E hE => ?_⟩⟩
    have ne : E ≠ d := fun z => by rw [z, rd] at hE; cases hE
    refine ⟨fun i m H' => i = 0 ∧ H' = upd H E (.lst []), ⟨0, rfl, rfl⟩, ?_⟩
    rintro i m H' ⟨rfl, rfl⟩
    exact .inl ⟨⟨by rw [upd_ne ne.symm]; exact rd, Nat.le_refl _⟩, fin E hE⟩
end
/-! a def f( *xs) that may raise -/
section
variable {P : Program} {w : World} {K : PySem.W.Frag} {mg : Str → Option Value} {base : Heap} {x qual : Str} {params : Arguments} {body : List Stmt} {scope : Scope} {f : Addr} {fd : FuncData} {N ps : List Str} {k : Nat} {sp : DSp}
theorem fnX_star {pv : Str} (F : FunD K x qual params body scope [] [] f fd) (S : FnScope N [pv] scope)
    (hb : ∀ (kV doc pm : Value) (an : Option Addr) (cdv ct : Value) (rest : List Value), bindArgs (PySem.W.fnOf x qual params body scope .none kV doc pm an cdv ct) ⟨rest, []⟩ = (newTuple rest >>= fun t => pure [(pv, t)]))
    (hbody : ∀ (cdv : Value) (A : Around) (outer : List Env) (s : Shared) (H : Hp) (E : XK) (ds : List D) (L : LHp) (Q : DK) (E' : XD), Room k (A.deeper (envOfC qual scope s.heap.objs.size f cdv)) → XRel K H E' E → sp ds L Q E' →
      ∃ t, PDSs (cxOf (L2.CX P w) P w K mg base N qual scope f cdv A outer s H E) H body t ∧ t { nx := fun _ L' => Q .non L', rt := Q } (dstart N ds) L) : FnR P w K mg base (L2.CX P w) (k + 1) f (spL K (spStar sp)) := by
  obtain ⟨oc, od, dV, kV, doc, pm, an, cdv, ct, osl, rfl, lk, hcd, hd, _⟩ := F.ex
  have ed : dV = .none := by
    rcases hd with ⟨_, e⟩ | ⟨z, _⟩
    · exact e
    · exact absurd rfl z
  subst ed
  refine (StX.fn_star (ps := []) (pv := pv) (sp := spL K sp) lk hcd S StX.cxUp (fun us rest hl => ?_) fun A outer s H vs Q E hr ⟨ds, L, Q', E', r, h, q, k1, k2⟩ => ?_).imp fun vs H Q E ⟨ds, L, Q', E', r, h, ⟨hz, q⟩, k1, k2⟩ => ?_
  · have eu : us = [] := List.eq_nil_of_length_eq_zero hl
    subst eu
    exact hb kV doc pm an cdv ct rest
  · obtain ⟨t, ht, hq⟩ := hbody cdv A outer s H E ds L Q' E' hr k2 q
    exact ⟨_, ht, dstart N ds, L, _, ⟨.refl, rps_start r, h⟩, hq, fun σ' H' τ' L' t' I' n' => k1 _ H' _ L' t' I'.hp .non n', fun v H' d L' t' h' r' q' => k1 v H' d L' t' h' r' q', fun σ' H' τ' L' t' I' n' => n'.elim, fun σ' H' τ' L' t' I' n' => n'.elim⟩
  · refine ⟨[], vs, rfl, rfl, by rw [r.length]; exact hz, fun p hp => ⟨[.tup ds], L, Q', E', .cons (.tup (.inl (.inl upd_same)) (r.mono (tk_new hp))) .nil, h.grow hp, q, fun v H' d L' t' => k1 v H' d L' ((tk_new hp).trans t'), fun c a H' L' nm ns es t' => k2 c a H' L' nm ns es ((tk_new hp).trans t')⟩⟩
end
/-! a statement of two readings -/
theorem pds_or {X : Cx} {H0 : Hp} {st : Stmt} {t1 t2 : DS} (h1 : PDS X H0 st t1) (h2 : PDS X H0 st t2) : PDS X H0 st (fun D τ L => t1 D τ L ∨ t2 D τ L) :=
  ⟨fun pins s σ H D I ⟨τ, L, D', J, q, k⟩ => q.elim (fun q => h1.run pins s σ H D I ⟨τ, L, D', J, q, k⟩) fun q => h2.run pins s σ H D I ⟨τ, L, D', J, q, k⟩⟩
/-! len of a dict -/
section
variable {X : Cx}
theorem call_lenK : CallR X (.builtin "len") (fun xs H Q => ∃ a kvs, xs = [V.ref a] ∧ Rd H a (.dK kvs) ∧ Q (.int kvs.length) H) := by
  intro pins s σ H xs us Q I r h
  obtain ⟨a, kvs, rfl, ha, q⟩ := h
  obtain ⟨u, rfl, ru⟩ := vals1 r
  cases ru
  exact d_len I ha fun t s' I' => ⟨.int kvs.length, H, I', ⟨t, rfl⟩, q⟩
theorem RpK.length {K : PySem.W.Frag} {H : Hp} : ∀ {vs : List (Key × V)} {ds : List (Key × D)}, RpK K H vs ds → vs.length = ds.length
  | _, _, .nil => rfl
  | _, _, .cons _ t => by rw [List.length_cons, List.length_cons, RpK.length t]
def rLenKD : DRC
  | [.ref a], L, Q => ∃ kvs, L a = some (.dk kvs) ∧ Q (.int kvs.length) L
  | _, _, _ => False
theorem sim_lenK : SimC X.K (fun xs H Q => ∃ a kvs, xs = [V.ref a] ∧ Rd H a (.dK kvs) ∧ Q (.int kvs.length) H) rLenKD := by
  intro xs H ds L Q' Q r hL h k
  unfold rLenKD at h
  split at h
  · obtain ⟨v, rfl, rv⟩ := r.one
    obtain ⟨kvs, hd, q⟩ := h
    cases rv.ref_inv
    obtain ⟨xs, s, r2⟩ := hL _ _ hd
    exact ⟨_, _, rfl, s, k _ H _ L .refl hL (.int _) (by rw [r2.length]; exact q)⟩
  · exact h.elim
end
/-! names in a clause's test; room -/
theorem nm_cls {X : Cx} {x : Str} {c : Value} (h : X.mg x = some c) (hg : Gl X x := by rfl) (hd : (x == ("__debug__" : Str)) = false := by decide) : Names X x c := ⟨hg, hd, .inl h⟩
theorem _root_.L2H.RoomH.units {k : Nat} {A : Around} (r : L2H.RoomH k A) : A.units + 64 < cLine := by have := r.un; omega
theorem room_mark {k : Nat} {A : Around} (r : Room k A) {h : Option Value} : L2H.RoomH k (A.mark h) := ⟨r.dp, r.un⟩
end DV
namespace FR
open PySem PySem.Spec PyProof.Rows L2 DV
/-- a fraction, in lowest terms, as a tuple -/
def fr (q : Rat) : D := .tup [.int q.num, .int (q.den : Int)]
/-- a fraction as it may be passed: top and bottom below 2^B -/
inductive Raw (B : Nat) : D → Rat → Prop
  | int (n : Int) (hB : 0 < B) (h0 : 0 ≤ n) (h1 : n.natAbs < 2 ^ B) : Raw B (.int n) (n : Rat)
  | pair (t b : Int) (h0 : 0 ≤ t) (h1 : 0 < b) (h2 : t.natAbs < 2 ^ B) (h3 : b.natAbs < 2 ^ B) : Raw B (.tup [.int t, .int b]) ((t : Rat) / (b : Rat))
theorem ne0 {b : Int} (h : 0 < b) : (b : Rat) ≠ 0 := fun e => by
  have := Rat.intCast_eq_zero_iff.mp e
  omega
theorem low_num (t b : Int) (hb : 0 < b) : t / ((Nat.gcd t.natAbs b.natAbs : Nat) : Int) = ((t : Rat) / (b : Rat)).num := by
  rw [← Rat.divInt_eq_div, Rat.num_divInt, Int.sign_eq_one_of_pos hb, Int.one_mul]
  show _ = t / ((Nat.gcd b.natAbs t.natAbs : Nat) : Int)
  rw [Nat.gcd_comm]
theorem low_den (t b : Int) (hb : 0 < b) : b / ((Nat.gcd t.natAbs b.natAbs : Nat) : Int) = ((((t : Rat) / (b : Rat)).den : Nat) : Int) := by
  rw [← Rat.divInt_eq_div, Rat.den_divInt, if_neg (by omega)]
  show _ = ((b.natAbs / Nat.gcd b.natAbs t.natAbs : Nat) : Int)
  rw [Nat.gcd_comm, Int.natCast_ediv, Int.natAbs_of_nonneg (by omega)]
theorem gcd_pos (t b : Int) (hb : 0 < b) : 0 < ((Nat.gcd t.natAbs b.natAbs : Nat) : Int) := by
  have : 0 < Nat.gcd t.natAbs b.natAbs := Nat.gcd_pos_of_pos_right _ (by omega)
  omega
theorem gcd_le (t b : Int) (hb : 0 < b) : (Nat.gcd t.natAbs b.natAbs) ≤ b.natAbs := Nat.le_of_dvd (by omega) (Nat.gcd_dvd_right _ _)
theorem den_pos (q : Rat) : 0 < (q.den : Int) := by have := q.den_pos; omega
theorem div_self (q : Rat) : (q.num : Rat) / ((q.den : Nat) : Int) = q := by
  rw [← Rat.divInt_eq_div]
  exact Rat.num_divInt_den q
/-- below 2^B, not below 0 -/
structure Bd (B : Nat) (q : Rat) : Prop where
  nn : 0 ≤ q
  top : q.num.natAbs < 2 ^ B
  bot : q.den < 2 ^ B
theorem Bd.num0 {B : Nat} {q : Rat} (h : Bd B q) : 0 ≤ q.num := Rat.num_nonneg.mpr h.nn
theorem Bd.mono {B C : Nat} {q : Rat} (h : Bd B q) (le : B ≤ C) : Bd C q := ⟨h.nn, Nat.lt_of_lt_of_le h.top (Nat.pow_le_pow_right (by decide) le), Nat.lt_of_lt_of_le h.bot (Nat.pow_le_pow_right (by decide) le)⟩
theorem Bd.raw {B : Nat} {q : Rat} (h : Bd B q) : Raw B (fr q) q := by
  have := Raw.pair (B := B) q.num q.den h.num0 (den_pos q) h.top (by simpa using h.bot)
  rw [div_self] at this
  exact this
theorem bd_of (B : Nat) (t b : Int) (h0 : 0 ≤ t) (h1 : 0 < b) (h2 : t.natAbs < 2 ^ B) (h3 : b.natAbs < 2 ^ B) : Bd B ((t : Rat) / (b : Rat)) := by
  have hg := gcd_pos t b h1
  refine ⟨?_, ?_, ?_⟩
  · rw [← Rat.divInt_eq_div]
    exact Rat.divInt_nonneg h0 (by omega)
  · rw [← low_num t b h1]
    refine Nat.lt_of_le_of_lt ?_ h2
    exact Int.natAbs_ediv_le_natAbs _ _
  · have e := low_den t b h1
    have l := Int.natAbs_ediv_le_natAbs b ((Nat.gcd t.natAbs b.natAbs : Nat) : Int)
    rw [e] at l
    refine Nat.lt_of_le_of_lt ?_ h3
    simpa using l
theorem Raw.bd {B : Nat} {d : D} {q : Rat} (h : Raw B d q) : Bd B q := by
  cases h with
  | int n hB h0 h1 => exact ⟨Rat.intCast_nonneg.mpr h0, h1, Nat.one_lt_two_pow (by omega)⟩
  | pair t b h0 h1 h2 h3 => exact bd_of B t b h0 h1 h2 h3
theorem Raw.mono {B C : Nat} {d : D} {q : Rat} (h : Raw B d q) (le : B ≤ C) : Raw C d q := by
  have p : 2 ^ B ≤ 2 ^ C := Nat.pow_le_pow_right (by decide) le
  cases h with
  | int n hB h0 h1 => exact .int n (Nat.lt_of_lt_of_le hB le) h0 (Nat.lt_of_lt_of_le h1 p)
  | pair t b h0 h1 h2 h3 => exact .pair t b h0 h1 (Nat.lt_of_lt_of_le h2 p) (Nat.lt_of_lt_of_le h3 p)
theorem natAbs_den {q : Rat} : ((q.den : Nat) : Int).natAbs = q.den := by simp
theorem Bd.botI {B : Nat} {q : Rat} (h : Bd B q) : ((q.den : Nat) : Int).natAbs < 2 ^ B := by rw [natAbs_den]; exact h.bot
theorem t1 (p q : Rat) : ((p.num * (q.den : Int) + q.num * (p.den : Int) : Int) : Rat) / (((p.den : Int) * (q.den : Int) : Int) : Rat) = p + q := by
  have hp := ne0 (den_pos p)
  have hq := ne0 (den_pos q)
  have ep := div_self p
  have eq := div_self q
  rw [Rat.intCast_add, Rat.intCast_mul, Rat.intCast_mul, Rat.intCast_mul]
  conv => rhs; rw [← ep, ← eq]
  grind
inductive RawL (B : Nat) : List D → List Rat → Prop
  | nil : RawL B [] []
  | cons {d : D} {q : Rat} {ds : List D} {qs : List Rat} (h : Raw B d q) (t : RawL B ds qs) : RawL B (d :: ds) (q :: qs)
theorem RawL.length {B : Nat} : ∀ {ds : List D} {qs : List Rat}, RawL B ds qs → ds.length = qs.length
  | _, _, .nil => rfl
  | _, _, .cons _ t => by rw [List.length_cons, List.length_cons, RawL.length t]
theorem RawL.get {B : Nat} : ∀ {ds : List D} {qs : List Rat} {i : Nat} {d : D}, RawL B ds qs → ds[i]? = some d → ∃ q, qs[i]? = some q ∧ Raw B d q
  | _, _, _, _, .nil, e => by simp at e
  | _, _, 0, _, .cons r _, e => by simp at e; subst e; exact ⟨_, rfl, r⟩
  | _, _, i + 1, _, .cons _ t, e => by
    obtain ⟨u, h1, h2⟩ := RawL.get (i := i) t (by simpa using e)
    exact ⟨u, by simpa using h1, h2⟩
theorem RawL.snoc {B : Nat} {d : D} {q : Rat} (h : Raw B d q) : ∀ {ds : List D} {qs : List Rat}, RawL B ds qs → RawL B (ds ++ [d]) (qs ++ [q])
  | _, _, .nil => .cons h .nil
  | _, _, .cons r t => .cons r (RawL.snoc h t)
def rsum : List Rat → Rat
  | [] => 0
  | q :: qs => q + rsum qs
def rprod : List Rat → Rat
  | [] => 1
  | q :: qs => q * rprod qs
theorem rsum_snoc (q : Rat) : ∀ qs : List Rat, rsum (qs ++ [q]) = rsum qs + q
  | [] => by show q + 0 = 0 + q; rw [Rat.add_zero, Rat.zero_add]
  | p :: qs => by show p + rsum (qs ++ [q]) = p + rsum qs + q; rw [rsum_snoc q qs, Rat.add_assoc]
theorem rprod_snoc (q : Rat) : ∀ qs : List Rat, rprod (qs ++ [q]) = rprod qs * q
  | [] => by show q * 1 = 1 * q; rw [Rat.mul_one, Rat.one_mul]
  | p :: qs => by show p * rprod (qs ++ [q]) = p * rprod qs * q; rw [rprod_snoc q qs, Rat.mul_assoc]
theorem take_snoc {α : Type} {l : List α} {i : Nat} {x : α} (h : l[i]? = some x) : l.take (i + 1) = l.take i ++ [x] := by
  rw [List.take_add_one, h]; rfl
def rabs (x : Rat) : Rat := if x < 0 then -x else x
theorem kit_ii : kitB "int" "int" = some true := by decide +kernel
theorem kit_bi : kitB "bool" "int" = some true := by decide +kernel
theorem kit_ib : kitB "int" "bool" = some false := by decide +kernel
theorem kit_ti : kitB "tuple" "int" = some false := by decide +kernel
end FR
namespace K01
open PySem PySem.Spec PyProof.Rows L2 DV FR
/-! ### the promises -/
def Gr (L L' : LHp) : Prop := ∀ a o, L a = some o → L' a = some o
theorem Gr.refl {L : LHp} : Gr L L := fun _ _ h => h
theorem Gr.trans {L L1 L2 : LHp} (a : Gr L L1) (b : Gr L1 L2) : Gr L L2 := fun x o h => b x o (a x o h)
theorem Gr.new {L : LHp} {p : Addr} {o : LO} (h : L p = none) : Gr L (lupd L p o) := fun a u e => by rw [lupd_ne (fun z => by rw [z, h] at e; cases e)]; exact e
theorem at_gen {α : Type} {xs : List α} {z : Int} {j : Nat} {v : α} (e : z = (j : Int)) (h : xs[j]? = some v) : atI xs z = some v := by rw [e]; exact atI_nat h
def isI : D → Bool
  | .int _ => true
  | _ => false
/-- a value whose type, and whose items' types, are known -/
def Kn (L : LHp) (d : D) : Prop := (∃ t, tyD L d t) ∧ ∀ ds, d = .tup ds → ∀ e ∈ ds, ∃ t, tyD L e t
def isF : D → Bool
  | .int n => decide (0 ≤ n)
  | .tup [.int t, .int b] => decide (0 ≤ t) && decide (1 ≤ b)
  | _ => false
def isC : D → Bool
  | .int n => decide (0 ≤ n)
  | _ => false
def bad (E : XD) (c : Str) (v : D) (L : LHp) : Prop := E c ["code", "value"] [.str c, v] L
def First (vs : List D) (v : D) : Prop := vs.find? (fun v => !isF v) = some v
def sp_is_number : DSp := fun ds L Q _ => ∃ (d : D) (t : String), ds = [d] ∧ tyD L d t ∧ Q (.bl (isI d)) L
def sp_is_fraction : DSp := fun ds L Q _ => ∃ (d : D), ds = [d] ∧ Kn L d ∧ Q (.bl (isF d)) L
def sp__check : DSp := fun ds L Q E => ∃ (vs : List D), ds = [.tup vs] ∧ (∀ v ∈ vs, Kn L v) ∧ (((∀ v ∈ vs, isF v = true) ∧ Q .non L) ∨ ∃ v, First vs v ∧ bad E "BadFraction" v L)
def sp__reduced : DSp := fun ds L Q _ => ∃ (d : D) (q : Rat), ds = [d] ∧ Raw 8000 d q ∧ Q (fr q) L
def sp_lowest : DSp := fun ds L _ E => ∃ d, ds = [d] ∧ Kn L d ∧ isF d = false ∧ bad E "BadFraction" d L
def sp_fraction_text : DSp := sp_lowest
def sp_apart : DSp := fun ds L _ E => ∃ a b v, ds = [a, b] ∧ Kn L a ∧ Kn L b ∧ First [a, b] v ∧ bad E "BadFraction" v L
def sp_is_less : DSp := sp_apart
def spi_plus : DSp := fun ds L _ E => ∃ vs v, ds = [.tup vs] ∧ (∀ v ∈ vs, Kn L v) ∧ First vs v ∧ bad E "BadFraction" v L
def sp_plus : DSp := spStar spi_plus
def spi_times : DSp := fun ds L Q E => spi_plus ds L Q E ∨ ∃ (a b : D) (B C : Nat) (p q : Rat), ds = [.tup [a, b]] ∧ Raw B a p ∧ Raw C b q ∧ B + C + 1 ≤ 8000 ∧ Q (fr (p * q)) L
def sp_times : DSp := spStar spi_times
def sp_quotient : DSp := fun ds L Q E => sp_apart ds L Q E ∨ (∃ (a b : D) (p : Rat), ds = [a, b] ∧ Raw 8000 a p ∧ Raw 8000 b 0 ∧ bad E "BadFraction" b L) ∨
  ∃ (a b : D) (B C : Nat) (p q : Rat), ds = [a, b] ∧ Raw B a p ∧ Raw C b q ∧ B + C + 1 ≤ 8000 ∧ q ≠ 0 ∧ Q (fr (p / q)) L
def sp__power : DSp := fun ds L Q _ => ∃ (b : Int) (n B : Nat), ds = [.int b, .int n] ∧ 0 ≤ b ∧ b.natAbs < 2 ^ B ∧ n ≤ 100 ∧ B * n ≤ 8000 ∧ Q (.int (b ^ n)) L
def sp_raised : DSp := fun ds L Q E => ∃ a m, ds = [a, m] ∧ Kn L a ∧ ((isF a = false ∧ bad E "BadFraction" a L) ∨ (isF a = true ∧ (∃ t, tyD L m t) ∧ isC m = false ∧ bad E "BadNumber" m L) ∨
  ∃ (B n : Nat) (q : Rat), Raw B a q ∧ m = .int n ∧ n ≤ 100 ∧ B ≤ 8000 ∧ B * n ≤ 8000 ∧ Q (fr (q ^ n)) L)
def lcmL (ns : List Nat) : Nat := ns.foldl Nat.lcm 1
def nI (ns : List Nat) : List D := ns.map fun (n : Nat) => D.int (n : Int)
def LcmOk (ns : List Nat) (B : Nat) : Prop := (∀ n ∈ ns, 0 < n ∧ n < 2 ^ B) ∧ B * ns.length + 1 ≤ 7000 ∧ B ≤ 1000
def sp_least_common : DSp := fun ds L Q _ => ∃ (ns : List Nat) (B : Nat), LcmOk ns B ∧ (ds = [.tup (nI ns)] ∨ ∃ t, ds = [.ref t] ∧ LRd L t (nI ns)) ∧ Q (.int (lcmL ns)) L
def sp__law_common : DSp := fun ds L Q _ => ∃ (ns : List Nat) (B : Nat) (t : Addr), LcmOk ns B ∧ ds = [.ref t] ∧ LRd L t (nI ns) ∧ Q (.int (lcmL ns)) L
/-- a number as it is written -/
def numS (n : Int) : Str := (toString n : String)
def slash : Str := PySem.Str.ofString "/"
def cnt (z : Str) (zero : Bool) : Bool :=
  if z = (PySem.Str.ofString "0") then zero else if z = (PySem.Str.ofString "") ∨ 60 < z.length ∨ z.cps[0]? = some 48 then false else z.cps.toList.all fun c => decide (c ∈ (PySem.Str.ofString "0123456789").cps.toList)
def sp__is_count : DSp := fun ds L Q _ => ∃ (z : Str) (zero : Bool), ds = [.str z, .bl zero] ∧ z.length ≤ 1000 ∧ ∀ L', Gr L L' → Q (.bl (cnt z zero)) L'
/-- z writes no fraction -/
def NoFr (z : Str) : Prop := z.length ≤ 1000 ∧ ((Txt.find z slash < 0 ∧ cnt z true = false) ∨ (0 ≤ Txt.find z slash ∧ (cnt (cutS z none (some (Txt.find z slash))) true && cnt (cutS z (some (Txt.find z slash + 1)) none) false) = false))
def sp_fraction_or_none : DSp := fun ds L Q _ => ∃ (z : Str), ds = [.str z] ∧ ((NoFr z ∧ ∀ L', Gr L L' → Q .non L') ∨ ∃ n : Nat, z = numS n ∧ n < 10 ^ 60 ∧ ∀ L', Gr L L' → Q (fr ((n : Int) : Rat)) L')
def sp_read_fraction : DSp := fun ds L Q E => ∃ v, ds = [v] ∧ ((∃ t, tyD L v t ∧ t ≠ "str" ∧ bad E "BadFraction" v L) ∨ (∃ z, v = .str z ∧ NoFr z ∧ ∀ L', Gr L L' → bad E "BadFraction" v L') ∨
  ∃ n : Nat, v = .str (numS n) ∧ n < 10 ^ 60 ∧ ∀ L', Gr L L' → Q (fr ((n : Int) : Rat)) L')
/-! the law's own -/
structure BagOk (L : LHp) (b c : Addr) : Prop where
  ex : ∃ (cells : List Int) (p : Nat) (r k m n : Int), L b = some (.lst [.ref c, .int p, .int r, .int k, .int m, .int n]) ∧ L c = some (.lst (cells.map .int)) ∧ 0 ≤ r ∧ (0 ≤ m ∧ m < 2147483399) ∧ 0 ≤ n ∧ cells.length ≤ 63
structure Dr (b c : Addr) (L L' : LHp) : Prop where
  ok : BagOk L' b c
  kp : ∀ a o, a ≠ b → L a = some o → L' a = some o
def sp__law_bag : DSp := fun ds L Q _ => ∃ (ns : List Int), ds = [.fls (ns.map .int)] ∧ ns.length ≤ 63 ∧ ∀ (b c : Addr) (L' : LHp), L b = none → BagOk L' b c → Gr L L' → Q (.ref b) L'
def sp__law_draw : DSp := fun ds L Q _ => ∃ (b c : Addr) (many : Int), ds = [.ref b, .int many] ∧ BagOk L b c ∧ (0 < many ∧ many.natAbs < 2 ^ 8000) ∧ ∀ d (L' : LHp), (0 ≤ d ∧ d < many) → Dr b c L L' → Q (.int d) L'
def sp__law_of : DSp := fun ds L Q _ => ∃ (b c : Addr) (t : Addr) (xs : List D), ds = [.ref b, .ref t] ∧ BagOk L b c ∧ t ≠ b ∧ LRd L t xs ∧ (0 < xs.length ∧ xs.length ≤ 1000) ∧ ∀ d (L' : LHp), d ∈ xs → Dr b c L L' → Q d L'
def sp__law_mixed : DSp := fun ds L Q _ => ∃ (b c : Addr) (t : Addr) (xs : List D), ds = [.ref b, .ref t] ∧ BagOk L b c ∧ t ≠ b ∧ LRd L t xs ∧ xs.length ≤ 1000 ∧ ∀ (p : Addr) (ys : List D) (L' : LHp), L p = none → ys.Perm xs → L' p = some (.lst ys) → Dr b c L L' → Q (.ref p) L'
/-- values that are told -/
inductive Sc : D → Prop
  | int (i : Int) : Sc (.int i)
  | bl (b : Bool) : Sc (.bl b)
  | str (z : Str) : Sc (.str z)
  | non : Sc .non
inductive Told (L : LHp) (b : Addr) : Nat → D → Prop
  | sc {n : Nat} {d : D} (h : Sc d) : Told L b n d
  | tup {n : Nat} {ds : List D} (hl : ds.length ≤ 1000) (h : ∀ d ∈ ds, Told L b n d) : Told L b (n + 1) (.tup ds)
  | lst {n : Nat} {a : Addr} {ds : List D} (hb : a ≠ b) (e : L a = some (.lst ds)) (hl : ds.length ≤ 1000) (h : ∀ d ∈ ds, Told L b n d) : Told L b (n + 1) (.ref a)
  | dct {n : Nat} {a : Addr} (hb : a ≠ b) (e : L a = some (.dk [])) : Told L b (n + 1) (.ref a)
def spl (n : Nat) : DSp := fun ds L Q _ => ∃ (d : D) (b : Addr), ds = [d, d] ∧ Told L b n d ∧ ∀ L', Gr L L' → Q (.bl true) L'
def sp__law_like : DSp := spl 4
def spw__law_like : DSp := fun ds L Q _ => ∃ (z : Str), ds = [.str z, .str z] ∧ Q (.bl true) L
def sp__law_gcd : DSp := fun ds L Q _ => ∃ (a : Int) (b : Int), ds = [.int a, .int b] ∧ 0 ≤ a ∧ 0 ≤ b ∧ Q (.int ((Nat.gcd a.natAbs b.natAbs : Nat) : Int)) L
def sp__law_pair : DSp := fun ds L Q _ => ∃ (t : Int) (b : Int), ds = [.int t, .int b] ∧ 0 ≤ t ∧ 0 < b ∧ b.natAbs < 2 ^ 8000 ∧ Q (fr ((t : Rat) / (b : Rat))) L
def sp__law_power : DSp := fun ds L Q _ => ∃ (q : Rat) (n B : Nat), ds = [fr q, .int n] ∧ n ≤ 100 ∧ Bd B q ∧ B * n ≤ 7999 ∧ Q (fr (q ^ n)) L
def sp__law_dress : DSp := fun ds L Q _ => ∃ (b c : Addr) (q : Rat) (B : Nat), ds = [.ref b, fr q] ∧ BagOk L b c ∧ Bd B q ∧ B + 3 ≤ 900000 ∧ ∀ d L', Dr b c L L' → Raw (B + 3) d q → Q d L'
def hit (c : Str) : Prop := c = "BadFraction" ∨ c = "BadNumber"
def okE (c : Str) : Prop := hit c
instance (c : Str) : Decidable (hit c) := inferInstanceAs (Decidable (_ ∨ _))
def clsL : List Str := ["ModelError", "Missing", "Ended", "NoSuch", "BadName", "BadFraction", "BadNumber", "BadGround", "BadBook", "BadRecipe", "BadLook", "BadTerm", "BadQuestion", "BadReading", "BadScript", "NotBare", "NotOne", "NotScorer", "NoChance", "Unlike", "TooFew", "TooMany"]
def ibT (nm c : Str) : Option Bool := if hit nm ∧ c ∈ clsL then some (decide (c = "ModelError" ∨ c = nm)) else none
def spw__law_called : DSp := fun ds L Q _ => ∃ (c : Str) (ns : List Str) (es : List D), ds = [.exc c ns es] ∧ hit c ∧ ∀ p L', L p = none → Gr L L' → L' p = some (.lst [.str "ModelError", .str c]) → Q (.ref p) L'
def spw__law_told : DSp := fun ds L Q _ => ∃ (c : Str) (v : D), ds = [.exc c ["code", "value"] [.str c, v]] ∧ hit c ∧ ∀ L', Gr L L' → Q (.tup [.str c, v]) L'
def sp__law_right : DSp := fun ds L Q _ => ∃ (b c : Addr), ds = [.ref b] ∧ BagOk L b c ∧ ∀ q L', Dr b c L L' → Bd 100 q → Q (fr q) L'
def Wrong (L : LHp) (b : Addr) (v : D) : Prop := Kn L v ∧ isF v = false ∧ Told L b 3 v
def sp__law_wrong : DSp := fun ds L Q _ => ∃ (b c : Addr), ds = [.ref b] ∧ BagOk L b c ∧ ∀ v L', Dr b c L L' → Wrong L' b v → Q v L'
/-- a call that is refused -/
inductive Ref (L : LHp) : Int → List D → Str → D → Prop
  | one {w : Int} {v : D} (h : w = 0 ∨ w = 1) (k : Kn L v) (f : isF v = false) : Ref L w [v] "BadFraction" v
  | two {w : Int} {a b v : D} (h : w = 3 ∨ w = 4 ∨ w = 5) (ka : Kn L a) (kb : Kn L b) (f : First [a, b] v) : Ref L w [a, b] "BadFraction" v
  | zero {a b : D} {p : Rat} (ra : Raw 8000 a p) (rb : Raw 8000 b 0) : Ref L 3 [a, b] "BadFraction" b
  | power {a m : D} (ka : Kn L a) (f : isF a = false) : Ref L 2 [a, m] "BadFraction" a
  | number {a m : D} {t : String} (ka : Kn L a) (f : isF a = true) (k : tyD L m t) (c : isC m = false) : Ref L 2 [a, m] "BadNumber" m
  | many {w : Int} {vs : List D} {v : D} (h : w = 7 ∨ w = 8) (l : 2 ≤ vs.length) (l2 : vs.length ≤ 4) (k : ∀ v ∈ vs, Kn L v) (f : First vs v) : Ref L w vs "BadFraction" v
  | value {v : D} {t : String} (k : tyD L v t) (n : t ≠ "str") : Ref L 6 [v] "BadFraction" v
  | text {z : Str} (h : NoFr z) : Ref L 6 [.str z] "BadFraction" (.str z)
def sp__law_call : DSp := fun ds L Q E => ∃ (w : Int) (t : Addr) (xs : List D), ds = [.int w, .ref t] ∧ LRd L t xs ∧ ((∃ c v, Ref L w xs c v ∧ ∀ L', Gr L L' → bad E c v L') ∨
  ∃ n : Nat, w = 6 ∧ xs = [.str (numS n)] ∧ n < 10 ^ 60 ∧ ∀ L', Gr L L' → Q (fr ((n : Int) : Rat)) L')
def sp__law_ask : DSp := fun ds L Q _ => ∃ (w : Int) (t : Addr) (xs : List D), ds = [.int w, .ref t] ∧ LRd L t xs ∧ ((∃ c v, Ref L w xs c v ∧ ∀ L', Gr L L' → Q (.tup [.str c, v]) L') ∨
  ∃ n : Nat, w = 6 ∧ xs = [.str (numS n)] ∧ n < 10 ^ 60 ∧ ∀ L', Gr L L' → Q (.tup [.str "told", fr ((n : Int) : Rat)]) L')
def sp__law_refusals : DSp := fun ds L Q _ => ∃ (b c : Addr) (w : Int), ds = [.ref b, .int w] ∧ w ∈ [0, 1, 2, 3, 4, 5, 7, 8] ∧ BagOk L b c ∧ ∀ L', Dr b c L L' → Q (.bl true) L'
def sp__law_texts : DSp := fun ds L Q _ => ∃ (b c : Addr), ds = [.ref b] ∧ BagOk L b c ∧ ∀ L', Dr b c L L' → Q (.bl true) L'
def sp_law : DSp := fun ds L Q _ => ∃ (ns : List Int), ds = [.fls (ns.map .int)] ∧ ns.length ≤ 63 ∧ ∀ L', Q (.bl true) L'
def d_is_number : DS :=
    (dRet (dAndV (dCB rIsiD (dCons (dVar 0) (dCons (dC (.ty "int")) dNil))) (dNotV (dCB rIsiD (dCons (dVar 0) (dCons (dC (.ty "bool")) dNil))))))
def d_is_fraction : DS :=
    (dSeq (dIfS (dB (dCall sp_is_number ED0 (dCons (dVar 0) dNil)))
      (dRet (dOp rGeD (dVar 0) (dC (.int 0))))
      dNext)
      (dSeq (dIfS (dOr (dNot (dB (dCB rIsiD (dCons (dVar 0) (dCons (dC (.ty "tuple")) dNil))))) (dB (dOp (rEqv true) (dCB rLenD (dCons (dVar 0) dNil)) (dC (.int 2)))))
      (dRet (dC (.bl false)))
      dNext)
      (dSeq (dAsg (dVar 0) (dgTup 2 (dgCons (dgName 1) (dgCons (dgName 2) dgNil))))
      (dRet (dAndV (dCall sp_is_number ED0 (dCons (dVar 1) dNil)) (dAndV (dCall sp_is_number ED0 (dCons (dVar 2) dNil)) (dAndV (dOp rGeD (dVar 1) (dC (.int 0))) (dOp rGeD (dVar 2) (dC (.int 1))))))))))
def d__check (E' : XD) : DS :=
    (dForT (dVar 0) (dgName 1) (dIfS (dNot (dB (dCall sp_is_fraction ED0 (dCons (dVar 1) dNil))))
      (dRaise (wxd E') "BadFraction" ["value"] (dCons (dVar 1) dNil))
      dNext))
def d__reduced : DS :=
    (dSeq (dIfS (dNot (dB (dCB rIsiD (dCons (dVar 0) (dCons (dC (.ty "tuple")) dNil)))))
      (dRet (dTup (dCons (dVar 0) (dCons (dC (.int 1)) dNil))))
      dNext)
      (dSeq (dAsg (dVar 0) (dgTup 2 (dgCons (dgName 1) (dgCons (dgName 2) dgNil))))
      (dSeq (dSet 3 (dCB rGcdD (dCons (dVar 1) (dCons (dVar 2) dNil))))
      (dRet (dTup (dCons (dOp rDivD (dVar 1) (dVar 3)) (dCons (dOp rDivD (dVar 2) (dVar 3)) dNil)))))))
def d__is_count : DS :=
    (dSeq (dIfS (dB (dOp (rEqv false) (dVar 0) (dC (.str (PySem.Str.ofString "0")))))
      (dRet (dVar 1))
      dNext)
      (dSeq (dIfS (dOr (dB (dOp (rEqv false) (dVar 0) (dC (.str (PySem.Str.ofString ""))))) (dOr (dB (dOp rGtD (dCB rLenD (dCons (dVar 0) dNil)) (dC (.int 60)))) (dB (dOp (rEqv false) (dOp rIxD (dVar 0) (dC (.int 0))) (dC (.str (PySem.Str.ofString "0")))))))
      (dRet (dC (.bl false)))
      dNext)
      (dRet (dCB rAllD (dCons (dLcS 2 (dVar 0) dTYes (dOp rInSD (dVar 2) (dC (.str (PySem.Str.ofString "0123456789"))))) dNil)))))
def d_fraction_or_none : DS :=
    (dSeq (dSet 1 (dBM "str" rFindD (dVar 0) (dCons (dC (.str (PySem.Str.ofString "/"))) dNil)))
      (dSeq (dIfS (dB (dOp rLtD (dVar 1) (dC (.int 0))))
      (dRet (dIf (dB (dCall sp__is_count ED0 (dCons (dVar 0) (dCons (dC (.bl true)) dNil)))) (dTup (dCons (dCB rIntD (dCons (dVar 0) dNil)) (dCons (dC (.int 1)) dNil))) (dC .non)))
      dNext)
      (dSeq (dSet 2 (dSl (dVar 0) dNoPart (dPart (dVar 1))))
      (dSeq (dSet 3 (dSl (dVar 0) (dPart (dOp rAddD (dVar 1) (dC (.int 1)))) dNoPart))
      (dSeq (dIfS (dOr (dNot (dB (dCall sp__is_count ED0 (dCons (dVar 2) (dCons (dC (.bl true)) dNil))))) (dNot (dB (dCall sp__is_count ED0 (dCons (dVar 3) (dCons (dC (.bl false)) dNil))))))
      (dRet (dC .non))
      dNext)
      (dRet (dCall sp__reduced ED0 (dCons (dTup (dCons (dCB rIntD (dCons (dVar 2) dNil)) (dCons (dCB rIntD (dCons (dVar 3) dNil)) dNil))) dNil))))))))
def d_read_fraction (E' : XD) : DS :=
    (dSeq (dIfS (dNot (dB (dCB rIsiD (dCons (dVar 0) (dCons (dC (.ty "str")) dNil)))))
      (dRaise (wxd E') "BadFraction" ["value"] (dCons (dVar 0) dNil))
      dNext)
      (dSeq (dSet 1 (dCall sp_fraction_or_none ED0 (dCons (dVar 0) dNil)))
      (dSeq (dIfS (dB (dOp (rIsND false) (dVar 1) (dC .non)))
      (dRaise (wxd E') "BadFraction" ["value"] (dCons (dVar 0) dNil))
      dNext)
      (dRet (dVar 1)))))
def d_lowest (E' : XD) : DS :=
    (dSeq (dDrop (dCallX sp__check (wxd E') (dCons (dTup (dCons (dVar 0) dNil)) dNil)))
      (dRet (dCall sp__reduced ED0 (dCons (dVar 0) dNil))))
def d_fraction_text (E' : XD) : DS :=
    (dSeq (dDrop (dCallX sp__check (wxd E') (dCons (dTup (dCons (dVar 0) dNil)) dNil)))
      (dSeq (dAsg (dCall sp__reduced ED0 (dCons (dVar 0) dNil)) (dgTup 2 (dgCons (dgName 1) (dgCons (dgName 2) dgNil))))
      (dSeq (dSet 3 (dCB rMaxD (dCons (dBits (dVar 1)) (dCons (dBits (dVar 2)) dNil))))
      (dSeq dNever
      (dRet (dIf (dB (dOp (rEqv false) (dVar 2) (dC (.int 1)))) (dCB rStrD (dCons (dVar 1) dNil)) (fun τ L Q => dJs [(dFmt (dVar 1)), (dC (.str (PySem.Str.ofString "/"))), (dFmt (dVar 2))] Str.empty τ L fun out L1 => Q (.str out) L1)))))))
def d_plus (E' : XD) : DS :=
    (dSeq (dDrop (dCallX sp__check (wxd E') (dCons (dVar 0) dNil)))
      (dSeq (dSet 1 (dC (.int 0)))
      (dSeq (dSet 2 (dC (.int 1)))
      (dSeq (dForT (dVar 0) (dgName 3) (dSeq (dAsg (dCall sp__reduced ED0 (dCons (dVar 3) dNil)) (dgTup 2 (dgCons (dgName 4) (dgCons (dgName 5) dgNil))))
      (dSeq (dSet 6 (dCB rGcdD (dCons (dVar 2) (dCons (dVar 5) dNil))))
      (dSeq (dSet 1 (dOp rAddD (dOp rMulD (dVar 1) (dOp rDivD (dVar 5) (dVar 6))) (dOp rMulD (dVar 4) (dOp rDivD (dVar 2) (dVar 6)))))
      (dSet 2 (dOp rMulD (dOp rDivD (dVar 2) (dVar 6)) (dVar 5)))))))
      (dRet (dCall sp__reduced ED0 (dCons (dTup (dCons (dVar 1) (dCons (dVar 2) dNil))) dNil)))))))
def d_times (E' : XD) : DS :=
    (dSeq (dDrop (dCallX sp__check (wxd E') (dCons (dVar 0) dNil)))
      (dSeq (dSet 1 (dTup (dCons (dC (.int 1)) (dCons (dC (.int 1)) dNil))))
      (dSeq (dForT (dVar 0) (dgName 2) (dSeq (dAsg (dCall sp__reduced ED0 (dCons (dVar 2) dNil)) (dgTup 2 (dgCons (dgName 3) (dgCons (dgName 4) dgNil))))
      (dSet 1 (dCall sp__reduced ED0 (dCons (dTup (dCons (dOp rMulD (dOp rIxD (dVar 1) (dC (.int 0))) (dVar 3)) (dCons (dOp rMulD (dOp rIxD (dVar 1) (dC (.int 1))) (dVar 4)) dNil))) dNil)))))
      (dRet (dVar 1)))))
def d_quotient (E' : XD) : DS :=
    (dSeq (dDrop (dCallX sp__check (wxd E') (dCons (dTup (dCons (dVar 0) (dCons (dVar 1) dNil))) dNil)))
      (dSeq (dAsg (dCall sp__reduced ED0 (dCons (dVar 0) dNil)) (dgTup 2 (dgCons (dgName 2) (dgCons (dgName 3) dgNil))))
      (dSeq (dAsg (dCall sp__reduced ED0 (dCons (dVar 1) dNil)) (dgTup 2 (dgCons (dgName 4) (dgCons (dgName 5) dgNil))))
      (dSeq (dIfS (dB (dOp (rEqv false) (dVar 4) (dC (.int 0))))
      (dRaise (wxd E') "BadFraction" ["value"] (dCons (dVar 1) dNil))
      dNext)
      (dRet (dCall sp__reduced ED0 (dCons (dTup (dCons (dOp rMulD (dVar 2) (dVar 5)) (dCons (dOp rMulD (dVar 3) (dVar 4)) dNil))) dNil)))))))
def d_apart (E' : XD) : DS :=
    (dSeq (dDrop (dCallX sp__check (wxd E') (dCons (dTup (dCons (dVar 0) (dCons (dVar 1) dNil))) dNil)))
      (dSeq (dAsg (dCall sp__reduced ED0 (dCons (dVar 0) dNil)) (dgTup 2 (dgCons (dgName 2) (dgCons (dgName 3) dgNil))))
      (dSeq (dAsg (dCall sp__reduced ED0 (dCons (dVar 1) dNil)) (dgTup 2 (dgCons (dgName 4) (dgCons (dgName 5) dgNil))))
      (dRet (dCall sp__reduced ED0 (dCons (dTup (dCons (dCB rAbsD (dCons (dOp rSubD (dOp rMulD (dVar 2) (dVar 5)) (dOp rMulD (dVar 4) (dVar 3))) dNil)) (dCons (dOp rMulD (dVar 3) (dVar 5)) dNil))) dNil))))))
def d__power : DS :=
    (dSeq (dIfS (dB (dOp rLtD (dVar 0) (dC (.int 2))))
      (dRet (dIf (dB (dOp rGtD (dVar 1) (dC (.int 0)))) (dVar 0) (dC (.int 1))))
      dNext)
      (dSeq (dSet 2 (dC (.int 1)))
      (dSeq (dSet 3 (dVar 0))
      (dSeq (dSet 4 (dVar 1))
      (dSeq (dWhile (dB (dOp rGtD (dVar 4) (dC (.int 0)))) (dSeq (dIfS (dB (dOp (rEqv false) (dOp rAndD (dVar 4) (dC (.int 1))) (dC (.int 1))))
      (dSet 2 (dOp rMulD (dVar 2) (dVar 3)))
      dNext)
      (dSeq (dSet 4 (dOp rShrD (dVar 4) (dC (.int 1))))
      (dIfS (dB (dOp rGtD (dVar 4) (dC (.int 0))))
      (dSet 3 (dOp rMulD (dVar 3) (dVar 3)))
      dNext))))
      (dRet (dVar 2)))))))
def d_raised (E' : XD) : DS :=
    (dSeq (dDrop (dCallX sp__check (wxd E') (dCons (dTup (dCons (dVar 0) dNil)) dNil)))
      (dSeq (dIfS (dOr (dNot (dB (dCall sp_is_number ED0 (dCons (dVar 1) dNil)))) (dB (dOp rLtD (dVar 1) (dC (.int 0)))))
      (dRaise (wxd E') "BadNumber" ["value"] (dCons (dVar 1) dNil))
      dNext)
      (dSeq (dAsg (dCall sp__reduced ED0 (dCons (dVar 0) dNil)) (dgTup 2 (dgCons (dgName 2) (dgCons (dgName 3) dgNil))))
      (dRet (dTup (dCons (dCall sp__power ED0 (dCons (dVar 2) (dCons (dVar 1) dNil))) (dCons (dCall sp__power ED0 (dCons (dVar 3) (dCons (dVar 1) dNil))) dNil)))))))
def d_is_less (E' : XD) : DS :=
    (dSeq (dDrop (dCallX sp__check (wxd E') (dCons (dTup (dCons (dVar 0) (dCons (dVar 1) dNil))) dNil)))
      (dSeq (dAsg (dCall sp__reduced ED0 (dCons (dVar 0) dNil)) (dgTup 2 (dgCons (dgName 2) (dgCons (dgName 3) dgNil))))
      (dSeq (dAsg (dCall sp__reduced ED0 (dCons (dVar 1) dNil)) (dgTup 2 (dgCons (dgName 4) (dgCons (dgName 5) dgNil))))
      (dRet (dOp rLtD (dOp rMulD (dVar 2) (dVar 5)) (dOp rMulD (dVar 4) (dVar 3)))))))
def d_least_common : DS :=
    (dSeq (dSet 1 (dC (.int 1)))
      (dSeq (fun D τ L => dForL (dVar 0) (dgName 2) (dSet 1 (dCB rLcmD (dCons (dVar 1) (dCons (dVar 2) dNil)))) D τ L ∨ dForT (dVar 0) (dgName 2) (dSet 1 (dCB rLcmD (dCons (dVar 1) (dCons (dVar 2) dNil)))) D τ L)
      (dRet (dVar 1))))
def d__law_bag : DS :=
    (dSeq (dSet 1 (dC (.int 52711)))
      (dSeq (dForR (dCons (dCB rMinD (dCons (dC (.int 63)) (dCons (dCB rLenD (dCons (dVar 0) dNil)) dNil))) dNil) (dgName 2) (dSet 1 (dOp rModD (dCB rIntD (dCons (dOp rAddD (dOp rAddD (dOp rAddD (dOp rMulD (dVar 1) (dC (.int 40014))) (dOp rModD (dCB rIntD (dCons (dOp rIxD (dVar 0) (dVar 2)) dNil)) (dC (.int 2147483563)))) (dOp rMulD (dC (.int 29)) (dVar 2))) (dC (.int 13))) dNil)) (dC (.int 2147483399)))))
      (dRet (dLst (dCons (dLcR 2 (dCons (dCB rMinD (dCons (dC (.int 63)) (dCons (dCB rLenD (dCons (dVar 0) dNil)) dNil))) dNil) dTYes (dCB rIntD (dCons (dOp rIxD (dVar 0) (dVar 2)) dNil))) (dCons (dC (.int 0)) (dCons (dC (.int 0)) (dCons (dC (.int 0)) (dCons (dVar 1) (dCons (dC (.int 0)) dNil))))))))))
def d__law_draw : DS :=
    (dSeq (dAsg (dOp rAddD (dOp rIxD (dVar 0) (dC (.int 5))) (dC (.int 1))) (dgSub (dVar 0) (dC (.int 5))))
      (dSeq (dIfS (dAnd (dB (dOp (rEqv false) (dOp rIxD (dVar 0) (dC (.int 2))) (dC (.int 0)))) (dB (dOp rLtD (dOp rIxD (dVar 0) (dC (.int 1))) (dCB rLenD (dCons (dOp rIxD (dVar 0) (dC (.int 0))) dNil)))))
      (dSeq (dSet 2 (dOp rIxD (dOp rIxD (dVar 0) (dC (.int 0))) (dOp rIxD (dVar 0) (dC (.int 1)))))
      (dSeq (dAsg (dOp rAddD (dOp rIxD (dVar 0) (dC (.int 1))) (dC (.int 1))) (dgSub (dVar 0) (dC (.int 1))))
      (dIfS (dB (dOp rGeD (dVar 2) (dOp rPowD (dC (.int 10)) (dC (.int 18)))))
      (dSeq (dAsg (dVar 2) (dgSub (dVar 0) (dC (.int 2))))
      (dAsg (dC (.int 60)) (dgSub (dVar 0) (dC (.int 3)))))
      (dAsg (dOp rModD (dCB rIntD (dCons (dOp rAddD (dOp rAddD (dOp rMulD (dOp rIxD (dVar 0) (dC (.int 4))) (dC (.int 69621))) (dOp rModD (dCB rIntD (dCons (dVar 2) dNil)) (dC (.int 2147483629)))) (dC (.int 11))) dNil)) (dC (.int 2147483399))) (dgSub (dVar 0) (dC (.int 4)))))))
      dNext)
      (dSeq (dIfS (dB (dOp rGtD (dOp rIxD (dVar 0) (dC (.int 2))) (dC (.int 0))))
      (dSeq (dSet 3 (dOp rModD (dCB rIntD (dCons (dOp rIxD (dVar 0) (dC (.int 2))) dNil)) (dVar 1)))
      (dSeq (dAsg (dOp rSubD (dOp rIxD (dVar 0) (dC (.int 3))) (dC (.int 1))) (dgSub (dVar 0) (dC (.int 3))))
      (dSeq (dAsg (dIf (dB (dOp rGtD (dOp rIxD (dVar 0) (dC (.int 3))) (dC (.int 0)))) (dOp rDivD (dOp rIxD (dVar 0) (dC (.int 2))) (dVar 1)) (dC (.int 0))) (dgSub (dVar 0) (dC (.int 2))))
      (dRet (dVar 3)))))
      dNext)
      (dSeq (dAsg (dOp rModD (dCB rIntD (dCons (dOp rAddD (dOp rAddD (dOp rPowD (dOp rIxD (dVar 0) (dC (.int 4))) (dC (.int 3))) (dOp rMulD (dOp rIxD (dVar 0) (dC (.int 5))) (dC (.int 1000003)))) (dC (.int 4409))) dNil)) (dC (.int 2147483399))) (dgSub (dVar 0) (dC (.int 4))))
      (dRet (dOp rModD (dCB rIntD (dCons (dOp rAddD (dOp rDivD (dOp rIxD (dVar 0) (dC (.int 4))) (dC (.int 127))) (dOp rMulD (dOp rModD (dCB rIntD (dCons (dOp rIxD (dVar 0) (dC (.int 4))) dNil)) (dC (.int 8191))) (dC (.int 67)))) dNil)) (dVar 1)))))))
def d__law_of : DS :=
    (dRet (dOp rIxD (dVar 1) (dCall sp__law_draw ED0 (dCons (dVar 0) (dCons (dCB rLenD (dCons (dVar 1) dNil)) dNil)))))
def d__law_mixed : DS :=
    (dSeq (dSet 2 (dCB rListD (dCons (dVar 1) dNil)))
      (dSeq (dSet 3 (dLst dNil))
      (dSeq (dForR (dCons (dCB rLenD (dCons (dVar 1) dNil)) dNil) (dgName 4) (dDrop (dBM "list" rAppD (dVar 3) (dCons (dBM "list" rPopD (dVar 2) (dCons (dCall sp__law_draw ED0 (dCons (dVar 0) (dCons (dCB rLenD (dCons (dVar 2) dNil)) dNil))) dNil)) dNil))))
      (dRet (dVar 3)))))
def d__law_like (sp__law_like : DSp) : DS :=
    (dSeq (dIfS (dOr (dB (dCB rIsiD (dCons (dVar 1) (dCons (dC (.ty "list")) dNil)))) (dB (dCB rIsiD (dCons (dVar 1) (dCons (dC (.ty "tuple")) dNil)))))
      (dSeq (dIfS (dOr (dB (dOp (rEqv true) (dCB rIsiD (dCons (dVar 0) (dCons (dC (.ty "list")) dNil))) (dCB rIsiD (dCons (dVar 1) (dCons (dC (.ty "list")) dNil))))) (dB (dOp (rEqv true) (dCB rIsiD (dCons (dVar 0) (dCons (dC (.ty "tuple")) dNil))) (dCB rIsiD (dCons (dVar 1) (dCons (dC (.ty "tuple")) dNil))))))
      (dRet (dC (.bl false)))
      dNext)
      (dSeq (dIfS (dB (dOp (rEqv true) (dCB rLenD (dCons (dVar 0) dNil)) (dCB rLenD (dCons (dVar 1) dNil))))
      (dRet (dC (.bl false)))
      dNext)
      (dRet (dOp (rEqv false) (dLcR 2 (dCons (dCB rLenD (dCons (dVar 1) dNil)) dNil) (dNot (dB (dCall sp__law_like ED0 (dCons (dOp rIxD (dVar 0) (dVar 2)) (dCons (dOp rIxD (dVar 1) (dVar 2)) dNil))))) (dVar 2)) (dLst dNil)))))
      dNext)
      (dSeq (dIfS (dB (dCB rIsiD (dCons (dVar 1) (dCons (dC (.ty "dict")) dNil))))
      (dSeq (dIfS (dOr (dNot (dB (dCB rIsiD (dCons (dVar 0) (dCons (dC (.ty "dict")) dNil))))) (dB (dOp (rEqv true) (dCB rLenKD (dCons (dVar 0) dNil)) (dCB rLenKD (dCons (dVar 1) dNil)))))
      (dRet (dC (.bl false)))
      dNext)
      (dRet (dOp (rEqv false) (dLcK0 1) (dLst dNil))))
      dNext)
      (dSeq (dIfS (dB (dOp (rIsND false) (dVar 1) (dC .non)))
      (dRet (dOp (rIsND false) (dVar 0) (dC .non)))
      dNext)
      (dSeq (dIfS (dOr (dB (dOp (rEqv true) (dCB rIsiD (dCons (dVar 0) (dCons (dC (.ty "bool")) dNil))) (dCB rIsiD (dCons (dVar 1) (dCons (dC (.ty "bool")) dNil))))) (dB (dOp (rEqv true) (dCB rIsiD (dCons (dVar 0) (dCons (dC (.ty "int")) dNil))) (dCB rIsiD (dCons (dVar 1) (dCons (dC (.ty "int")) dNil))))))
      (dRet (dC (.bl false)))
      dNext)
      (dRet (dAndV (dOp (rEqv false) (dCB rIsiD (dCons (dVar 0) (dCons (dC (.ty "str")) dNil))) (dCB rIsiD (dCons (dVar 1) (dCons (dC (.ty "str")) dNil)))) (dOp (rEqv false) (dVar 0) (dVar 1))))))))
def d_w__law_like : DS :=
    (dSeq (dIfS (dOr (dB (dCB rIsiD (dCons (dVar 1) (dCons (dC (.ty "list")) dNil)))) (dB (dCB rIsiD (dCons (dVar 1) (dCons (dC (.ty "tuple")) dNil)))))
      (dSeq (dIfS (dOr (dB (dOp (rEqv true) (dCB rIsiD (dCons (dVar 0) (dCons (dC (.ty "list")) dNil))) (dCB rIsiD (dCons (dVar 1) (dCons (dC (.ty "list")) dNil))))) (dB (dOp (rEqv true) (dCB rIsiD (dCons (dVar 0) (dCons (dC (.ty "tuple")) dNil))) (dCB rIsiD (dCons (dVar 1) (dCons (dC (.ty "tuple")) dNil))))))
      (dRet (dC (.bl false)))
      dNext)
      (dSeq (dIfS (dB (dOp (rEqv true) (dCB rLenD (dCons (dVar 0) dNil)) (dCB rLenD (dCons (dVar 1) dNil))))
      (dRet (dC (.bl false)))
      dNext)
      dNever))
      dNext)
      (dSeq (dIfS (dB (dCB rIsiD (dCons (dVar 1) (dCons (dC (.ty "dict")) dNil))))
      (dSeq (dIfS (dOr (dNot (dB (dCB rIsiD (dCons (dVar 0) (dCons (dC (.ty "dict")) dNil))))) (dB (dOp (rEqv true) (dCB rLenKD (dCons (dVar 0) dNil)) (dCB rLenKD (dCons (dVar 1) dNil)))))
      (dRet (dC (.bl false)))
      dNext)
      dNever)
      dNext)
      (dSeq (dIfS (dB (dOp (rIsND false) (dVar 1) (dC .non)))
      (dRet (dOp (rIsND false) (dVar 0) (dC .non)))
      dNext)
      (dSeq (dIfS (dOr (dB (dOp (rEqv true) (dCB rIsiD (dCons (dVar 0) (dCons (dC (.ty "bool")) dNil))) (dCB rIsiD (dCons (dVar 1) (dCons (dC (.ty "bool")) dNil))))) (dB (dOp (rEqv true) (dCB rIsiD (dCons (dVar 0) (dCons (dC (.ty "int")) dNil))) (dCB rIsiD (dCons (dVar 1) (dCons (dC (.ty "int")) dNil))))))
      (dRet (dC (.bl false)))
      dNext)
      (dRet (dAndV (dOp (rEqv false) (dCB rIsiD (dCons (dVar 0) (dCons (dC (.ty "str")) dNil))) (dCB rIsiD (dCons (dVar 1) (dCons (dC (.ty "str")) dNil)))) (dOp (rEqv false) (dVar 0) (dVar 1))))))))
def d__law_gcd : DS :=
    (dSeq (dWhile (dB (dOp (rEqv true) (dVar 1) (dC (.int 0)))) (dPar 0 1 (dCons (dVar 1) (dCons (dOp rModD (dCB rIntD (dCons (dVar 0) dNil)) (dVar 1)) dNil))))
      (dRet (dVar 0)))
def d__law_pair : DS :=
    (dSeq (dSet 2 (dCall sp__law_gcd ED0 (dCons (dVar 0) (dCons (dVar 1) dNil))))
      (dRet (dTup (dCons (dOp rDivD (dVar 0) (dVar 2)) (dCons (dOp rDivD (dVar 1) (dVar 2)) dNil)))))
def d__law_power : DS :=
    (dSeq (dSet 2 (dTup (dCons (dC (.int 1)) (dCons (dC (.int 1)) dNil))))
      (dSeq (dPar 3 4 (dCons (dVar 1) (dCons (dVar 0) dNil)))
      (dSeq (dForR (dCons (dC (.int 40)) dNil) (dgName 5) (dSeq (dIfS (dB (dOp (rEqv false) (dOp rModD (dVar 3) (dC (.int 2))) (dC (.int 1))))
      (dSet 2 (dTup (dCons (dOp rMulD (dOp rIxD (dVar 2) (dC (.int 0))) (dOp rIxD (dVar 4) (dC (.int 0)))) (dCons (dOp rMulD (dOp rIxD (dVar 2) (dC (.int 1))) (dOp rIxD (dVar 4) (dC (.int 1)))) dNil))))
      dNext)
      (dSeq (dSet 3 (dOp rDivD (dVar 3) (dC (.int 2))))
      (dSeq (dIfS (dB (dOp (rEqv false) (dVar 3) (dC (.int 0))))
      dBreak
      dNext)
      (dSet 4 (dTup (dCons (dOp rMulD (dOp rIxD (dVar 4) (dC (.int 0))) (dOp rIxD (dVar 4) (dC (.int 0)))) (dCons (dOp rMulD (dOp rIxD (dVar 4) (dC (.int 1))) (dOp rIxD (dVar 4) (dC (.int 1)))) dNil))))))))
      (dRet (dCall sp__law_pair ED0 (dCons (dOp rIxD (dVar 2) (dC (.int 0))) (dCons (dOp rIxD (dVar 2) (dC (.int 1))) dNil)))))))
def d__law_dress : DS :=
    (dSeq (dSet 2 (dCall sp__law_of ED0 (dCons (dVar 0) (dCons (dLst (dCons (dC (.int 1)) (dCons (dC (.int 1)) (dCons (dC (.int 2)) (dCons (dC (.int 3)) (dCons (dC (.int 1)) (dCons (dC (.int 7)) dNil))))))) dNil))))
      (dSeq (dIfS (dAnd (dB (dOp (rEqv false) (dOp rIxD (dVar 1) (dC (.int 1))) (dC (.int 1)))) (dB (dOp (rEqv false) (dCall sp__law_draw ED0 (dCons (dVar 0) (dCons (dC (.int 2)) dNil))) (dC (.int 0)))))
      (dRet (dOp rIxD (dVar 1) (dC (.int 0))))
      dNext)
      (dRet (dTup (dCons (dOp rMulD (dOp rIxD (dVar 1) (dC (.int 0))) (dVar 2)) (dCons (dOp rMulD (dOp rIxD (dVar 1) (dC (.int 1))) (dVar 2)) dNil))))))
def d_w__law_called : DS :=
    (dSeq (dSet 1 (dLst dNil))
      (dSeq (dIfS (dB (dCB (rIsED ibT) (dCons (dVar 0) (dCons (dC (.cls "ModelError")) dNil))))
      (dDrop (dBM "list" rAppD (dVar 1) (dCons (dC (.str (PySem.Str.ofString "ModelError"))) dNil)))
      dNext)
      (dSeq (dIfS (dB (dCB (rIsED ibT) (dCons (dVar 0) (dCons (dC (.cls "Missing")) dNil))))
      (dDrop (dBM "list" rAppD (dVar 1) (dCons (dC (.str (PySem.Str.ofString "Missing"))) dNil)))
      dNext)
      (dSeq (dIfS (dB (dCB (rIsED ibT) (dCons (dVar 0) (dCons (dC (.cls "Ended")) dNil))))
      (dDrop (dBM "list" rAppD (dVar 1) (dCons (dC (.str (PySem.Str.ofString "Ended"))) dNil)))
      dNext)
      (dSeq (dIfS (dB (dCB (rIsED ibT) (dCons (dVar 0) (dCons (dC (.cls "NoSuch")) dNil))))
      (dDrop (dBM "list" rAppD (dVar 1) (dCons (dC (.str (PySem.Str.ofString "NoSuch"))) dNil)))
      dNext)
      (dSeq (dIfS (dB (dCB (rIsED ibT) (dCons (dVar 0) (dCons (dC (.cls "BadName")) dNil))))
      (dDrop (dBM "list" rAppD (dVar 1) (dCons (dC (.str (PySem.Str.ofString "BadName"))) dNil)))
      dNext)
      (dSeq (dIfS (dB (dCB (rIsED ibT) (dCons (dVar 0) (dCons (dC (.cls "BadFraction")) dNil))))
      (dDrop (dBM "list" rAppD (dVar 1) (dCons (dC (.str (PySem.Str.ofString "BadFraction"))) dNil)))
      dNext)
      (dSeq (dIfS (dB (dCB (rIsED ibT) (dCons (dVar 0) (dCons (dC (.cls "BadNumber")) dNil))))
      (dDrop (dBM "list" rAppD (dVar 1) (dCons (dC (.str (PySem.Str.ofString "BadNumber"))) dNil)))
      dNext)
      (dSeq (dIfS (dB (dCB (rIsED ibT) (dCons (dVar 0) (dCons (dC (.cls "BadGround")) dNil))))
      (dDrop (dBM "list" rAppD (dVar 1) (dCons (dC (.str (PySem.Str.ofString "BadGround"))) dNil)))
      dNext)
      (dSeq (dIfS (dB (dCB (rIsED ibT) (dCons (dVar 0) (dCons (dC (.cls "BadBook")) dNil))))
      (dDrop (dBM "list" rAppD (dVar 1) (dCons (dC (.str (PySem.Str.ofString "BadBook"))) dNil)))
      dNext)
      (dSeq (dIfS (dB (dCB (rIsED ibT) (dCons (dVar 0) (dCons (dC (.cls "BadRecipe")) dNil))))
      (dDrop (dBM "list" rAppD (dVar 1) (dCons (dC (.str (PySem.Str.ofString "BadRecipe"))) dNil)))
      dNext)
      (dSeq (dIfS (dB (dCB (rIsED ibT) (dCons (dVar 0) (dCons (dC (.cls "BadLook")) dNil))))
      (dDrop (dBM "list" rAppD (dVar 1) (dCons (dC (.str (PySem.Str.ofString "BadLook"))) dNil)))
      dNext)
      (dSeq (dIfS (dB (dCB (rIsED ibT) (dCons (dVar 0) (dCons (dC (.cls "BadTerm")) dNil))))
      (dDrop (dBM "list" rAppD (dVar 1) (dCons (dC (.str (PySem.Str.ofString "BadTerm"))) dNil)))
      dNext)
      (dSeq (dIfS (dB (dCB (rIsED ibT) (dCons (dVar 0) (dCons (dC (.cls "BadQuestion")) dNil))))
      (dDrop (dBM "list" rAppD (dVar 1) (dCons (dC (.str (PySem.Str.ofString "BadQuestion"))) dNil)))
      dNext)
      (dSeq (dIfS (dB (dCB (rIsED ibT) (dCons (dVar 0) (dCons (dC (.cls "BadReading")) dNil))))
      (dDrop (dBM "list" rAppD (dVar 1) (dCons (dC (.str (PySem.Str.ofString "BadReading"))) dNil)))
      dNext)
      (dSeq (dIfS (dB (dCB (rIsED ibT) (dCons (dVar 0) (dCons (dC (.cls "BadScript")) dNil))))
      (dDrop (dBM "list" rAppD (dVar 1) (dCons (dC (.str (PySem.Str.ofString "BadScript"))) dNil)))
      dNext)
      (dSeq (dIfS (dB (dCB (rIsED ibT) (dCons (dVar 0) (dCons (dC (.cls "NotBare")) dNil))))
      (dDrop (dBM "list" rAppD (dVar 1) (dCons (dC (.str (PySem.Str.ofString "NotBare"))) dNil)))
      dNext)
      (dSeq (dIfS (dB (dCB (rIsED ibT) (dCons (dVar 0) (dCons (dC (.cls "NotOne")) dNil))))
      (dDrop (dBM "list" rAppD (dVar 1) (dCons (dC (.str (PySem.Str.ofString "NotOne"))) dNil)))
      dNext)
      (dSeq (dIfS (dB (dCB (rIsED ibT) (dCons (dVar 0) (dCons (dC (.cls "NotScorer")) dNil))))
      (dDrop (dBM "list" rAppD (dVar 1) (dCons (dC (.str (PySem.Str.ofString "NotScorer"))) dNil)))
      dNext)
      (dSeq (dIfS (dB (dCB (rIsED ibT) (dCons (dVar 0) (dCons (dC (.cls "NoChance")) dNil))))
      (dDrop (dBM "list" rAppD (dVar 1) (dCons (dC (.str (PySem.Str.ofString "NoChance"))) dNil)))
      dNext)
      (dSeq (dIfS (dB (dCB (rIsED ibT) (dCons (dVar 0) (dCons (dC (.cls "Unlike")) dNil))))
      (dDrop (dBM "list" rAppD (dVar 1) (dCons (dC (.str (PySem.Str.ofString "Unlike"))) dNil)))
      dNext)
      (dSeq (dIfS (dB (dCB (rIsED ibT) (dCons (dVar 0) (dCons (dC (.cls "TooFew")) dNil))))
      (dDrop (dBM "list" rAppD (dVar 1) (dCons (dC (.str (PySem.Str.ofString "TooFew"))) dNil)))
      dNext)
      (dSeq (dIfS (dB (dCB (rIsED ibT) (dCons (dVar 0) (dCons (dC (.cls "TooMany")) dNil))))
      (dDrop (dBM "list" rAppD (dVar 1) (dCons (dC (.str (PySem.Str.ofString "TooMany"))) dNil)))
      dNext)
      (dRet (dVar 1)))))))))))))))))))))))))
def d_w__law_told : DS :=
    (dSeq (dSet 1 (dCall spw__law_called ED0 (dCons (dVar 0) dNil)))
      (dSeq (dIfS (dOr (dB (dOp (rEqv true) (dCB rLenD (dCons (dVar 1) dNil)) (dIf (dB (dOp (rEqv false) (dVar 1) (dLst (dCons (dC (.str (PySem.Str.ofString "Ended"))) dNil)))) (dC (.int 1)) (dC (.int 2))))) (dNot (dB (dCall spw__law_like ED0 (dCons (dFld okE "code" (dVar 0)) (dCons (dOp rIxD (dVar 1) (dOp rSubD (dCB rLenD (dCons (dVar 1) dNil)) (dC (.int 1)))) dNil))))))
      (dRet (dTup (dCons (dC (.str (PySem.Str.ofString "nothing"))) dNil)))
      dNext)
      (dSeq (dSet 2 (dOp rIxD (dVar 1) (dOp rSubD (dCB rLenD (dCons (dVar 1) dNil)) (dC (.int 1)))))
      (dSeq (dIfS (dB (dOp (rEqv false) (dOp rIxD (dVar 1) (dC (.int 0))) (dC (.str (PySem.Str.ofString "Missing")))))
      dNever
      dNext)
      (dSeq (dIfS (dB (dOp rInLD (dVar 2) (dLst (dCons (dC (.str (PySem.Str.ofString "BadName"))) (dCons (dC (.str (PySem.Str.ofString "BadFraction"))) (dCons (dC (.str (PySem.Str.ofString "BadNumber"))) dNil))))))
      (dRet (dTup (dCons (dVar 2) (dCons (dFld okE "value" (dVar 0)) dNil))))
      dNext)
      (dSeq (dIfS (dB (dOp rInLD (dVar 2) (dLst (dCons (dC (.str (PySem.Str.ofString "BadGround"))) (dCons (dC (.str (PySem.Str.ofString "BadBook"))) (dCons (dC (.str (PySem.Str.ofString "BadRecipe"))) (dCons (dC (.str (PySem.Str.ofString "BadLook"))) (dCons (dC (.str (PySem.Str.ofString "BadTerm"))) (dCons (dC (.str (PySem.Str.ofString "BadScript"))) dNil)))))))))
      (dSeq dNever
      dNever)
      dNext)
      (dSeq (dIfS (dB (dOp (rEqv false) (dVar 2) (dC (.str (PySem.Str.ofString "BadQuestion")))))
      dNever
      dNext)
      (dSeq (dIfS (dB (dOp (rEqv false) (dVar 2) (dC (.str (PySem.Str.ofString "BadReading")))))
      dNever
      dNext)
      (dSeq (dIfS (dB (dOp (rEqv false) (dVar 2) (dC (.str (PySem.Str.ofString "NotBare")))))
      dNever
      dNext)
      (dSeq (dIfS (dB (dOp (rEqv false) (dVar 2) (dC (.str (PySem.Str.ofString "NotOne")))))
      dNever
      dNext)
      (dSeq (dIfS (dB (dOp (rEqv false) (dVar 2) (dC (.str (PySem.Str.ofString "NotScorer")))))
      dNever
      dNext)
      (dSeq (dIfS (dB (dOp (rEqv false) (dVar 2) (dC (.str (PySem.Str.ofString "TooFew")))))
      dNever
      dNext)
      (dSeq (dIfS (dB (dOp (rEqv false) (dVar 2) (dC (.str (PySem.Str.ofString "TooMany")))))
      dNever
      dNext)
      dNever)))))))))))))
def d__law_right : DS :=
    (dSeq (dSet 1 (dCall sp__law_draw ED0 (dCons (dVar 0) (dCons (dC (.int 5)) dNil))))
      (dSeq (dIfS (dB (dOp (rEqv false) (dVar 1) (dC (.int 0))))
      (dRet (dCall sp__law_of ED0 (dCons (dVar 0) (dCons (dLst (dCons (dTup (dCons (dC (.int 0)) (dCons (dC (.int 1)) dNil))) (dCons (dTup (dCons (dC (.int 1)) (dCons (dC (.int 1)) dNil))) (dCons (dTup (dCons (dC (.int 5)) (dCons (dC (.int 1)) dNil))) (dCons (dTup (dCons (dC (.int 1)) (dCons (dC (.int 2)) dNil))) dNil))))) dNil))))
      dNext)
      (dSeq (dIfS (dB (dOp (rEqv false) (dVar 1) (dC (.int 1))))
      (dRet (dCall sp__law_pair ED0 (dCons (dCall sp__law_draw ED0 (dCons (dVar 0) (dCons (dOp rPowD (dC (.int 10)) (dC (.int 30))) dNil))) (dCons (dOp rAddD (dC (.int 1)) (dCall sp__law_draw ED0 (dCons (dVar 0) (dCons (dOp rPowD (dC (.int 10)) (dC (.int 30))) dNil)))) dNil))))
      dNext)
      (dRet (dCall sp__law_pair ED0 (dCons (dCall sp__law_draw ED0 (dCons (dVar 0) (dCons (dC (.int 20)) dNil))) (dCons (dOp rAddD (dC (.int 1)) (dCall sp__law_draw ED0 (dCons (dVar 0) (dCons (dC (.int 12)) dNil)))) dNil)))))))
def d__law_wrong : DS :=
    (dSeq (dSet 1 (dCall sp__law_draw ED0 (dCons (dVar 0) (dCons (dC (.int 4)) dNil))))
      (dSeq (dIfS (dB (dOp (rEqv false) (dVar 1) (dC (.int 0))))
      (dRet (dCall sp__law_of ED0 (dCons (dVar 0) (dCons (dLst (dCons (dC (.bl true)) (dCons (dC (.bl false)) (dCons (dC .non) (dCons (dC (.int (-1))) (dCons (dC (.str (PySem.Str.ofString "1/2"))) (dCons (dC (.str (PySem.Str.ofString "1"))) (dCons (dC (.int (-5))) (dCons (dC (.str (PySem.Str.ofString ""))) (dCons dDict0 dNil)))))))))) dNil))))
      dNext)
      (dSeq (dIfS (dB (dOp (rEqv false) (dVar 1) (dC (.int 1))))
      (dRet (dCall sp__law_of ED0 (dCons (dVar 0) (dCons (dLst (dCons (dLst (dCons (dC (.int 1)) (dCons (dC (.int 2)) dNil))) (dCons (dLst (dCons (dC (.int 3)) (dCons (dC (.int 1)) dNil))) (dCons (dLst dNil) (dCons (dTup (dCons (dC (.int 1)) (dCons (dC (.int 2)) (dCons (dC (.int 3)) dNil)))) (dCons (dTup (dCons (dC (.int 1)) dNil)) (dCons (dTup dNil) (dCons (dTup (dCons (dTup (dCons (dC (.int 1)) (dCons (dC (.int 2)) dNil))) (dCons (dC (.int 3)) dNil))) (dCons (dTup (dCons (dC (.int 1)) (dCons (dLst (dCons (dC (.int 2)) dNil)) dNil))) dNil))))))))) dNil))))
      dNext)
      (dSeq (dIfS (dB (dOp (rEqv false) (dVar 1) (dC (.int 2))))
      (dRet (dCall sp__law_of ED0 (dCons (dVar 0) (dCons (dLst (dCons (dTup (dCons (dC (.bl true)) (dCons (dC (.int 2)) dNil))) (dCons (dTup (dCons (dC (.int 1)) (dCons (dC (.bl true)) dNil))) (dCons (dTup (dCons (dC (.bl false)) (dCons (dC (.int 1)) dNil))) (dCons (dTup (dCons (dC (.str (PySem.Str.ofString "1"))) (dCons (dC (.int 2)) dNil))) (dCons (dTup (dCons (dC (.int 1)) (dCons (dC .non) dNil))) (dCons (dTup (dCons (dC .non) (dCons (dC (.int 1)) dNil))) dNil))))))) dNil))))
      dNext)
      (dRet (dCall sp__law_of ED0 (dCons (dVar 0) (dCons (dLst (dCons (dTup (dCons (dOp rAddD (dC (.int 1)) (dCall sp__law_draw ED0 (dCons (dVar 0) (dCons (dC (.int 9)) dNil)))) (dCons (dC (.int 0)) dNil))) (dCons (dTup (dCons (dC (.int 0)) (dCons (dC (.int 0)) dNil))) (dCons (dTup (dCons (dOp rSubD (dOp rSubD (dC (.int 0)) (dC (.int 1))) (dCall sp__law_draw ED0 (dCons (dVar 0) (dCons (dC (.int 9)) dNil)))) (dCons (dC (.int 2)) dNil))) (dCons (dTup (dCons (dC (.int 1)) (dCons (dOp rSubD (dOp rSubD (dC (.int 0)) (dC (.int 1))) (dCall sp__law_draw ED0 (dCons (dVar 0) (dCons (dC (.int 9)) dNil)))) dNil))) (dCons (dTup (dCons (dC (.int (-1))) (dCons (dC (.int (-2))) dNil))) dNil)))))) dNil))))))))
def d__law_call (E' : XD) : DS :=
    (dSeq (dIfS (dB (dOp (rEqv false) (dVar 0) (dC (.int 0))))
      (dRet (dCallX sp_lowest (wxd E') (dCons (dOp rIxD (dVar 1) (dC (.int 0))) dNil)))
      dNext)
      (dSeq (dIfS (dB (dOp (rEqv false) (dVar 0) (dC (.int 1))))
      (dRet (dCallX sp_fraction_text (wxd E') (dCons (dOp rIxD (dVar 1) (dC (.int 0))) dNil)))
      dNext)
      (dSeq (dIfS (dB (dOp (rEqv false) (dVar 0) (dC (.int 2))))
      (dRet (dCallX sp_raised (wxd E') (dCons (dOp rIxD (dVar 1) (dC (.int 0))) (dCons (dOp rIxD (dVar 1) (dC (.int 1))) dNil))))
      dNext)
      (dSeq (dIfS (dB (dOp (rEqv false) (dVar 0) (dC (.int 3))))
      (dRet (dCallX sp_quotient (wxd E') (dCons (dOp rIxD (dVar 1) (dC (.int 0))) (dCons (dOp rIxD (dVar 1) (dC (.int 1))) dNil))))
      dNext)
      (dSeq (dIfS (dB (dOp (rEqv false) (dVar 0) (dC (.int 4))))
      (dRet (dCallX sp_apart (wxd E') (dCons (dOp rIxD (dVar 1) (dC (.int 0))) (dCons (dOp rIxD (dVar 1) (dC (.int 1))) dNil))))
      dNext)
      (dSeq (dIfS (dB (dOp (rEqv false) (dVar 0) (dC (.int 5))))
      (dRet (dCallX sp_is_less (wxd E') (dCons (dOp rIxD (dVar 1) (dC (.int 0))) (dCons (dOp rIxD (dVar 1) (dC (.int 1))) dNil))))
      dNext)
      (dSeq (dIfS (dB (dOp (rEqv false) (dVar 0) (dC (.int 6))))
      (dRet (dCallX sp_read_fraction (wxd E') (dCons (dOp rIxD (dVar 1) (dC (.int 0))) dNil)))
      dNext)
      (dSeq (dIfS (dB (dOp (rEqv false) (dCB rLenD (dCons (dVar 1) dNil)) (dC (.int 2))))
      (dRet (dIf (dB (dOp (rEqv false) (dVar 0) (dC (.int 7)))) (dCallX sp_plus (wxd E') (dCons (dOp rIxD (dVar 1) (dC (.int 0))) (dCons (dOp rIxD (dVar 1) (dC (.int 1))) dNil))) (dCallX sp_times (wxd E') (dCons (dOp rIxD (dVar 1) (dC (.int 0))) (dCons (dOp rIxD (dVar 1) (dC (.int 1))) dNil)))))
      dNext)
      (dSeq (dIfS (dB (dOp (rEqv false) (dCB rLenD (dCons (dVar 1) dNil)) (dC (.int 3))))
      (dRet (dIf (dB (dOp (rEqv false) (dVar 0) (dC (.int 7)))) (dCallX sp_plus (wxd E') (dCons (dOp rIxD (dVar 1) (dC (.int 0))) (dCons (dOp rIxD (dVar 1) (dC (.int 1))) (dCons (dOp rIxD (dVar 1) (dC (.int 2))) dNil)))) (dCallX sp_times (wxd E') (dCons (dOp rIxD (dVar 1) (dC (.int 0))) (dCons (dOp rIxD (dVar 1) (dC (.int 1))) (dCons (dOp rIxD (dVar 1) (dC (.int 2))) dNil))))))
      dNext)
      (dRet (dIf (dB (dOp (rEqv false) (dVar 0) (dC (.int 7)))) (dCallX sp_plus (wxd E') (dCons (dOp rIxD (dVar 1) (dC (.int 0))) (dCons (dOp rIxD (dVar 1) (dC (.int 1))) (dCons (dOp rIxD (dVar 1) (dC (.int 2))) (dCons (dOp rIxD (dVar 1) (dC (.int 3))) dNil))))) (dCallX sp_times (wxd E') (dCons (dOp rIxD (dVar 1) (dC (.int 0))) (dCons (dOp rIxD (dVar 1) (dC (.int 1))) (dCons (dOp rIxD (dVar 1) (dC (.int 2))) (dCons (dOp rIxD (dVar 1) (dC (.int 3))) dNil))))))))))))))))
def d__law_ask : DS :=
    (dTry 2 okE (fun W1 => (dRet (dTup (dCons (dC (.str (PySem.Str.ofString "told"))) (dCons (dCallX sp__law_call W1 (dCons (dVar 0) (dCons (dVar 1) dNil))) dNil)))))
      (dRet (dCall spw__law_told ED0 (dCons (dVar 2) dNil))))
def d__law_refusals : DS :=
    (dSeq (dSet 2 (dIf (dB (dOp rLtD (dVar 1) (dC (.int 2)))) (dC (.int 1)) (dIf (dB (dOp rLtD (dVar 1) (dC (.int 6)))) (dC (.int 2)) (dOp rAddD (dC (.int 2)) (dCall sp__law_draw ED0 (dCons (dVar 0) (dCons (dC (.int 3)) dNil)))))))
      (dSeq (dSet 3 (dLcR 7 (dCons (dVar 2) dNil) dTYes (dCall sp__law_right ED0 (dCons (dVar 0) dNil))))
      (dSeq (dIfS (dB (dOp (rEqv false) (dVar 1) (dC (.int 2))))
      (dAsg (dCall sp__law_draw ED0 (dCons (dVar 0) (dCons (dC (.int 9)) dNil))) (dgSub (dVar 3) (dC (.int 1))))
      dNext)
      (dSeq (dSet 4 (dCall sp__law_draw ED0 (dCons (dVar 0) (dCons (dVar 2) dNil))))
      (dSeq (dIfS (dAnd (dB (dOp (rEqv false) (dVar 1) (dC (.int 2)))) (dB (dOp (rEqv false) (dVar 4) (dC (.int 1)))))
      (dSeq (dAsg (dCall sp__law_of ED0 (dCons (dVar 0) (dCons (dLst (dCons (dC (.bl true)) (dCons (dC (.bl false)) (dCons (dC .non) (dCons (dC (.int (-1))) (dCons (dC (.str (PySem.Str.ofString "2"))) (dCons (dTup (dCons (dC (.int 2)) (dCons (dC (.int 1)) dNil))) (dCons (dLst (dCons (dC (.int 2)) dNil)) (dCons (dC (.int (-3))) dNil))))))))) dNil))) (dgSub (dVar 3) (dC (.int 1))))
      (dRet (dCall sp__law_like ED0 (dCons (dCall sp__law_ask ED0 (dCons (dVar 1) (dCons (dLst (dCons (dCall sp__law_dress ED0 (dCons (dVar 0) (dCons (dOp rIxD (dVar 3) (dC (.int 0))) dNil))) (dCons (dOp rIxD (dVar 3) (dC (.int 1))) dNil))) dNil))) (dCons (dTup (dCons (dC (.str (PySem.Str.ofString "BadNumber"))) (dCons (dOp rIxD (dVar 3) (dC (.int 1))) dNil))) dNil)))))
      dNext)
      (dSeq (dSet 5 (dCall sp__law_wrong ED0 (dCons (dVar 0) dNil)))
      (dSeq (dIfS (dAnd (dB (dOp (rEqv false) (dVar 1) (dC (.int 3)))) (dAnd (dB (dOp (rEqv false) (dVar 4) (dC (.int 1)))) (dB (dOp (rEqv false) (dCall sp__law_draw ED0 (dCons (dVar 0) (dCons (dC (.int 2)) dNil))) (dC (.int 0))))))
      (dSet 5 (dCall sp__law_of ED0 (dCons (dVar 0) (dCons (dLst (dCons (dC (.int 0)) (dCons (dTup (dCons (dC (.int 0)) (dCons (dC (.int 1)) dNil))) (dCons (dTup (dCons (dC (.int 0)) (dCons (dC (.int 7)) dNil))) dNil)))) dNil))))
      dNext)
      (dSeq (dSet 6 (dIf (dB (dOp (rEqv true) (dVar 1) (dC (.int 2)))) (dLcL 8 (dVar 3) dTYes (dCall sp__law_dress ED0 (dCons (dVar 0) (dCons (dVar 8) dNil)))) (dLst (dCons (dCall sp__law_dress ED0 (dCons (dVar 0) (dCons (dOp rIxD (dVar 3) (dC (.int 0))) dNil))) (dCons (dOp rIxD (dVar 3) (dC (.int 1))) dNil)))))
      (dSeq (dAsg (dVar 5) (dgSub (dVar 6) (dVar 4)))
      (dSeq (dIfS (dAnd (dB (dOp rLtD (dOp rAddD (dVar 4) (dC (.int 1))) (dVar 2))) (dB (dOp (rEqv false) (dCall sp__law_draw ED0 (dCons (dVar 0) (dCons (dC (.int 2)) dNil))) (dC (.int 0)))))
      (dAsg (dIf (dB (dOp (rEqv true) (dVar 1) (dC (.int 2)))) (dCall sp__law_wrong ED0 (dCons (dVar 0) dNil)) (dCall sp__law_of ED0 (dCons (dVar 0) (dCons (dLst (dCons (dC (.bl true)) (dCons (dC .non) (dCons (dC (.int (-1))) dNil)))) dNil)))) (dgSub (dVar 6) (dOp rAddD (dVar 4) (dC (.int 1)))))
      dNext)
      (dRet (dCall sp__law_like ED0 (dCons (dCall sp__law_ask ED0 (dCons (dVar 1) (dCons (dVar 6) dNil))) (dCons (dTup (dCons (dC (.str (PySem.Str.ofString "BadFraction"))) (dCons (dVar 5) dNil))) dNil))))))))))))))
def d__law_texts : DS :=
    (dSeq (dSet 1 (dOp rAddD (dOp rAddD (dC (.str (PySem.Str.ofString "1"))) (dOp rMulSD (dC (.str (PySem.Str.ofString "0"))) (dC (.int 58)))) (dCB rStrD (dCons (dOp rAddD (dC (.int 10)) (dCall sp__law_draw ED0 (dCons (dVar 0) (dCons (dC (.int 90)) dNil)))) dNil))))
      (dSeq (dSet 2 (dCall sp__law_of ED0 (dCons (dVar 0) (dCons (dLst (dCons (dC (.str (PySem.Str.ofString ""))) (dCons (dC (.str (PySem.Str.ofString "1/0"))) (dCons (dC (.str (PySem.Str.ofString "01"))) (dCons (dC (.str (PySem.Str.ofString "1/02"))) (dCons (dC (.str (PySem.Str.ofString "+1"))) (dCons (dC (.str (PySem.Str.ofString "-1/2"))) (dCons (dC (.str (PySem.Str.ofString " 1"))) (dCons (dC (.str (PySem.Str.ofString "1 "))) (dCons (dC (.str (PySem.Str.ofString "1/2/3"))) (dCons (dC (.str (PySem.Str.ofString "1.5"))) (dCons (dC (.str (PySem.Str.ofString "/2"))) (dCons (dC (.str (PySem.Str.ofString "1/"))) (dCons (dC (.str (PySem.Str.ofString "1_0"))) (dCons (dC (.str (PySem.Str.ofString "1\n"))) (dCons (dC (.str (PySem.Str.ofString "x"))) (dCons (dC (.str (PySem.Str.ofString "1/-2"))) (dCons (dC (.str (PySem.Str.ofString "00/5"))) (dCons (dVar 1) (dCons (dOp rAddD (dC (.str (PySem.Str.ofString "1/"))) (dVar 1)) dNil)))))))))))))))))))) dNil))))
      (dSeq (dSet 3 (dCall sp__law_of ED0 (dCons (dVar 0) (dCons (dLst (dCons (dVar 2) (dCons (dVar 2) (dCons (dVar 2) (dCons (dC .non) (dCons (dC (.int 5)) (dCons (dTup (dCons (dC (.int 1)) (dCons (dC (.int 2)) dNil))) (dCons (dC (.bl true)) (dCons (dLst (dCons (dC (.str (PySem.Str.ofString "1"))) dNil)) dNil))))))))) dNil))))
      (dRet (dAndV (dCall sp__law_like ED0 (dCons (dCall sp__law_ask ED0 (dCons (dC (.int 6)) (dCons (dLst (dCons (dVar 3) dNil)) dNil))) (dCons (dTup (dCons (dC (.str (PySem.Str.ofString "BadFraction"))) (dCons (dVar 3) dNil))) dNil))) (dCall sp__law_like ED0 (dCons (dCall sp__law_ask ED0 (dCons (dC (.int 6)) (dCons (dLst (dCons (dSl (dVar 1) dNoPart (dPart (dC (.int 60)))) dNil)) dNil))) (dCons (dTup (dCons (dC (.str (PySem.Str.ofString "told"))) (dCons (dTup (dCons (dCB rIntD (dCons (dSl (dVar 1) dNoPart (dPart (dC (.int 60)))) dNil)) (dCons (dC (.int 1)) dNil))) dNil))) dNil))))))))
def d__law_common : DS :=
    (dSeq (dSet 1 (dC (.int 1)))
      (dSeq (dForL (dVar 0) (dgName 2) (dSet 1 (dOp rDivD (dOp rMulD (dVar 1) (dVar 2)) (dCall sp__law_gcd ED0 (dCons (dVar 1) (dCons (dVar 2) dNil))))))
      (dRet (dVar 1))))
def d_law : DS :=
    (dSeq (dSet 1 (dCall sp__law_bag ED0 (dCons (dVar 0) dNil)))
      (dSeq (dSet 2 (dCall sp__law_right ED0 (dCons (dVar 1) dNil)))
      (dSeq (dSet 3 (dCall sp__law_draw ED0 (dCons (dVar 1) (dCons (dC (.int 41)) dNil))))
      (dSeq (dSet 4 (dCall sp__law_draw ED0 (dCons (dVar 1) (dCons (dOp rSubD (dC (.int 61)) (dVar 3)) dNil))))
      (dSeq (dSet 5 (dCall sp__law_of ED0 (dCons (dVar 1) (dCons (dLst (dCons (dC (.int 0)) (dCons (dC (.int 1)) (dCons (dC (.int 2)) (dCons (dC (.int 3)) (dCons (dC (.int 1)) dNil)))))) dNil))))
      (dSeq (dForT (dTup (dCons (dVar 3) (dCons (dVar 4) (dCons (dOp rAddD (dVar 3) (dVar 4)) dNil)))) (dgName 6) (dIfS (dNot (dB (dCall sp__law_like ED0 (dCons (dCall sp_raised ED0 (dCons (dCall sp__law_dress ED0 (dCons (dVar 1) (dCons (dVar 2) dNil))) (dCons (dVar 6) dNil))) (dCons (dCall sp__law_power ED0 (dCons (dVar 2) (dCons (dVar 6) dNil))) dNil)))))
      (dRet (dC (.bl false)))
      dNext))
      (dSeq (dIfS (dNot (dB (dCall sp__law_like ED0 (dCons (dCall sp_times ED0 (dCons (dCall sp_raised ED0 (dCons (dVar 2) (dCons (dVar 3) dNil))) (dCons (dCall sp_raised ED0 (dCons (dVar 2) (dCons (dVar 4) dNil))) dNil))) (dCons (dCall sp__law_power ED0 (dCons (dVar 2) (dCons (dOp rAddD (dVar 3) (dVar 4)) dNil))) dNil)))))
      (dRet (dC (.bl false)))
      dNext)
      (dSeq (dIfS (dNot (dB (dCall sp__law_like ED0 (dCons (dCall sp_raised ED0 (dCons (dCall sp_raised ED0 (dCons (dVar 2) (dCons (dOp rModD (dCB rIntD (dCons (dVar 4) dNil)) (dC (.int 9))) dNil))) (dCons (dVar 5) dNil))) (dCons (dCall sp__law_power ED0 (dCons (dVar 2) (dCons (dOp rMulD (dOp rModD (dCB rIntD (dCons (dVar 4) dNil)) (dC (.int 9))) (dVar 5)) dNil))) dNil)))))
      (dRet (dC (.bl false)))
      dNext)
      (dSeq (dIfS (dOr (dNot (dB (dCall sp__law_like ED0 (dCons (dCall sp_raised ED0 (dCons (dC (.int 0)) (dCons (dC (.int 0)) dNil))) (dCons (dTup (dCons (dC (.int 1)) (dCons (dC (.int 1)) dNil))) dNil))))) (dNot (dB (dCall sp__law_like ED0 (dCons (dCall sp_raised ED0 (dCons (dTup (dCons (dC (.int 0)) (dCons (dC (.int 3)) dNil))) (dCons (dOp rAddD (dC (.int 1)) (dVar 3)) dNil))) (dCons (dTup (dCons (dC (.int 0)) (dCons (dC (.int 1)) dNil))) dNil))))))
      (dRet (dC (.bl false)))
      dNext)
      (dSeq (dSet 7 (dLcR 14 (dCons (dOp rAddD (dC (.int 2)) (dCall sp__law_draw ED0 (dCons (dVar 1) (dCons (dC (.int 4)) dNil)))) dNil) dTYes (dCall sp__law_right ED0 (dCons (dVar 1) dNil))))
      (dSeq (dSet 8 (dOp rIxD (dVar 7) (dC (.int 0))))
      (dSeq (dSet 9 (dCall sp__law_dress ED0 (dCons (dVar 1) (dCons (dOp rIxD (dVar 7) (dC (.int 0))) dNil))))
      (dSeq (dForL (dSl (dVar 7) (dPart (dC (.int 1))) dNoPart) (dgName 10) (dSeq (dSet 11 (dIf (dB (dOp rGtD (dOp rIxD (dVar 10) (dC (.int 0))) (dC (.int 0)))) (dVar 10) (dTup (dCons (dC (.int 3)) (dCons (dC (.int 7)) dNil)))))
      (dSeq (dSet 8 (dCall sp__law_pair ED0 (dCons (dOp rMulD (dOp rIxD (dVar 8) (dC (.int 0))) (dOp rIxD (dVar 11) (dC (.int 1)))) (dCons (dOp rMulD (dOp rIxD (dVar 8) (dC (.int 1))) (dOp rIxD (dVar 11) (dC (.int 0)))) dNil))))
      (dSeq (dSet 9 (dCall sp_quotient ED0 (dCons (dVar 9) (dCons (dCall sp__law_dress ED0 (dCons (dVar 1) (dCons (dVar 11) dNil))) dNil))))
      (dIfS (dNot (dB (dCall sp__law_like ED0 (dCons (dVar 9) (dCons (dVar 8) dNil)))))
      (dRet (dC (.bl false)))
      dNext)))))
      (dSeq (dSet 12 (dLcL 10 (dVar 7) dTYes (dOp rIxD (dVar 10) (dC (.int 1)))))
      (dSeq (dIfS (dB (dOp (rEqv false) (dCall sp__law_draw ED0 (dCons (dVar 1) (dCons (dC (.int 2)) dNil))) (dC (.int 0))))
      (dSet 12 (dOp rAddD (dVar 12) (dSl (dLst (dCons (dOp rIxD (dVar 12) (dC (.int 0))) (dCons (dOp rMulD (dOp rIxD (dVar 12) (dC (.int 0))) (dC (.int 6))) (dCons (dC (.int 4)) (dCons (dC (.int 6)) dNil))))) dNoPart (dPart (dOp rAddD (dC (.int 1)) (dCall sp__law_draw ED0 (dCons (dVar 1) (dCons (dC (.int 4)) dNil))))))))
      dNext)
      (dSeq (dSet 12 (dSl (dCall sp__law_mixed ED0 (dCons (dVar 1) (dCons (dVar 12) dNil))) dNoPart (dPart (dC (.int 6)))))
      (dSeq (dSet 8 (dCall sp__law_common ED0 (dCons (dVar 12) dNil)))
      (dSeq (dIfS (dOr (dNot (dB (dCall sp__law_like ED0 (dCons (dCall sp_least_common ED0 (dCons (dCB rListD (dCons (dVar 12) dNil)) dNil)) (dCons (dVar 8) dNil))))) (dNot (dB (dCall sp__law_like ED0 (dCons (dCall sp_least_common ED0 (dCons (dTupOf (dVar 12)) dNil)) (dCons (dVar 8) dNil))))))
      (dRet (dC (.bl false)))
      dNext)
      (dSeq (dIfS (dOr (dNot (dB (dCall sp__law_like ED0 (dCons (dCall sp_least_common ED0 (dCons (dLst dNil) dNil)) (dCons (dC (.int 1)) dNil))))) (dNot (dB (dCall sp__law_like ED0 (dCons (dCall sp_least_common ED0 (dCons (dLst (dCons (dC (.int 4)) (dCons (dC (.int 6)) (dCons (dC (.int 4)) (dCons (dC (.int 1)) dNil))))) dNil)) (dCons (dC (.int 12)) dNil))))))
      (dRet (dC (.bl false)))
      dNext)
      (dSeq (dForT (dTup (dCons (dC (.int 0)) (dCons (dC (.int 1)) (dCons (dC (.int 2)) (dCons (dC (.int 3)) (dCons (dC (.int 4)) (dCons (dC (.int 5)) (dCons (dC (.int 7)) (dCons (dC (.int 8)) dNil))))))))) (dgName 13) (dIfS (dNot (dB (dCall sp__law_refusals ED0 (dCons (dVar 1) (dCons (dVar 13) dNil)))))
      (dRet (dC (.bl false)))
      dNext))
      (dRet (dCall sp__law_texts ED0 (dCons (dVar 1) dNil)))))))))))))))))))))))
end K01
namespace K01
open PySem PySem.Spec PyProof.Rows L2 DV FR
theorem ty_non {L : LHp} {t : String} : tyD L .non t = (t = "NoneType") := rfl
theorem ty_bl {L : LHp} {t : String} {b : Bool} : tyD L (.bl b) t = (t = "bool") := rfl
theorem ty_int {L : LHp} {t : String} {b : Int} : tyD L (.int b) t = (t = "int") := rfl
theorem ty_str {L : LHp} {t : String} {b : Str} : tyD L (.str b) t = (t = "str") := rfl
theorem ty_tup {L : LHp} {t : String} {b : List D} : tyD L (.tup b) t = (t = "tuple") := rfl
def kitT (a b : String) (r : Bool) : Prop := kitB a b = some r
theorem kk01 : kitB "NoneType" "int" = some false := by decide +kernel
theorem kk02 : kitB "NoneType" "bool" = some false := by decide +kernel
theorem kk03 : kitB "NoneType" "str" = some false := by decide +kernel
theorem kk04 : kitB "NoneType" "tuple" = some false := by decide +kernel
theorem kk05 : kitB "NoneType" "list" = some false := by decide +kernel
theorem kk06 : kitB "NoneType" "dict" = some false := by decide +kernel
theorem kk07 : kitB "bool" "int" = some true := by decide +kernel
theorem kk08 : kitB "bool" "bool" = some true := by decide +kernel
theorem kk09 : kitB "bool" "str" = some false := by decide +kernel
theorem kk10 : kitB "bool" "tuple" = some false := by decide +kernel
theorem kk11 : kitB "bool" "list" = some false := by decide +kernel
theorem kk12 : kitB "bool" "dict" = some false := by decide +kernel
theorem kk13 : kitB "int" "int" = some true := by decide +kernel
theorem kk14 : kitB "int" "bool" = some false := by decide +kernel
theorem kk15 : kitB "int" "str" = some false := by decide +kernel
theorem kk16 : kitB "int" "tuple" = some false := by decide +kernel
theorem kk17 : kitB "int" "list" = some false := by decide +kernel
theorem kk18 : kitB "int" "dict" = some false := by decide +kernel
theorem kk19 : kitB "str" "int" = some false := by decide +kernel
theorem kk20 : kitB "str" "bool" = some false := by decide +kernel
theorem kk21 : kitB "str" "str" = some true := by decide +kernel
theorem kk22 : kitB "str" "tuple" = some false := by decide +kernel
theorem kk23 : kitB "str" "list" = some false := by decide +kernel
theorem kk24 : kitB "str" "dict" = some false := by decide +kernel
theorem kk25 : kitB "tuple" "int" = some false := by decide +kernel
theorem kk26 : kitB "tuple" "bool" = some false := by decide +kernel
theorem kk27 : kitB "tuple" "str" = some false := by decide +kernel
theorem kk28 : kitB "tuple" "tuple" = some true := by decide +kernel
theorem kk29 : kitB "tuple" "list" = some false := by decide +kernel
theorem kk30 : kitB "tuple" "dict" = some false := by decide +kernel
theorem kk31 : kitB "list" "int" = some false := by decide +kernel
theorem kk32 : kitB "list" "bool" = some false := by decide +kernel
theorem kk33 : kitB "list" "str" = some false := by decide +kernel
theorem kk34 : kitB "list" "tuple" = some false := by decide +kernel
theorem kk35 : kitB "list" "list" = some true := by decide +kernel
theorem kk36 : kitB "list" "dict" = some false := by decide +kernel
theorem kk37 : kitB "dict" "int" = some false := by decide +kernel
theorem kk38 : kitB "dict" "bool" = some false := by decide +kernel
theorem kk39 : kitB "dict" "str" = some false := by decide +kernel
theorem kk40 : kitB "dict" "tuple" = some false := by decide +kernel
theorem kk41 : kitB "dict" "list" = some false := by decide +kernel
theorem kk42 : kitB "dict" "dict" = some true := by decide +kernel
local macro_rules | `(tactic| walk_at "dv") => `(tactic| (simp only [dstart, List.map_cons, List.map_nil, List.length_cons, List.length_nil, Nat.reduceAdd, Nat.reduceSub, List.reduceReplicate, List.cons_append, List.nil_append, List.append_nil,
  dSeq, dNext, dSet, dRet, dRetN, dDrop, dAsg, dgName, dgTup, dgCons, dgNil, dgSub, dPar, dIfS, dVar, dC, dOp, dCons, dNil, dCB, dB, dAnd, dOr, dNot, dAndV, dOrV, dNotV, dIf, dTup, dLst, dCall, dBM, dSl, dNoPart, dPart, dFmt, dBits,
  List.getElem?_cons_succ, List.getElem?_cons_zero, List.set_cons_succ, List.set_cons_zero, Option.some.injEq, exists_eq_left', exists_eq_left, List.cons.injEq, D.int.injEq, D.bl.injEq, D.str.injEq, D.tup.injEq, D.ref.injEq, D.fls.injEq, and_true, true_and, and_assoc,
  if_true, if_false, Bool.false_eq_true, exists_const, exists_eq', exists_and_left, exists_and_right, List.length_singleton, ite_true, ite_false, Bool.not_true, Bool.not_false, reduceCtorEq, false_and, exists_false, Bool.false_xor, Bool.true_xor,
  ty_non, ty_bl, ty_int, ty_str, ty_tup, kk01, kk02, kk03, kk04, kk05, kk06, kk07, kk08, kk09, kk10, kk11, kk12, kk13, kk14, kk15, kk16, kk17, kk18, kk19, kk20, kk21, kk22, kk23, kk24, kk25, kk26, kk27, kk28, kk29, kk30, kk31, kk32, kk33, kk34, kk35, kk36, kk37, kk38, kk39, kk40, kk41, kk42,
  rI2, DV.rIxD, rAddD, rLenD, rIsiD, rI2C, rEqv, rSlD, rIntD, rStrD, rAbsD, rIsND, rAppD, rPopD, rInsD, rFindD, tyM, dRaise, wxd, dCallX, dFld, rInLD, bad]))
theorem ty_cases {L : LHp} {d : D} {t : String} (h : tyD L d t) : (d = .non ∧ t = "NoneType") ∨ (∃ b, d = .bl b ∧ t = "bool") ∨ (∃ i, d = .int i ∧ t = "int") ∨ (∃ z, d = .str z ∧ t = "str") ∨ (∃ xs, d = .tup xs ∧ t = "tuple") ∨ (∃ a, d = .ref a ∧ t = "list") ∨ (∃ a, d = .ref a ∧ t = "dict") := by
  cases d with
  | non => exact .inl ⟨rfl, h⟩
  | bl b => exact .inr (.inl ⟨b, rfl, h⟩)
  | int i => exact .inr (.inr (.inl ⟨i, rfl, h⟩))
  | str z => exact .inr (.inr (.inr (.inl ⟨z, rfl, h⟩)))
  | tup xs => exact .inr (.inr (.inr (.inr (.inl ⟨xs, rfl, h⟩))))
  | ref a =>
    rcases (show ((∃ ds, LRd L a ds) ∧ t = "list") ∨ ((∃ kvs, L a = some (.dk kvs)) ∧ t = "dict") from h) with ⟨_, e⟩ | ⟨_, e⟩
    · exact .inr (.inr (.inr (.inr (.inr (.inl ⟨a, rfl, e⟩)))))
    · exact .inr (.inr (.inr (.inr (.inr (.inr ⟨a, rfl, e⟩)))))
  | ty n => exact (show False from h).elim
  | fls n => exact (show False from h).elim
  | exc c ns ds => exact (show False from h).elim
  | cls c => exact (show False from h).elim
theorem rd_is_number (ds : List D) (L : LHp) (Q : DK) (E' : XD) (h : sp_is_number ds L Q E') : d_is_number { nx := fun _ L' => Q .non L', rt := Q } (dstart ["value"] ds) L := by
  obtain ⟨d, t, rfl, ht, q⟩ := h
  unfold d_is_number
  walk_at "dv"
  have hd := ht
  rcases ty_cases hd with ⟨rfl, rfl⟩ | ⟨b, rfl, rfl⟩ | ⟨i, rfl, rfl⟩ | ⟨z, rfl, rfl⟩ | ⟨xs, rfl, rfl⟩ | ⟨a, rfl, rfl⟩ | ⟨a, rfl, rfl⟩
  · walk_at "dv"; exact q
  · walk_at "dv"; exact q
  · walk_at "dv"; exact q
  · walk_at "dv"; exact q
  · walk_at "dv"; exact q
  · refine ⟨"list", ht, ?_⟩
    walk_at "dv"
    exact q
  · refine ⟨"dict", ht, ?_⟩
    walk_at "dv"
    exact q
theorem len_is_number (ds : List D) (L : LHp) (Q : DK) (E' : XD) (h : sp_is_number ds L Q E') : ds.length = 1 := by obtain ⟨d, t, rfl, _⟩ := h; rfl
theorem isF_tup {xs : List D} (h : xs.length ≠ 2) : isF (.tup xs) = false := by
  match xs, h with
  | [], _ => rfl
  | [a], _ => cases a <;> rfl
  | a :: b :: c :: r, _ => cases a <;> first | rfl | (cases b <;> rfl)
  | [a, b], h => exact (h rfl).elim
theorem isF_two (a b : D) : isF (.tup [a, b]) = (isI a && isI b && isF a && match b with | .int n => decide (1 ≤ n) | _ => false) := by
  cases a <;> cases b <;> simp [isF, isI]
theorem rd_is_fraction (ds : List D) (L : LHp) (Q : DK) (E' : XD) (h : sp_is_fraction ds L Q E') : d_is_fraction { nx := fun _ L' => Q .non L', rt := Q } (dstart ["value", "top", "bottom"] ds) L := by
  obtain ⟨d, rfl, ⟨⟨t, ht⟩, hi⟩, q⟩ := h
  unfold d_is_fraction
  walk_at "dv"
  refine ⟨d, t, rfl, ht, ?_⟩
  have hd := ht
  rcases ty_cases hd with ⟨rfl, rfl⟩ | ⟨b, rfl, rfl⟩ | ⟨i, rfl, rfl⟩ | ⟨z, rfl, rfl⟩ | ⟨xs, rfl, rfl⟩ | ⟨a, rfl, rfl⟩ | ⟨a, rfl, rfl⟩
  all_goals unfold isI; walk_at "dv"
  · exact q
  · exact q
  · exact q
  · exact q
  · match xs with
    | [] => simp; exact q
    | [a] => have e : isF (.tup [a]) = false := isF_tup (by simp); rw [e] at q; simp; exact q
    | a :: b :: c :: r => have e : isF (.tup (a :: b :: c :: r)) = false := isF_tup (by simp); rw [e] at q; rw [if_pos (by simp; omega)]; exact q
    | [a, b] =>
      obtain ⟨ta, ha⟩ := hi _ rfl a (by simp)
      obtain ⟨tb, hb⟩ := hi _ rfl b (by simp)
      rw [if_neg (by simp)]
      refine ⟨rfl, a, [b], rfl, b, [], rfl, rfl, a, ta, rfl, ha, ?_⟩
      refine ⟨_, rfl, ?_⟩
      rw [isF_two] at q
      cases a with
      | int i =>
        refine iteT ⟨b, tb, rfl, hb, isI b, rfl, ?_⟩
        cases b with
        | int j =>
          refine iteT ⟨trivial, decide (0 ≤ i), rfl, ?_⟩
          by_cases h0 : 0 ≤ i
          · rw [decide_eq_true h0]
            refine iteT ?_
            simp [isI, isF, h0] at q
            exact ⟨trivial, q⟩
          · rw [decide_eq_false h0]
            refine iteF ?_
            simp [isI, isF, h0] at q
            exact q
        | _ => exact iteF (by simpa [isI] using q)
      | _ => exact iteF (by simpa [isI] using q)
  · refine ⟨"list", ht, false, by decide +kernel, ?_⟩
    exact iteT q
  · refine ⟨"dict", ht, false, by decide +kernel, ?_⟩
    exact iteT q
theorem len_is_fraction (ds : List D) (L : LHp) (Q : DK) (E' : XD) (h : sp_is_fraction ds L Q E') : ds.length = 1 := by obtain ⟨d, rfl, _⟩ := h; rfl
theorem rd__check (ds : List D) (L : LHp) (Q : DK) (E' : XD) (h : sp__check ds L Q E') : d__check E' { nx := fun _ L' => Q .non L', rt := Q } (dstart ["values", "value"] ds) L := by
  obtain ⟨vs, rfl, hk, hq⟩ := h
  unfold d__check dForT
  walk_at "dv"
  refine ⟨fun i τ L' => L' = L ∧ (∃ y, τ = [some (.tup vs), y]) ∧ ∀ v ∈ vs.take i, isF v = true, ⟨rfl, ⟨_, rfl⟩, by simp⟩, fun i d τ' L' hd ⟨e, ⟨y, ey⟩, hi⟩ => ?_, fun τ' L' ⟨e, ⟨y, ey⟩, hi⟩ => ?_⟩
  · subst e ey
    have hm := List.mem_of_getElem? hd
    walk_at "dv"
    refine ⟨d, rfl, hk d hm, _, rfl, ?_⟩
    cases hf : isF d with
    | true =>
      walk_at "dv"
      rw [take_snoc hd]
      intro v hv
      rcases List.mem_append.mp hv with h | h
      · exact hi v h
      · rw [List.mem_singleton.mp h]; exact hf
    | false =>
      walk_at "dv"
      rcases hq with ⟨ha, _⟩ | ⟨v, hv, hb⟩
      · rw [ha d hm] at hf; cases hf
      · have e : v = d := by
          have hs : vs = vs.take i ++ d :: vs.drop (i + 1) := by
            have hl := (List.getElem?_eq_some_iff.mp hd)
            obtain ⟨hl, e⟩ := hl
            rw [← e, List.getElem_cons_drop, List.take_append_drop]
          unfold First at hv
          rw [hs, List.find?_append, List.find?_eq_none.mpr (fun x hx => by rw [hi x hx]; decide), Option.none_or, List.find?_cons_of_pos (by rw [hf]; rfl)] at hv
          exact (Option.some.inj hv).symm
        rw [← e]
        exact hb
  · subst e ey
    rw [List.take_length] at hi
    rcases hq with ⟨_, q⟩ | ⟨v, hv, hb⟩
    · exact q
    · have z := List.find?_some hv
      have m := List.mem_of_find?_eq_some hv
      simp only [hi v m] at z
      cases z
theorem len__check (ds : List D) (L : LHp) (Q : DK) (E' : XD) (h : sp__check ds L Q E') : ds.length = 1 := by obtain ⟨d, rfl, _⟩ := h; rfl
end K01
namespace K01
open PySem PySem.Spec PyProof.Rows L2 DV FR
local macro_rules | `(tactic| walk_at "dv") => `(tactic| (simp only [dstart, List.map_cons, List.map_nil, List.length_cons, List.length_nil, Nat.reduceAdd, Nat.reduceSub, List.reduceReplicate, List.cons_append, List.nil_append, List.append_nil,
  dSeq, dNext, dSet, dRet, dRetN, dDrop, dAsg, dgName, dgTup, dgCons, dgNil, dgSub, dPar, dIfS, dVar, dC, dOp, dCons, dNil, dCB, dB, dAnd, dOr, dNot, dAndV, dOrV, dNotV, dIf, dTup, dLst, dCall, dBM, dSl, dNoPart, dPart, dFmt, dBits,
  List.getElem?_cons_succ, List.getElem?_cons_zero, List.set_cons_succ, List.set_cons_zero, Option.some.injEq, exists_eq_left', exists_eq_left, List.cons.injEq, D.int.injEq, D.bl.injEq, D.str.injEq, D.tup.injEq, D.ref.injEq, D.fls.injEq, and_true, true_and, and_assoc,
  if_true, if_false, Bool.false_eq_true, exists_const, exists_eq', exists_and_left, exists_and_right, List.length_singleton, ite_true, ite_false, Bool.not_true, Bool.not_false, reduceCtorEq, false_and, exists_false, Bool.false_xor, Bool.true_xor,
  ty_non, ty_bl, ty_int, ty_str, ty_tup, kk01, kk02, kk03, kk04, kk05, kk06, kk07, kk08, kk09, kk10, kk11, kk12, kk13, kk14, kk15, kk16, kk17, kk18, kk19, kk20, kk21, kk22, kk23, kk24, kk25, kk26, kk27, kk28, kk29, kk30, kk31, kk32, kk33, kk34, kk35, kk36, kk37, kk38, kk39, kk40, kk41, kk42,
  rI2, DV.rIxD, rAddD, rLenD, rIsiD, rI2C, rEqv, rSlD, rIntD, rStrD, rAbsD, rIsND, rAppD, rPopD, rInsD, rFindD, tyM, dRaise, wxd, dCallX, dFld, rInLD, bad]))
theorem small_div {t b : Int} {B : Nat} (h1 : 0 < b) (h3 : b.natAbs < 2 ^ B) (hB : B ≤ 8000) : CDivW t b := wide_div (b := B + 1) h1 (Nat.lt_of_lt_of_le h3 (Nat.pow_le_pow_right (by decide) (by omega))) (by omega) (by omega)
theorem rd__reduced (ds : List D) (L : LHp) (Q : DK) (E' : XD) (h : sp__reduced ds L Q E') : d__reduced { nx := fun _ L' => Q .non L', rt := Q } (dstart ["value", "top", "bottom", "common"] ds) L := by
  obtain ⟨d, q, rfl, r, hq⟩ := h
  unfold d__reduced
  walk_at "dv"
  cases r with
  | int n hB h0 h1 =>
    walk_at "dv"
    exact ⟨by show 2 ≤ sizeLine; decide, hq⟩
  | pair t b h0 h1 h2 h3 =>
    walk_at "dv"
    have hg := gcd_pos t b h1
    have hd : CDivW t ((Nat.gcd t.natAbs b.natAbs : Nat) : Int) := small_div (B := 8000) hg (Nat.lt_of_le_of_lt (by simpa using gcd_le t b h1) h3) (by omega)
    refine ⟨hd, hd, by show 2 ≤ sizeLine; decide, ?_⟩
    rw [low_num t b h1, low_den t b h1]
    exact hq
theorem len__reduced (ds : List D) (L : LHp) (Q : DK) (E' : XD) (h : sp__reduced ds L Q E') : ds.length = 1 := by obtain ⟨d, q, rfl, _⟩ := h; rfl
theorem mulW {i j : Int} {A B : Nat} (ha : i.natAbs < 2 ^ A) (hb : j.natAbs < 2 ^ B) (h : A + B ≤ 900000) : CMulU i j := .inl (wide_mul (a := A + 1) (b := B + 1) (Nat.lt_of_lt_of_le ha (Nat.pow_le_pow_right (by decide) (by omega))) (Nat.lt_of_lt_of_le hb (Nat.pow_le_pow_right (by decide) (by omega))) (by omega) (by omega) (by omega))
theorem mul_lt {i j : Int} {A B : Nat} (ha : i.natAbs < 2 ^ A) (hb : j.natAbs < 2 ^ B) : (i * j).natAbs < 2 ^ (A + B) := wide_lt ha hb
theorem sub_lt {i j : Int} {B : Nat} (ha : i.natAbs < 2 ^ B) (hb : j.natAbs < 2 ^ B) : (i - j).natAbs < 2 ^ (B + 1) := by rw [Nat.pow_succ]; omega
theorem add_lt {i j : Int} {B : Nat} (ha : i.natAbs < 2 ^ B) (hb : j.natAbs < 2 ^ B) : (i + j).natAbs < 2 ^ (B + 1) := by rw [Nat.pow_succ]; omega
theorem num_pos {q : Rat} (h0 : 0 ≤ q) (h : q ≠ 0) : 0 < q.num := by
  have h1 := Rat.num_nonneg.mpr h0
  have h2 : q.num ≠ 0 := fun e => h (Rat.num_eq_zero.mp e)
  omega
theorem div_cross {p q : Rat} (hq : 0 < q.num) : ((p.num * (q.den : Int) : Int) : Rat) / (((p.den : Int) * q.num : Int) : Rat) = p / q := by
  have hp := ne0 (den_pos p)
  have hd := ne0 (den_pos q)
  have hn := ne0 hq
  have ep := div_self p
  have eq := div_self q
  rw [Rat.intCast_mul, Rat.intCast_mul]
  conv => rhs; rw [← ep, ← eq]
  grind
theorem mul_frac {a b c d : Int} (hb : 0 < b) (hd : 0 < d) : ((a * c : Int) : Rat) / ((b * d : Int) : Rat) = (a : Rat) / (b : Rat) * ((c : Rat) / (d : Rat)) := by
  have n1 := ne0 hb
  have n2 := ne0 hd
  rw [Rat.intCast_mul, Rat.intCast_mul]
  grind
theorem mul_raw {B C : Nat} {p q : Rat} (hp : Bd B p) (hq : Bd C q) : Raw (B + C) (.tup [.int (p.num * q.num), .int ((p.den : Int) * (q.den : Int))]) (p * q) := by
  have e := mul_frac (a := p.num) (c := q.num) (den_pos p) (den_pos q)
  rw [div_self, div_self] at e
  rw [← e]
  exact .pair _ _ (Int.mul_nonneg hp.num0 hq.num0) (Int.mul_pos (den_pos p) (den_pos q)) (mul_lt hp.top hq.top) (mul_lt hp.botI hq.botI)
theorem bd_one : Bd 1 1 := ⟨by decide, by decide, by decide⟩
theorem raw_isF {B : Nat} {d : D} {q : Rat} (h : Raw B d q) : isF d = true := by
  cases h with
  | int n hB h0 h1 => exact decide_eq_true h0
  | pair t b h0 h1 h2 h3 =>
    show (decide (0 ≤ t) && decide (1 ≤ b)) = true
    rw [decide_eq_true h0, decide_eq_true (show 1 ≤ b by omega)]
    rfl
theorem raw_kn {B : Nat} {d : D} {q : Rat} {L : LHp} (h : Raw B d q) : Kn L d := by
  cases h with
  | int n hB h0 h1 => exact ⟨⟨_, rfl⟩, fun ds e => by cases e⟩
  | pair t b h0 h1 h2 h3 =>
    refine ⟨⟨_, rfl⟩, fun ds e x hx => ?_⟩
    cases e
    simp only [List.mem_cons, List.not_mem_nil, or_false] at hx
    rcases hx with rfl | rfl <;> exact ⟨_, rfl⟩
theorem kn_one {L : LHp} {d : D} (h : Kn L d) : ∀ v ∈ [d], Kn L v := by simpa using h
theorem kn_two {L : LHp} {a b : D} (ha : Kn L a) (hb : Kn L b) : ∀ v ∈ [a, b], Kn L v := by simpa using ⟨ha, hb⟩
theorem first_one {d : D} (h : isF d = false) : First [d] d := by unfold First; rw [List.find?_cons_of_pos (by rw [h]; rfl)]
theorem rd_lowest (ds : List D) (L : LHp) (Q : DK) (E' : XD) (h : sp_lowest ds L Q E') : d_lowest E' { nx := fun _ L' => Q .non L', rt := Q } (dstart ["value"] ds) L := by
  obtain ⟨d, rfl, hk, hf, hb⟩ := h
  unfold d_lowest
  walk_at "dv"
  exact ⟨by decide, [d], rfl, kn_one hk, .inr ⟨d, first_one hf, hb⟩⟩
theorem len_lowest (ds : List D) (L : LHp) (Q : DK) (E' : XD) (h : sp_lowest ds L Q E') : ds.length = 1 := by obtain ⟨d, rfl, _⟩ := h; rfl
theorem rd_fraction_text (ds : List D) (L : LHp) (Q : DK) (E' : XD) (h : sp_fraction_text ds L Q E') : d_fraction_text E' { nx := fun _ L' => Q .non L', rt := Q } (dstart ["value", "top", "bottom", "bits"] ds) L := by
  obtain ⟨d, rfl, hk, hf, hb⟩ := h
  unfold d_fraction_text
  walk_at "dv"
  exact ⟨by decide, [d], rfl, kn_one hk, .inr ⟨d, first_one hf, hb⟩⟩
theorem len_fraction_text (ds : List D) (L : LHp) (Q : DK) (E' : XD) (h : sp_fraction_text ds L Q E') : ds.length = 1 := by obtain ⟨d, rfl, _⟩ := h; rfl
theorem rd_apart (ds : List D) (L : LHp) (Q : DK) (E' : XD) (h : sp_apart ds L Q E') : d_apart E' { nx := fun _ L' => Q .non L', rt := Q } (dstart ["one", "other", "top", "bottom", "over", "under"] ds) L := by
  obtain ⟨a, b, v, rfl, ka, kb, hf, hb⟩ := h
  unfold d_apart
  walk_at "dv"
  exact ⟨by decide, [a, b], rfl, kn_two ka kb, .inr ⟨v, hf, hb⟩⟩
theorem len_apart (ds : List D) (L : LHp) (Q : DK) (E' : XD) (h : sp_apart ds L Q E') : ds.length = 2 := by obtain ⟨a, b, v, rfl, _⟩ := h; rfl
theorem rd_is_less (ds : List D) (L : LHp) (Q : DK) (E' : XD) (h : sp_is_less ds L Q E') : d_is_less E' { nx := fun _ L' => Q .non L', rt := Q } (dstart ["one", "other", "top", "bottom", "over", "under"] ds) L := by
  obtain ⟨a, b, v, rfl, ka, kb, hf, hb⟩ := h
  unfold d_is_less
  walk_at "dv"
  exact ⟨by decide, [a, b], rfl, kn_two ka kb, .inr ⟨v, hf, hb⟩⟩
theorem len_is_less (ds : List D) (L : LHp) (Q : DK) (E' : XD) (h : sp_is_less ds L Q E') : ds.length = 2 := by obtain ⟨a, b, v, rfl, _⟩ := h; rfl
theorem rd_plus (ds : List D) (L : LHp) (Q : DK) (E' : XD) (h : spi_plus ds L Q E') : d_plus E' { nx := fun _ L' => Q .non L', rt := Q } (dstart ["fractions", "top", "bottom", "value", "over", "under", "common"] ds) L := by
  obtain ⟨vs, v, rfl, hk, hf, hb⟩ := h
  unfold d_plus
  walk_at "dv"
  exact ⟨vs, rfl, hk, .inr ⟨v, hf, hb⟩⟩
theorem two_ok {a b : D} {B C : Nat} {p q : Rat} (ra : Raw B a p) (rb : Raw C b q) : ∀ v ∈ [a, b], isF v = true := by simpa using ⟨raw_isF ra, raw_isF rb⟩
theorem rd_quotient (ds : List D) (L : LHp) (Q : DK) (E' : XD) (h : sp_quotient ds L Q E') : d_quotient E' { nx := fun _ L' => Q .non L', rt := Q } (dstart ["one", "other", "top", "bottom", "over", "under"] ds) L := by
  rcases h with ⟨a, b, v, rfl, ka, kb, hf, hb⟩ | ⟨a, b, p, rfl, ra, rb, hb⟩ | ⟨a, b, B, C, p, q, rfl, ra, rb, hB, h0, hQ⟩
  · unfold d_quotient
    walk_at "dv"
    exact ⟨by decide, [a, b], rfl, kn_two ka kb, .inr ⟨v, hf, hb⟩⟩
  · unfold d_quotient
    walk_at "dv"
    refine ⟨by decide, [a, b], rfl, kn_two (raw_kn ra) (raw_kn rb), .inl ⟨two_ok ra rb, ?_⟩⟩
    walk_at "dv"
    refine ⟨a, p, rfl, ra, ?_⟩
    unfold fr
    walk_at "dv"
    refine ⟨b, 0, rfl, rb, ?_⟩
    unfold fr
    walk_at "dv"
    exact iteT hb
  · have hp := ra.bd
    have hq := rb.bd
    have hn := num_pos hq.nn h0
    unfold d_quotient
    walk_at "dv"
    refine ⟨by decide, [a, b], rfl, kn_two (raw_kn ra) (raw_kn rb), .inl ⟨two_ok ra rb, ?_⟩⟩
    walk_at "dv"
    refine ⟨a, p, rfl, ra.mono (by omega), ?_⟩
    unfold fr
    walk_at "dv"
    refine ⟨b, q, rfl, rb.mono (by omega), ?_⟩
    unfold fr
    walk_at "dv"
    rw [decide_eq_false (show ¬ q.num = 0 by omega)]
    refine iteF ⟨mulW hp.top hq.botI (by omega), mulW hp.botI hq.top (by omega), by decide, ?_⟩
    refine ⟨_, _, rfl, ?_, hQ⟩
    rw [← div_cross hn]
    have e2 : 2 ^ (B + C) ≤ 2 ^ 8000 := Nat.pow_le_pow_right (by decide) (by omega)
    exact .pair _ _ (Int.mul_nonneg hp.num0 (by omega)) (Int.mul_pos (den_pos p) hn) (Nat.lt_of_lt_of_le (mul_lt hp.top hq.botI) e2) (Nat.lt_of_lt_of_le (mul_lt hp.botI hq.top) e2)
theorem len_quotient (ds : List D) (L : LHp) (Q : DK) (E' : XD) (h : sp_quotient ds L Q E') : ds.length = 2 := by
  rcases h with ⟨a, b, v, rfl, _⟩ | ⟨a, b, p, rfl, _⟩ | ⟨a, b, B, C, p, q, rfl, _⟩ <;> rfl
end K01
namespace K01
open PySem PySem.Spec PyProof.Rows L2 DV FR
local macro_rules | `(tactic| walk_at "dv") => `(tactic| (simp only [dstart, List.map_cons, List.map_nil, List.length_cons, List.length_nil, Nat.reduceAdd, Nat.reduceSub, List.reduceReplicate, List.cons_append, List.nil_append, List.append_nil,
  dSeq, dNext, dSet, dRet, dRetN, dDrop, dAsg, dgName, dgTup, dgCons, dgNil, dgSub, dPar, dIfS, dVar, dC, dOp, dCons, dNil, dCB, dB, dAnd, dOr, dNot, dAndV, dOrV, dNotV, dIf, dTup, dLst, dCall, dBM, dSl, dNoPart, dPart, dFmt, dBits,
  List.getElem?_cons_succ, List.getElem?_cons_zero, List.set_cons_succ, List.set_cons_zero, Option.some.injEq, exists_eq_left', exists_eq_left, List.cons.injEq, D.int.injEq, D.bl.injEq, D.str.injEq, D.tup.injEq, D.ref.injEq, D.fls.injEq, and_true, true_and, and_assoc,
  if_true, if_false, Bool.false_eq_true, exists_const, exists_eq', exists_and_left, exists_and_right, List.length_singleton, ite_true, ite_false, Bool.not_true, Bool.not_false, reduceCtorEq, false_and, exists_false, Bool.false_xor, Bool.true_xor,
  ty_non, ty_bl, ty_int, ty_str, ty_tup, kk01, kk02, kk03, kk04, kk05, kk06, kk07, kk08, kk09, kk10, kk11, kk12, kk13, kk14, kk15, kk16, kk17, kk18, kk19, kk20, kk21, kk22, kk23, kk24, kk25, kk26, kk27, kk28, kk29, kk30, kk31, kk32, kk33, kk34, kk35, kk36, kk37, kk38, kk39, kk40, kk41, kk42,
  rI2, DV.rIxD, rAddD, rLenD, rIsiD, rI2C, rEqv, rSlD, rIntD, rStrD, rAbsD, rIsND, rAppD, rPopD, rInsD, rFindD, tyM, dRaise, wxd, dCallX, dFld, rInLD, bad]))
theorem rd_times (ds : List D) (L : LHp) (Q : DK) (E' : XD) (h : spi_times ds L Q E') : d_times E' { nx := fun _ L' => Q .non L', rt := Q } (dstart ["fractions", "product", "value", "over", "under"] ds) L := by
  rcases h with ⟨vs, v, rfl, hk, hf, hb⟩ | ⟨a, b, B, C, p, q, rfl, ra, rb, hB, hQ⟩
  · unfold d_times
    walk_at "dv"
    exact ⟨vs, rfl, hk, .inr ⟨v, hf, hb⟩⟩
  · unfold d_times dForT
    walk_at "dv"
    refine ⟨[a, b], rfl, kn_two (raw_kn ra) (raw_kn rb), .inl ⟨two_ok ra rb, ?_⟩⟩
    walk_at "dv"
    have hp := ra.bd
    have hq := rb.bd
    refine ⟨by decide, fun i τ L' => L' = L ∧ ∃ m y3 y4 y5, τ = [some (.tup [a, b]), some (fr m), y3, y4, y5] ∧ ((i = 0 ∧ m = 1) ∨ (i = 1 ∧ m = p) ∨ i = 2 ∧ m = p * q), ⟨rfl, 1, _, _, _, rfl, .inl ⟨rfl, rfl⟩⟩, fun i d τ' L' hd ⟨e, m, y3, y4, y5, ey, hm⟩ => ?_, fun τ' L' ⟨e, m, y3, y4, y5, ey, hm⟩ => ?_⟩
    · subst e ey
      rcases hm with ⟨rfl, rfl⟩ | ⟨rfl, rfl⟩ | ⟨rfl, rfl⟩
      · cases hd
        walk_at "dv"
        refine ⟨_, p, rfl, ra.mono (by omega), ?_⟩
        unfold fr
        walk_at "dv"
        have hx := mul_raw bd_one hp
        refine ⟨_, rfl, mulW bd_one.top hp.top (by omega), _, rfl, mulW bd_one.botI hp.botI (by omega), by decide, _, _, rfl, hx.mono (by omega), ?_⟩
        exact ⟨rfl, 1 * p, rfl, .inr (.inl (Rat.one_mul _))⟩
      · cases hd
        walk_at "dv"
        refine ⟨_, q, rfl, rb.mono (by omega), ?_⟩
        unfold fr
        walk_at "dv"
        have hx := mul_raw hp hq
        refine ⟨_, rfl, mulW hp.top hq.top (by omega), _, rfl, mulW hp.botI hq.botI (by omega), by decide, _, _, rfl, hx.mono (by omega), ?_⟩
        exact ⟨rfl, _, rfl, by simp⟩
      · cases hd
    · subst e ey
      walk_at "dv"
      rcases hm with ⟨h, _⟩ | ⟨h, _⟩ | ⟨_, rfl⟩
      · cases h
      · cases h
      · exact hQ
theorem pow_bits {b : Int} {B n : Nat} (h : b.natAbs < 2 ^ B) (hn : 0 < n) : (b ^ n).natAbs < 2 ^ (B * n) := by
  rw [Int.natAbs_pow, Nat.pow_mul]
  exact Nat.pow_lt_pow_left h (by omega)
theorem bit_low (n : Nat) : Builtin.bitAnd (n : Int) 1 = ((n % 2 : Nat) : Int) := by
  have h := Bits.bitAnd_mask (x := (n : Int)) 1 (by omega)
  simpa using h
theorem rd__power (ds : List D) (L : LHp) (Q : DK) (E' : XD) (h : sp__power ds L Q E') : d__power { nx := fun _ L' => Q .non L', rt := Q } (dstart ["base", "n", "result", "square", "left"] ds) L := by
  obtain ⟨b, n, B, rfl, h0, hB, hn, hs, hQ⟩ := h
  unfold d__power dWhile
  walk_at "dv"
  by_cases h2 : b < 2
  · rw [decide_eq_true h2]
    refine iteT ?_
    have hb : b = 0 ∨ b = 1 := by omega
    by_cases h3 : 0 < (n : Int)
    · rw [decide_eq_true h3]
      refine iteT ?_
      rcases hb with rfl | rfl
      · rw [Int.zero_pow (show n ≠ 0 by omega)] at hQ; exact hQ
      · rw [Int.one_pow] at hQ; exact hQ
    · rw [decide_eq_false h3]
      refine iteF ?_
      have e : n = 0 := by omega
      subst e
      rw [Int.pow_zero] at hQ
      exact hQ
  · rw [decide_eq_false h2]
    refine iteF ?_
    have bits : ∀ e, e ≤ n → (b ^ e).natAbs < 2 ^ (B * e + 1) ∧ B * e ≤ 8000 := fun e he => by
      refine ⟨?_, Nat.le_trans (Nat.mul_le_mul_left _ he) hs⟩
      rw [Int.natAbs_pow, Nat.pow_succ, Nat.pow_mul]
      have h1 : b.natAbs ^ e ≤ (2 ^ B) ^ e := Nat.pow_le_pow_left (Nat.le_of_lt hB) e
      have h2 : 0 < (2 ^ B) ^ e := Nat.pow_pos (Nat.two_pow_pos B)
      omega
    have mulOk : ∀ e m, e ≤ n → m ≤ n → CMulU (b ^ e) (b ^ m) := fun e m he hm => mulW (bits e he).1 (bits m hm).1 (by have := (bits e he).2; have := (bits m hm).2; omega)
    refine ⟨fun k τ L' => L' = L ∧ ∃ e m l : Nat, τ = [some (.int b), some (.int n), some (.int (b ^ e)), some (.int (b ^ m)), some (.int l)] ∧ e + m * l = n ∧ k = l, ⟨n, rfl, 0, 1, n, by simp [Int.pow_succ], by omega, rfl⟩, fun k τ L' ⟨e1, e, m, l, ey, hl, hk⟩ => ?_⟩
    subst e1 ey hk
    walk_at "dv"
    by_cases hz : 0 < (k : Int)
    · rw [decide_eq_true hz]
      refine iteT ?_
      have hmk : m ≤ m * k := Nat.le_mul_of_pos_right m (by omega)
      refine ⟨fun τ L2 => L2 = L' ∧ ∃ e m l : Nat, τ = [some (.int b), some (.int n), some (.int (b ^ e)), some (.int (b ^ m)), some (.int l)] ∧ e + m * l = n ∧ l = k / 2, fun τ' L2 ⟨e1, e, m, l, ey, hl, hk⟩ => ⟨l, by omega, e1, e, m, l, ey, hl, rfl⟩, ?_⟩
      have hdm : k = 2 * (k / 2) + k % 2 := by omega
      have half : ((k : Int)) / 2 ^ (1 : Int).toNat = ((k / 2 : Nat) : Int) := by
        rw [show (2 : Int) ^ (1 : Int).toNat = 2 by rfl]; omega
      walk_at "dv"
      rw [bit_low, half]
      have sq : 0 < ((k / 2 : Nat) : Int) → CMulU (b ^ m) (b ^ m) := fun h => by
        have h4 : m * 2 ≤ m * k := Nat.mul_le_mul_left m (by omega)
        exact mulOk m m (by omega) (by omega)
      have hl2 : e + m * (k % 2) + m * (2 * (k / 2)) = n := by
        rw [← hl, Nat.add_assoc, ← Nat.mul_add]
        congr 2
        omega
      have h5 : (m + m) * (k / 2) = m * (2 * (k / 2)) := by rw [← Nat.mul_two, Nat.mul_assoc]
      have fin : ∀ (e1 : Nat) (r : Int), r = b ^ e1 → e1 + m * (2 * (k / 2)) = n → (0 : Int) ≤ 1 ∧ (if decide (0 < ((k / 2 : Nat) : Int)) = true then CMulU (b ^ m) (b ^ m) ∧ ∃ e_1, r = b ^ e_1 ∧ ∃ x, b ^ m * b ^ m = b ^ x ∧ ∃ x_1 : Nat, ((k / 2 : Nat) : Int) = (x_1 : Int) ∧ e_1 + x * x_1 = n ∧ x_1 = k / 2
          else ∃ e_1, r = b ^ e_1 ∧ ∃ x, b ^ m = b ^ x ∧ ∃ x_1 : Nat, ((k / 2 : Nat) : Int) = (x_1 : Int) ∧ e_1 + x * x_1 = n ∧ x_1 = k / 2) := fun e1 r hr he => by
        refine ⟨by decide, ?_⟩
        by_cases h6 : 0 < ((k / 2 : Nat) : Int)
        · rw [decide_eq_true h6]
          exact iteT ⟨sq h6, e1, hr, m + m, (Int.pow_add b m m).symm, k / 2, rfl, by rw [h5]; exact he, rfl⟩
        · rw [decide_eq_false h6]
          have h7 : k / 2 = 0 := by omega
          exact iteF ⟨e1, hr, m, rfl, k / 2, rfl, by rw [h7] at he ⊢; exact he, rfl⟩
      by_cases h8 : ((k % 2 : Nat) : Int) = 1
      · rw [decide_eq_true h8]
        have h9 : k % 2 = 1 := by omega
        rw [h9, Nat.mul_one] at hl2
        exact iteT ⟨mulOk e m (by omega) (by omega), fin (e + m) _ (Int.pow_add b e m).symm hl2⟩
      · rw [decide_eq_false h8]
        have h9 : k % 2 = 0 := by omega
        rw [h9, Nat.mul_zero, Nat.add_zero] at hl2
        exact iteF (fin e _ rfl hl2)
    · rw [decide_eq_false hz]
      refine iteF ?_
      have e0 : k = 0 := by omega
      subst e0
      have : e = n := by omega
      subst this
      exact hQ
theorem len__power (ds : List D) (L : LHp) (Q : DK) (E' : XD) (h : sp__power ds L Q E') : ds.length = 2 := by obtain ⟨b, n, B, rfl, _⟩ := h; rfl
theorem rat_pow_num (q : Rat) : ∀ n : Nat, (q ^ n).num = q.num ^ n ∧ (q ^ n).den = q.den ^ n := fun n => ⟨Rat.num_pow q n, Rat.den_pow q n⟩
theorem isC_int {n : Nat} : isC (.int n) = true := decide_eq_true (Int.natCast_nonneg n)
theorem rd_raised (ds : List D) (L : LHp) (Q : DK) (E' : XD) (h : sp_raised ds L Q E') : d_raised E' { nx := fun _ L' => Q .non L', rt := Q } (dstart ["one", "n", "top", "bottom"] ds) L := by
  obtain ⟨a, m, rfl, ka, h⟩ := h
  unfold d_raised
  walk_at "dv"
  refine ⟨by decide, [a], rfl, kn_one ka, ?_⟩
  rcases h with ⟨hf, hb⟩ | ⟨hf, ⟨t, ht⟩, hc, hb⟩ | ⟨B, n, q, ra, rfl, hn, hB, hs, hQ⟩
  · exact .inr ⟨a, first_one hf, hb⟩
  · refine .inl ⟨by simpa using hf, ?_⟩
    walk_at "dv"
    refine ⟨m, t, rfl, ht, ?_⟩
    cases m with
    | int i =>
      unfold isI
      walk_at "dv"
      have hi : i < 0 := by
        have := of_decide_eq_false (show decide (0 ≤ i) = false from hc)
        omega
      rw [decide_eq_true hi]
      exact iteT hb
    | _ => exact ⟨_, rfl, iteT hb⟩
  · refine .inl ⟨by simpa using raw_isF ra, ?_⟩
    walk_at "dv"
    refine ⟨_, _, rfl, rfl, ?_⟩
    unfold isI
    walk_at "dv"
    rw [decide_eq_false (show ¬ (n : Int) < 0 by omega)]
    have hp := ra.bd
    refine iteF ⟨a, q, rfl, ra.mono hB, ?_⟩
    unfold fr
    walk_at "dv"
    refine ⟨q.num, n, B, rfl, hp.num0, hp.top, hn, hs, ?_⟩
    refine ⟨(q.den : Int), n, B, rfl, by omega, hp.botI, hn, hs, ?_⟩
    refine ⟨by decide, ?_⟩
    unfold fr at hQ
    rw [(rat_pow_num q n).1, (rat_pow_num q n).2] at hQ
    rw [Int.natCast_pow] at hQ
    exact hQ
theorem len_raised (ds : List D) (L : LHp) (Q : DK) (E' : XD) (h : sp_raised ds L Q E') : ds.length = 2 := by obtain ⟨b, n, rfl, _⟩ := h; rfl
end K01
namespace K01
open PySem PySem.Spec PyProof.Rows L2 DV FR
local macro_rules | `(tactic| walk_at "dv") => `(tactic| (simp only [dstart, List.map_cons, List.map_nil, List.length_cons, List.length_nil, Nat.reduceAdd, Nat.reduceSub, List.reduceReplicate, List.cons_append, List.nil_append, List.append_nil,
  dSeq, dNext, dSet, dRet, dRetN, dDrop, dAsg, dgName, dgTup, dgCons, dgNil, dgSub, dPar, dIfS, dVar, dC, dOp, dCons, dNil, dCB, dB, dAnd, dOr, dNot, dAndV, dOrV, dNotV, dIf, dTup, dLst, dCall, dBM, dSl, dNoPart, dPart, dFmt, dBits,
  List.getElem?_cons_succ, List.getElem?_cons_zero, List.set_cons_succ, List.set_cons_zero, Option.some.injEq, exists_eq_left', exists_eq_left, List.cons.injEq, D.int.injEq, D.bl.injEq, D.str.injEq, D.tup.injEq, D.ref.injEq, D.fls.injEq, and_true, true_and, and_assoc,
  if_true, if_false, Bool.false_eq_true, exists_const, exists_eq', exists_and_left, exists_and_right, List.length_singleton, ite_true, ite_false, Bool.not_true, Bool.not_false, reduceCtorEq, false_and, exists_false, Bool.false_xor, Bool.true_xor,
  ty_non, ty_bl, ty_int, ty_str, ty_tup, kk01, kk02, kk03, kk04, kk05, kk06, kk07, kk08, kk09, kk10, kk11, kk12, kk13, kk14, kk15, kk16, kk17, kk18, kk19, kk20, kk21, kk22, kk23, kk24, kk25, kk26, kk27, kk28, kk29, kk30, kk31, kk32, kk33, kk34, kk35, kk36, kk37, kk38, kk39, kk40, kk41, kk42,
  rI2, DV.rIxD, rAddD, rLenD, rIsiD, rI2C, rEqv, rSlD, rIntD, rStrD, rAbsD, rIsND, rAppD, rPopD, rInsD, rFindD, tyM, dRaise, wxd, dCallX, dFld, rInLD, bad]))
theorem gcd_emod {a b : Int} (ha : 0 ≤ a) (hb : 0 < b) : Nat.gcd b.natAbs (a % b).natAbs = Nat.gcd a.natAbs b.natAbs := by
  obtain ⟨n, rfl⟩ := Int.eq_ofNat_of_zero_le ha
  obtain ⟨m, rfl⟩ := Int.eq_ofNat_of_zero_le (Int.le_of_lt hb)
  rw [← Int.natCast_emod, Int.natAbs_natCast, Int.natAbs_natCast, Int.natAbs_natCast, Nat.gcd_comm n m, Nat.gcd_rec m n, Nat.gcd_comm]
theorem rd__law_gcd (ds : List D) (L : LHp) (Q : DK) (E : XD) (h : sp__law_gcd ds L Q E) : d__law_gcd { nx := fun _ L' => Q .non L', rt := Q } (dstart ["one", "other"] ds) L := by
  obtain ⟨a, b, rfl, ha, hb, hQ⟩ := h
  unfold d__law_gcd dWhile
  walk_at "dv"
  refine ⟨fun k τ L' => L' = L ∧ ∃ x y : Int, τ = [some (.int x), some (.int y)] ∧ 0 ≤ x ∧ 0 ≤ y ∧ Nat.gcd x.natAbs y.natAbs = Nat.gcd a.natAbs b.natAbs ∧ k = y.toNat, ⟨_, rfl, a, b, rfl, ha, hb, rfl, rfl⟩, fun k τ L' ⟨e, x, y, ey, hx, hy, hg, hk⟩ => ?_⟩
  subst e ey
  walk_at "dv"
  by_cases h0 : y = 0
  · rw [decide_eq_true h0]
    refine iteF ?_
    subst h0
    rw [show Nat.gcd a.natAbs b.natAbs = x.natAbs by rw [← hg]; simp] at hQ
    rw [Int.natAbs_of_nonneg hx] at hQ
    exact hQ
  · rw [decide_eq_false h0]
    have hp : 0 < y := by omega
    refine iteT ⟨fun τ L2 => L2 = L' ∧ τ = [some (.int y), some (.int (x % y))], fun τ' L2 ⟨e1, e2⟩ => ?_, hp, rfl, rfl⟩
    subst e1 e2
    have h1 := Int.emod_nonneg x h0
    have h2 := Int.emod_lt_of_pos x hp
    exact ⟨(x % y).toNat, by omega, rfl, y, x % y, rfl, hy, h1, by rw [gcd_emod hx hp, hg], rfl⟩
theorem len__law_gcd (ds : List D) (L : LHp) (Q : DK) (E : XD) (h : sp__law_gcd ds L Q E) : ds.length = 2 := by obtain ⟨n, q, rfl, _⟩ := h; rfl
theorem rd__law_pair (ds : List D) (L : LHp) (Q : DK) (E : XD) (h : sp__law_pair ds L Q E) : d__law_pair { nx := fun _ L' => Q .non L', rt := Q } (dstart ["top", "low", "by"] ds) L := by
  obtain ⟨t, b, rfl, h0, h1, h3, hQ⟩ := h
  unfold d__law_pair
  walk_at "dv"
  refine ⟨t, b, rfl, h0, by omega, ?_⟩
  have hg := gcd_pos t b h1
  have hd : ∀ z, CDivW z ((Nat.gcd t.natAbs b.natAbs : Nat) : Int) := fun z => small_div (B := 8000) hg (Nat.lt_of_le_of_lt (by simpa using gcd_le t b h1) h3) (by omega)
  walk_at "dv"
  refine ⟨hd _, hd _, by decide, ?_⟩
  rw [low_num t b h1, low_den t b h1]
  exact hQ
theorem len__law_pair (ds : List D) (L : LHp) (Q : DK) (E : XD) (h : sp__law_pair ds L Q E) : ds.length = 2 := by obtain ⟨n, q, rfl, _⟩ := h; rfl
theorem ix2a {x y : D} {d : D} {L : LHp} {Q : DK} (h : Q x L) : DV.rIxD (.tup [x, y]) (.int 0) L Q := ⟨x, at_gen (j := 0) rfl rfl, h⟩
theorem ix2b {x y : D} {d : D} {L : LHp} {Q : DK} (h : Q y L) : DV.rIxD (.tup [x, y]) (.int 1) L Q := ⟨y, at_gen (j := 1) rfl rfl, h⟩
theorem at0 (x y : D) : atI [x, y] (0 : Int) = some x := at_gen (j := 0) rfl rfl
theorem at1 (x y : D) : atI [x, y] (1 : Int) = some y := at_gen (j := 1) rfl rfl
local macro_rules | `(tactic| walk_at "dw") => `(tactic| simp only [at0, at1, Option.some.injEq, exists_eq_left', exists_eq_left, and_true, true_and, and_assoc, exists_eq', exists_and_left, exists_and_right])
theorem BagOk.gr {L L' : LHp} {b c : Addr} (h : BagOk L b c) (g : Gr L L') : BagOk L' b c := by
  obtain ⟨cells, p, r, k, m, n, h1, h2, h3⟩ := h.ex
  exact ⟨cells, p, r, k, m, n, g _ _ h1, g _ _ h2, h3⟩
theorem Dr.refl {L : LHp} {b c : Addr} (h : BagOk L b c) : Dr b c L L := ⟨h, fun _ _ _ e => e⟩
theorem Dr.trans {L L1 L2 : LHp} {b c : Addr} (a : Dr b c L L1) (d : Dr b c L1 L2) : Dr b c L L2 := ⟨d.ok, fun x o n e => d.kp x o n (a.kp x o n e)⟩
theorem Dr.gr {L L1 L2 : LHp} {b c : Addr} (a : Dr b c L L1) (g : Gr L1 L2) : Dr b c L L2 := ⟨a.ok.gr g, fun x o n e => g x o (a.kp x o n e)⟩
theorem Dr.gr' {L L1 L2 : LHp} {b c : Addr} (g : Gr L L1) (a : Dr b c L1 L2) : Dr b c L L2 := ⟨a.ok, fun x o n e => a.kp x o n (g x o e)⟩
theorem Dr.rd {L L' : LHp} {b c t : Addr} {xs : List D} (a : Dr b c L L') (n : t ≠ b) (h : LRd L t xs) : LRd L' t xs := by
  rcases h with h | h
  · exact .inl (a.kp _ _ n h)
  · exact .inr (a.kp _ _ n h)
theorem BagOk.isS {L : LHp} {b c : Addr} (h : BagOk L b c) : L b ≠ none := by
  obtain ⟨cells, p, r, k, m, n, h1, _⟩ := h.ex
  rw [h1]
  exact fun z => by cases z
theorem BagOk.ne {L : LHp} {b c p : Addr} (h : BagOk L b c) (e : L p = none) : p ≠ b := fun z => h.isS (by rw [← z]; exact e)
theorem BagOk.isC {L : LHp} {b c : Addr} (h : BagOk L b c) : L c ≠ none := by
  obtain ⟨cells, p, r, k, m, n, h1, h2, _⟩ := h.ex
  rw [h2]
  exact fun z => by cases z
theorem BagOk.nc {L : LHp} {b c p : Addr} (h : BagOk L b c) (e : L p = none) : p ≠ c := fun z => h.isC (by rw [← z]; exact e)
theorem BagOk.upd {L : LHp} {b c p : Addr} {o : LO} (h : BagOk L b c) (n1 : p ≠ b) (n2 : p ≠ c) : BagOk (lupd L p o) b c := by
  obtain ⟨cells, q, r, k, m, n, h1, h2, h3⟩ := h.ex
  exact ⟨cells, q, r, k, m, n, by rw [lupd_ne (Ne.symm n1)]; exact h1, by rw [lupd_ne (Ne.symm n2)]; exact h2, h3⟩
theorem BagOk.put {L : LHp} {b c : Addr} {cells : List Int} {p : Nat} {r k m n : Int} (hc : L c = some (.lst (cells.map .int))) (ne : c ≠ b) (h0 : 0 ≤ r) (h1 : 0 ≤ m ∧ m < 2147483399) (h2 : 0 ≤ n) (hl : cells.length ≤ 63) :
    BagOk (lupd L b (.lst [.ref c, .int p, .int r, .int k, .int m, .int n])) b c := ⟨cells, p, r, k, m, n, lupd_same, by rw [lupd_ne ne]; exact hc, h0, h1, h2, hl⟩
theorem bagC {L : LHp} {b c : Addr} {cells : List Int} {x y z u v : D} (h1 : L b = some (.lst [.ref c, x, y, z, u, v])) (h2 : L c = some (.lst (cells.map .int))) : c ≠ b := fun e => by
  rw [e, h1] at h2
  cases cells with
  | nil => simp at h2
  | cons a r => simp at h2
local macro_rules | `(tactic| walk_at "bx") => `(tactic| ((first | refine ⟨?ds, Or.inl ?h1, ?x, ?h2, ?h3⟩ | refine ⟨?ds, ?h1, ?x, ?h2, ?h3⟩); (case h1 => first | assumption | exact lupd_same); (case h2 => rfl)))
def d_draw2 : DS :=
      (dSeq (dIfS (dB (dOp rGtD (dOp rIxD (dVar 0) (dC (.int 2))) (dC (.int 0))))
      (dSeq (dSet 3 (dOp rModD (dCB rIntD (dCons (dOp rIxD (dVar 0) (dC (.int 2))) dNil)) (dVar 1)))
      (dSeq (dAsg (dOp rSubD (dOp rIxD (dVar 0) (dC (.int 3))) (dC (.int 1))) (dgSub (dVar 0) (dC (.int 3))))
      (dSeq (dAsg (dIf (dB (dOp rGtD (dOp rIxD (dVar 0) (dC (.int 3))) (dC (.int 0)))) (dOp rDivD (dOp rIxD (dVar 0) (dC (.int 2))) (dVar 1)) (dC (.int 0))) (dgSub (dVar 0) (dC (.int 2))))
      (dRet (dVar 3)))))
      dNext)
      (dSeq (dAsg (dOp rModD (dCB rIntD (dCons (dOp rAddD (dOp rAddD (dOp rPowD (dOp rIxD (dVar 0) (dC (.int 4))) (dC (.int 3))) (dOp rMulD (dOp rIxD (dVar 0) (dC (.int 5))) (dC (.int 1000003)))) (dC (.int 4409))) dNil)) (dC (.int 2147483399))) (dgSub (dVar 0) (dC (.int 4))))
      (dRet (dOp rModD (dCB rIntD (dCons (dOp rAddD (dOp rDivD (dOp rIxD (dVar 0) (dC (.int 4))) (dC (.int 127))) (dOp rMulD (dOp rModD (dCB rIntD (dCons (dOp rIxD (dVar 0) (dC (.int 4))) dNil)) (dC (.int 8191))) (dC (.int 67)))) dNil)) (dVar 1)))))

abbrev bg (c : Addr) (p : Nat) (r k m n : Int) : List D := [.ref c, .int p, .int r, .int k, .int m, .int n]
theorem m31 {m : Int} (h : 0 ≤ m ∧ m < 2147483399) : m.natAbs < 2 ^ 64 := by omega
theorem cmulR {i j : Int} (h : -(2 ^ 64) < j ∧ j < 2 ^ 64) : CMulU i j := .inr (.inr h)
theorem modP {i : Int} : 0 ≤ i % 2147483399 ∧ i % 2147483399 < 2147483399 := ⟨Int.emod_nonneg _ (by decide), Int.emod_lt_of_pos _ (by decide)⟩
theorem draw2 {L : LHp} {b c : Addr} {cells : List Int} {p : Nat} {r k m n many : Int} {y2 : Option D} {Q : DK} (hb : L b = some (.lst (bg c p r k m n))) (hc : L c = some (.lst (cells.map .int))) (h0 : 0 ≤ r) (h1 : 0 ≤ m ∧ m < 2147483399) (h2 : 0 ≤ n) (hl : cells.length ≤ 63)
    (hm : 0 < many ∧ many.natAbs < 2 ^ 8000) (hQ : ∀ d L', (0 ≤ d ∧ d < many) → Dr b c L L' → Q (.int d) L') : d_draw2 { nx := fun _ L' => Q .non L', rt := Q } [some (.ref b), some (.int many), y2, none] L := by
  have ne := bagC hb hc
  have hd : CDivW r many := small_div (B := 8000) hm.1 hm.2 (by decide)
  have kp : ∀ p r k m n x, x ≠ b → ∀ o, L x = some o → (lupd L b (.lst (bg c p r k m n))) x = some o := fun p r k m n x hx o e => by rw [lupd_ne hx]; exact e
  unfold d_draw2
  walk_at "dv"
  walk_at "bx"
  walk_at "dv"
  by_cases hr : 0 < r
  · rw [decide_eq_true hr]
    refine iteT ?_
    walk_at "bx"
    walk_at "dv"
    refine ⟨hm.1, ?_⟩
    walk_at "bx"
    walk_at "dv"
    walk_at "bx"
    walk_at "bx"
    walk_at "dv"
    by_cases hk : 0 < k - 1
    · rw [decide_eq_true hk]
      refine iteT ?_
      walk_at "bx"
      refine ⟨hd, ?_⟩
      walk_at "bx"
      rw [lupd_lupd]
      exact hQ _ _ ⟨Int.emod_nonneg _ (by omega), Int.emod_lt_of_pos _ hm.1⟩ ⟨BagOk.put hc ne (Int.ediv_nonneg h0 (by omega)) h1 h2 hl, fun x o hx e => kp _ _ _ _ _ x hx o e⟩
    · rw [decide_eq_false hk]
      refine iteF ?_
      walk_at "bx"
      rw [lupd_lupd]
      exact hQ _ _ ⟨Int.emod_nonneg _ (by omega), Int.emod_lt_of_pos _ hm.1⟩ ⟨BagOk.put hc ne (Int.le_refl 0) h1 h2 hl, fun x o hx e => kp _ _ _ _ _ x hx o e⟩
  · rw [decide_eq_false hr]
    refine iteF ?_
    walk_at "bx"
    walk_at "dv"
    refine ⟨⟨by decide, by decide, m31 h1⟩, ?_⟩
    walk_at "bx"
    walk_at "dv"
    refine ⟨cmulR (by decide), by decide, ?_⟩
    walk_at "bx"
    walk_at "bx"
    walk_at "dv"
    refine ⟨wide_div (b := 8) (by decide) (by decide) (by decide) (by decide), ?_⟩
    walk_at "bx"
    walk_at "dv"
    refine ⟨by decide, cmulR (by decide), hm.1, ?_⟩
    exact hQ _ _ ⟨Int.emod_nonneg _ (by omega), Int.emod_lt_of_pos _ hm.1⟩ ⟨BagOk.put hc ne h0 modP h2 hl, fun x o hx e => kp _ _ _ _ _ x hx o e⟩
theorem cells_at {cells : List Int} {p : Nat} (h : p < cells.length) : atI (cells.map D.int) (p : Int) = some (.int cells[p]) := by
  refine at_gen (j := p) rfl ?_
  rw [List.getElem?_map, List.getElem?_eq_getElem h]
  rfl
theorem rd__law_draw (ds : List D) (L : LHp) (Q : DK) (E : XD) (h : sp__law_draw ds L Q E) : d__law_draw { nx := fun _ L' => Q .non L', rt := Q } (dstart ["bag", "many", "cell", "digit"] ds) L := by
  obtain ⟨b, c, many, rfl, B, hm, hQ⟩ := h
  obtain ⟨cells, p, r, k, m, n, hb, hc, h0, h1, h2, hl⟩ := B.ex
  have ne := bagC hb hc
  have fin : ∀ (p : Nat) (r k m n : Int) (y2 : Option D), 0 ≤ r → (0 ≤ m ∧ m < 2147483399) → 0 ≤ n → d_draw2 { nx := fun _ L' => Q .non L', rt := Q } [some (.ref b), some (.int many), y2, none] (lupd L b (.lst (bg c p r k m n))) := fun p r k m n y2 h0 h1 h2 =>
    draw2 lupd_same (by rw [lupd_ne ne]; exact hc) h0 h1 h2 hl hm fun d L' hd dr => hQ d L' hd ⟨dr.ok, fun x o hx e => dr.kp x o hx (by rw [lupd_ne hx]; exact e)⟩
  unfold d__law_draw
  show dSeq _ (dSeq _ d_draw2) _ _ _
  walk_at "dv"
  walk_at "bx"
  walk_at "dv"
  walk_at "bx"
  walk_at "bx"
  walk_at "dv"
  by_cases hr : r = 0
  · rw [decide_eq_true hr]
    refine iteT ?_
    walk_at "bx"
    walk_at "bx"
    walk_at "dv"
    refine ⟨_, .inl (by rw [lupd_ne ne]; exact hc), ?_⟩
    rw [List.length_map]
    by_cases hp : p < cells.length
    · rw [decide_eq_true (show (p : Int) < (cells.length : Int) by omega)]
      refine iteT ?_
      walk_at "bx"
      walk_at "bx"
      walk_at "dv"
      refine ⟨_, .inl (by rw [lupd_ne ne]; exact hc), _, cells_at hp, ?_⟩
      walk_at "bx"
      walk_at "dv"
      walk_at "bx"
      rw [lupd_lupd]
      refine ⟨⟨by decide, by decide, by decide⟩, ?_⟩
      by_cases hg : (10 : Int) ^ (18 : Int).toNat ≤ cells[p]
      · rw [decide_eq_true hg]
        refine iteT ?_
        walk_at "bx"
        rw [lupd_lupd]
        walk_at "bx"
        rw [lupd_lupd]
        exact fin (p + 1) cells[p] 60 m (n + 1) _ (Int.le_trans (by decide) hg) h1 (by omega)
      · rw [decide_eq_false hg]
        refine iteF ?_
        walk_at "bx"
        walk_at "dv"
        refine ⟨cmulR (by decide), by decide, by decide, ?_⟩
        walk_at "bx"
        rw [lupd_lupd]
        exact fin (p + 1) r k _ (n + 1) _ h0 modP (by omega)
    · rw [decide_eq_false (show ¬ (p : Int) < (cells.length : Int) by omega)]
      exact iteF (fin p r k m (n + 1) _ h0 h1 (by omega))
  · rw [decide_eq_false hr]
    exact iteF (fin p r k m (n + 1) _ h0 h1 (by omega))
theorem len__law_draw (ds : List D) (L : LHp) (Q : DK) (E : XD) (h : sp__law_draw ds L Q E) : ds.length = 2 := by obtain ⟨B, c, n, rfl, _⟩ := h; rfl
theorem rd__law_of (ds : List D) (L : LHp) (Q : DK) (E : XD) (h : sp__law_of ds L Q E) : d__law_of { nx := fun _ L' => Q .non L', rt := Q } (dstart ["bag", "things"] ds) L := by
  obtain ⟨b, c, t, xs, rfl, B, ne, hx, ⟨l0, l1⟩, hQ⟩ := h
  unfold d__law_of
  walk_at "dv"
  refine ⟨xs, hx, b, c, _, rfl, B, ⟨by omega, ?_⟩, fun d L' hd dr => ?_⟩
  · rw [Int.natAbs_natCast]
    exact Nat.lt_of_lt_of_le (show xs.length < 2 ^ 10 by omega) (Nat.pow_le_pow_right (by decide) (by decide))
  · obtain ⟨j, rfl⟩ := Int.eq_ofNat_of_zero_le hd.1
    have hj : j < xs.length := by omega
    walk_at "dv"
    exact ⟨xs, dr.rd ne hx, _, at_gen (j := j) rfl (List.getElem?_eq_getElem hj), hQ _ _ (List.getElem_mem hj) dr⟩
theorem len__law_of (ds : List D) (L : LHp) (Q : DK) (E : XD) (h : sp__law_of ds L Q E) : ds.length = 2 := by obtain ⟨B, c, t, n, rfl, _⟩ := h; rfl
theorem sq_at {j n : Nat} (h : j < n) : seqIndex? (j : Int) n = some j := by
  unfold seqIndex?
  simp
  omega
theorem perm_erase : ∀ {xs : List D} {j : Nat} (h : j < xs.length), (xs[j] :: xs.eraseIdx j).Perm xs
  | a :: xs, 0, _ => by simp
  | a :: xs, j + 1, h => by
    have h' : j < xs.length := by simpa using h
    have := perm_erase h'
    simp only [List.getElem_cons_succ, List.eraseIdx_cons_succ]
    exact (List.Perm.swap a xs[j] _).trans (List.Perm.cons a this)
theorem perm_pop {xs zs : List D} {j : Nat} (h : j < xs.length) : (xs.eraseIdx j ++ (zs ++ [xs[j]])).Perm (xs ++ zs) := by
  have h1 : (xs[j] :: xs.eraseIdx j).Perm xs := perm_erase h
  have h2 : (xs.eraseIdx j ++ (zs ++ [xs[j]])).Perm (xs.eraseIdx j ++ ([xs[j]] ++ zs)) := List.Perm.append_left _ List.perm_append_comm
  refine h2.trans ?_
  rw [← List.append_assoc]
  refine List.Perm.append_right _ ?_
  exact (List.perm_append_comm (l₁ := xs.eraseIdx j) (l₂ := [xs[j]])).trans h1
theorem rd__law_mixed (ds : List D) (L : LHp) (Q : DK) (E : XD) (h : sp__law_mixed ds L Q E) : d__law_mixed { nx := fun _ L' => Q .non L', rt := Q } (dstart ["bag", "things", "left", "found", "turn"] ds) L := by
  obtain ⟨b, c, t, xs, rfl, B, ne, hx, l1, hQ⟩ := h
  unfold d__law_mixed dForR
  walk_at "dv"
  refine ⟨xs, hx, fun p hp => ⟨by decide, fun q hq => ?_⟩⟩
  have npq : q ≠ p := fun e => by rw [e, lupd_same] at hq; cases hq
  have hq' : L q = none := by rw [lupd_ne npq] at hq; exact hq
  have ntp : t ≠ p := fun e => by rw [e] at hx; rcases hx with h | h <;> rw [hp] at h <;> cases h
  have ntq : t ≠ q := fun e => by rw [e] at hx; rcases hx with h | h <;> rw [hq'] at h <;> cases h
  have npb := B.ne hp
  have nqb := B.ne hq'
  have npc := B.nc hp
  have nqc := B.nc hq'
  have g1 : Gr L (lupd L p (.lst xs)) := Gr.new hp
  have g2 : Gr (lupd L p (.lst xs)) (lupd (lupd L p (.lst xs)) q (.lst [])) := Gr.new hq
  refine ⟨xs, ?_, ?_⟩
  · rcases hx with h | h
    · exact .inl (g2 _ _ (g1 _ _ h))
    · exact .inr (g2 _ _ (g1 _ _ h))
  refine ⟨by omega, by omega, fun i τ L' => ∃ (ys zs : List D) (y : Option D), τ = [some (.ref b), some (.ref t), some (.ref p), some (.ref q), y] ∧ L' p = some (.lst ys) ∧ L' q = some (.lst zs) ∧ (ys ++ zs).Perm xs ∧ ys.length + i = xs.length ∧ BagOk L' b c ∧ (∀ a o, a ≠ b → L a = some o → L' a = some o), ⟨xs, [], _, rfl, by rw [lupd_ne (Ne.symm npq), lupd_same], lupd_same, by simp, by omega, (B.gr g1).gr g2, fun a o _ e => g2 _ _ (g1 _ _ e)⟩, fun i τ L' hi ⟨ys, zs, y, ey, e1, e2, pm, hl, ok, kp⟩ => ?_, fun τ L' ⟨ys, zs, y, ey, e1, e2, pm, hl, ok, kp⟩ => ?_⟩
  · subst ey
    have hi' : i < xs.length := by omega
    walk_at "dv"
    refine ⟨⟨_, .inl e2⟩, ⟨_, .inl e1⟩, ys, .inl e1, b, c, _, rfl, ok, ⟨by omega, ?_⟩, fun d L2 hd dr => ?_⟩
    · rw [Int.natAbs_natCast]
      exact Nat.lt_of_lt_of_le (show ys.length < 2 ^ 10 by omega) (Nat.pow_le_pow_right (by decide) (by decide))
    · obtain ⟨j, rfl⟩ := Int.eq_ofNat_of_zero_le hd.1
      have hj : j < ys.length := by omega
      walk_at "dv"
      have f1 := dr.kp _ _ npb e1
      have f2 := dr.kp _ _ nqb e2
      refine ⟨ys, f1, by omega, by omega, j, sq_at hj, _, List.getElem?_eq_getElem hj, zs, by rw [lupd_ne npq]; exact f2, ?_, ys.eraseIdx j, by rw [lupd_ne (Ne.symm npq), lupd_same], _, lupd_same, ?_, ?_, ?_, ?_⟩
      · have : zs.length ≤ xs.length := by rw [← pm.length_eq, List.length_append]; omega
        exact Nat.lt_of_le_of_lt (Nat.le_trans this l1) (by decide)
      · refine List.Perm.trans ?_ pm
        exact perm_pop hj
      · rw [List.length_eraseIdx, if_pos hj]; omega
      · exact (dr.ok.upd npb npc).upd nqb nqc
      · intro a o na e
        have nap : a ≠ p := fun z => by rw [z, hp] at e; cases e
        have naq : a ≠ q := fun z => by rw [z, hq'] at e; cases e
        rw [lupd_ne naq, lupd_ne nap]
        exact dr.kp a o na (kp a o na e)
  · subst ey
    walk_at "dv"
    exact hQ q zs L' hq' (by
      have : ys = [] := List.eq_nil_of_length_eq_zero (by omega)
      rw [this] at pm; exact pm) e2 ⟨ok, kp⟩
theorem len__law_mixed (ds : List D) (L : LHp) (Q : DK) (E : XD) (h : sp__law_mixed ds L Q E) : ds.length = 2 := by obtain ⟨B, c, t, n, rfl, _⟩ := h; rfl
theorem ix_cell {ns : List Int} {i : Nat} (h : i < ns.length) : atI (ns.map D.int) (i : Int) = some (.int ns[i]) := cells_at h
theorem rd__law_bag (ds : List D) (L : LHp) (Q : DK) (E : XD) (h : sp__law_bag ds L Q E) : d__law_bag { nx := fun _ L' => Q .non L', rt := Q } (dstart ["script", "mixed", "at"] ds) L := by
  obtain ⟨ns, rfl, hl, hQ⟩ := h
  have em : (if ((ns.map D.int).length : Int) < 63 then ((ns.map D.int).length : Int) else 63) = (ns.length : Int) := by
    rw [List.length_map]
    split <;> omega
  unfold d__law_bag dForR
  walk_at "dv"
  rw [em]
  refine ⟨by omega, by omega, fun i τ L' => L' = L ∧ ∃ (m : Int) (y : Option D), τ = [some (.fls (ns.map D.int)), some (.int m), y] ∧ 0 ≤ m ∧ m < 2147483399, ⟨rfl, _, _, rfl, by decide, by decide⟩, fun i τ' L' hi ⟨e, m, y, ey, m0, m1⟩ => ?_, fun τ' L' ⟨e, m, y, ey, m0, m1⟩ => ?_⟩
  · subst e ey
    have hi' : i < ns.length := by omega
    walk_at "dv"
    refine ⟨cmulR (by decide), _, ix_cell hi', ?_⟩
    walk_at "dv"
    exact ⟨by decide, cmulR (by omega), by decide, modP.1, modP.2⟩
  · subst e ey
    unfold dLcR
    walk_at "dv"
    rw [em]
    refine ⟨by omega, by omega, fun E hE => ⟨fun i L2 => L2 = lupd L' E (.lst ((ns.take i).map .int)), rfl, fun i L2 hi e => ?_, fun L2 e => ?_⟩⟩
    · subst e
      have hi' : i < ns.length := by omega
      unfold lcTurn dTYes
      refine iteT ?_
      walk_at "dv"
      refine ⟨_, ix_cell hi', ?_⟩
      walk_at "dv"
      refine ⟨_, lupd_same, ?_, ?_⟩
      · rw [List.length_map, List.length_take]
        exact Nat.lt_of_le_of_lt (show min i ns.length ≤ 63 by omega) (by decide)
      · rw [lupd_lupd, take_snoc (List.getElem?_eq_getElem hi'), List.map_append]
        rfl
    · subst e
      refine ⟨by decide, fun p hp => ?_⟩
      have hEp : E ≠ p := fun z => by rw [← z, lupd_same] at hp; cases hp
      have hp' : L' p = none := by rw [lupd_ne (Ne.symm hEp)] at hp; exact hp
      refine hQ p E _ hp' ⟨ns, 0, 0, 0, m, 0, lupd_same, ?_, by decide, ⟨m0, m1⟩, by decide, hl⟩ ((Gr.new hE).trans (Gr.new hp))
      rw [lupd_ne hEp, lupd_same, Int.toNat_natCast, List.take_length]
theorem len__law_bag (ds : List D) (L : LHp) (Q : DK) (E : XD) (h : sp__law_bag ds L Q E) : ds.length = 1 := by obtain ⟨B, rfl, _⟩ := h; rfl
end K01
namespace K01
open PySem PySem.Spec PyProof.Rows L2 DV FR
local macro_rules | `(tactic| walk_at "dv") => `(tactic| (simp only [dstart, List.map_cons, List.map_nil, List.length_cons, List.length_nil, Nat.reduceAdd, Nat.reduceSub, List.reduceReplicate, List.cons_append, List.nil_append, List.append_nil,
  dSeq, dNext, dSet, dRet, dRetN, dDrop, dAsg, dgName, dgTup, dgCons, dgNil, dgSub, dPar, dIfS, dVar, dC, dOp, dCons, dNil, dCB, dB, dAnd, dOr, dNot, dAndV, dOrV, dNotV, dIf, dTup, dLst, dCall, dBM, dSl, dNoPart, dPart, dFmt, dBits,
  List.getElem?_cons_succ, List.getElem?_cons_zero, List.set_cons_succ, List.set_cons_zero, Option.some.injEq, exists_eq_left', exists_eq_left, List.cons.injEq, D.int.injEq, D.bl.injEq, D.str.injEq, D.tup.injEq, D.ref.injEq, D.fls.injEq, and_true, true_and, and_assoc,
  if_true, if_false, Bool.false_eq_true, exists_const, exists_eq', exists_and_left, exists_and_right, List.length_singleton, ite_true, ite_false, Bool.not_true, Bool.not_false, reduceCtorEq, false_and, exists_false, Bool.false_xor, Bool.true_xor,
  ty_non, ty_bl, ty_int, ty_str, ty_tup, kk01, kk02, kk03, kk04, kk05, kk06, kk07, kk08, kk09, kk10, kk11, kk12, kk13, kk14, kk15, kk16, kk17, kk18, kk19, kk20, kk21, kk22, kk23, kk24, kk25, kk26, kk27, kk28, kk29, kk30, kk31, kk32, kk33, kk34, kk35, kk36, kk37, kk38, kk39, kk40, kk41, kk42,
  rI2, DV.rIxD, rAddD, rLenD, rIsiD, rI2C, rEqv, rSlD, rIntD, rStrD, rAbsD, rIsND, rAppD, rPopD, rInsD, rFindD, tyM, dRaise, wxd, dCallX, dFld, rInLD, bad]))
local macro_rules | `(tactic| walk_at "dw") => `(tactic| simp only [at0, at1, Option.some.injEq, exists_eq_left', exists_eq_left, and_true, true_and, and_assoc, exists_eq', exists_and_left, exists_and_right])
local macro_rules | `(tactic| walk_at "bx") => `(tactic| ((first | refine ⟨?ds, Or.inl ?h1, ?x, ?h2, ?h3⟩ | refine ⟨?ds, ?h1, ?x, ?h2, ?h3⟩); (case h1 => first | assumption | exact lupd_same); (case h2 => rfl)))
theorem rd_w__law_like (ds : List D) (L : LHp) (Q : DK) (E' : XD) (h : spw__law_like ds L Q E') : d_w__law_like { nx := fun _ L' => Q .non L', rt := Q } (dstart ["told", "due", "k", "key"] ds) L := by
  obtain ⟨z, rfl, hQ⟩ := h
  unfold d_w__law_like
  walk_at "dv"
  exact iteF (iteF (iteT hQ))
theorem len_w__law_like (ds : List D) (L : LHp) (Q : DK) (E' : XD) (h : spw__law_like ds L Q E') : ds.length = 2 := by obtain ⟨z, rfl, _⟩ := h; rfl
theorem isE_no {nm c : Str} {ns : List Str} {es : List D} {L : LHp} {A B : LHp → Prop} (h : ibT nm c = some false) (q : B L) : rIsED ibT [.exc nm ns es, .cls c] L (fun x L1 => ∃ c, x = .bl c ∧ if c = true then A L1 else B L1) := ⟨false, h, false, rfl, iteF q⟩
theorem isE_yes {nm c : Str} {ns : List Str} {es : List D} {L : LHp} {A B : LHp → Prop} (h : ibT nm c = some true) (q : A L) : rIsED ibT [.exc nm ns es, .cls c] L (fun x L1 => ∃ c, x = .bl c ∧ if c = true then A L1 else B L1) := ⟨true, h, true, rfl, iteT q⟩
theorem rd_w__law_called (ds : List D) (L : LHp) (Q : DK) (E' : XD) (h : spw__law_called ds L Q E') : d_w__law_called { nx := fun _ L' => Q .non L', rt := Q } (dstart ["e", "found"] ds) L := by
  obtain ⟨c, ns, es, rfl, hc, hQ⟩ := h
  unfold d_w__law_called
  walk_at "dv"
  refine ⟨by decide, fun p hp => ?_⟩
  have g : ∀ xs, Gr L (lupd (lupd (lupd L p (.lst [])) p (.lst [.str "ModelError"])) p (.lst xs)) := fun xs => by rw [lupd_lupd, lupd_lupd]; exact Gr.new hp
  rcases hc with rfl | rfl
  · refine isE_yes (by decide +kernel) ⟨⟨_, .inl lupd_same⟩, _, lupd_same, by decide, ?_⟩
    refine isE_no (by decide +kernel) (isE_no (by decide +kernel) (isE_no (by decide +kernel) (isE_no (by decide +kernel) ?_)))
    refine isE_yes (by decide +kernel) ⟨⟨_, .inl lupd_same⟩, _, lupd_same, by decide, ?_⟩
    iterate 16 refine isE_no (by decide +kernel) ?_
    exact hQ p _ hp (g _) lupd_same
  · refine isE_yes (by decide +kernel) ⟨⟨_, .inl lupd_same⟩, _, lupd_same, by decide, ?_⟩
    refine isE_no (by decide +kernel) (isE_no (by decide +kernel) (isE_no (by decide +kernel) (isE_no (by decide +kernel) (isE_no (by decide +kernel) ?_))))
    refine isE_yes (by decide +kernel) ⟨⟨_, .inl lupd_same⟩, _, lupd_same, by decide, ?_⟩
    iterate 15 refine isE_no (by decide +kernel) ?_
    exact hQ p _ hp (g _) lupd_same
theorem len_w__law_called (ds : List D) (L : LHp) (Q : DK) (E' : XD) (h : spw__law_called ds L Q E') : ds.length = 1 := by obtain ⟨c, ns, es, rfl, _⟩ := h; rfl
end K01
namespace K01
open PySem PySem.Spec PyProof.Rows L2 DV FR
local macro_rules | `(tactic| walk_at "dv") => `(tactic| (simp only [dstart, List.map_cons, List.map_nil, List.length_cons, List.length_nil, Nat.reduceAdd, Nat.reduceSub, List.reduceReplicate, List.cons_append, List.nil_append, List.append_nil,
  dSeq, dNext, dSet, dRet, dRetN, dDrop, dAsg, dgName, dgTup, dgCons, dgNil, dgSub, dPar, dIfS, dVar, dC, dOp, dCons, dNil, dCB, dB, dAnd, dOr, dNot, dAndV, dOrV, dNotV, dIf, dTup, dLst, dCall, dBM, dSl, dNoPart, dPart, dFmt, dBits,
  List.getElem?_cons_succ, List.getElem?_cons_zero, List.set_cons_succ, List.set_cons_zero, Option.some.injEq, exists_eq_left', exists_eq_left, List.cons.injEq, D.int.injEq, D.bl.injEq, D.str.injEq, D.tup.injEq, D.ref.injEq, D.fls.injEq, and_true, true_and, and_assoc,
  if_true, if_false, Bool.false_eq_true, exists_const, exists_eq', exists_and_left, exists_and_right, List.length_singleton, ite_true, ite_false, Bool.not_true, Bool.not_false, reduceCtorEq, false_and, exists_false, Bool.false_xor, Bool.true_xor,
  ty_non, ty_bl, ty_int, ty_str, ty_tup, kk01, kk02, kk03, kk04, kk05, kk06, kk07, kk08, kk09, kk10, kk11, kk12, kk13, kk14, kk15, kk16, kk17, kk18, kk19, kk20, kk21, kk22, kk23, kk24, kk25, kk26, kk27, kk28, kk29, kk30, kk31, kk32, kk33, kk34, kk35, kk36, kk37, kk38, kk39, kk40, kk41, kk42,
  rI2, DV.rIxD, rAddD, rLenD, rIsiD, rI2C, rEqv, rSlD, rIntD, rStrD, rAbsD, rIsND, rAppD, rPopD, rInsD, rFindD, tyM, dRaise, wxd, dCallX, dFld, rInLD, bad]))
local macro_rules | `(tactic| walk_at "dw") => `(tactic| simp only [at0, at1, Option.some.injEq, exists_eq_left', exists_eq_left, and_true, true_and, and_assoc, exists_eq', exists_and_left, exists_and_right])
local macro_rules | `(tactic| walk_at "bx") => `(tactic| ((first | refine ⟨?ds, Or.inl ?h1, ?x, ?h2, ?h3⟩ | refine ⟨?ds, ?h1, ?x, ?h2, ?h3⟩); (case h1 => first | assumption | exact lupd_same); (case h2 => rfl)))
theorem eq_cls : PyData.eqvAll (toPL [D.str "ModelError", D.str "BadFraction"]) (toPL [D.str "Ended"]) = false := by decide +kernel
theorem eq_cls2 : PyData.eqvAll (toPL [D.str "ModelError", D.str "BadNumber"]) (toPL [D.str "Ended"]) = false := by decide +kernel
theorem rd_w__law_told (ds : List D) (L : LHp) (Q : DK) (E' : XD) (h : spw__law_told ds L Q E') : d_w__law_told { nx := fun _ L' => Q .non L', rt := Q } (dstart ["e", "classes", "word", "good", "letter"] ds) L := by
  obtain ⟨c, v, rfl, hc, hQ⟩ := h
  have hp : okL [D.str "ModelError", D.str c] ∧ PyData.eqvAll (toPL [D.str "ModelError", D.str c]) (toPL [D.str "Ended"]) = false := by
    rcases hc with rfl | rfl
    · exact ⟨by unfold okL; decide +kernel, eq_cls⟩
    · exact ⟨by unfold okL; decide +kernel, eq_cls2⟩
  have hp2 : okL [D.str "Ended"] := by unfold okL; decide +kernel
  unfold d_w__law_told
  walk_at "dv"
  refine ⟨c, _, _, rfl, hc, fun p L1 hp0 g hl => ?_⟩
  have hr : LRd L1 p [D.str (Str.ofString "ModelError"), D.str c] := .inl hl
  refine ⟨_, hr, by decide, fun p2 hp3 => ?_⟩
  have ne : p ≠ p2 := fun z => by rw [z, hp3] at hl; cases hl
  have g2 : Gr L1 (lupd L1 p2 (LO.lst [D.str (Str.ofString "Ended")])) := Gr.new hp3
  have hr2 : LRd (lupd L1 p2 (LO.lst [D.str (Str.ofString "Ended")])) p [D.str (Str.ofString "ModelError"), D.str c] := .inl (g2 _ _ hl)
  have g3 : Gr L (lupd L1 p2 (LO.lst [D.str (Str.ofString "Ended")])) := g.trans g2
  have hr3 : LRd (lupd L1 p2 (LO.lst [D.str (Str.ofString "Ended")])) p2 [D.str (Str.ofString "Ended")] := .inl lupd_same
  generalize lupd L1 p2 (LO.lst [D.str (Str.ofString "Ended")]) = L2 at hr2 g3 hr3 ⊢
  walk_at "dv"
  refine ⟨_, hr2, _, hr3, hp.1, hp2, ?_⟩
  rw [hp.2]
  refine iteF (iteF ⟨c, _, _, rfl, hc, .str c, ?_, _, hr2, _, hr2, .str c, at_gen (j := 1) rfl rfl, c, rfl, ?_⟩)
  · rcases hc with rfl | rfl <;> rfl
  walk_at "dv"
  refine ⟨_, hr2, _, hr2, .str c, at_gen (j := 1) rfl rfl, _, hr2, .str "ModelError", at_gen (j := 0) rfl rfl, ?_⟩
  have nm : decide ((PySem.Str.ofString "ModelError") = (PySem.Str.ofString "Missing")) = false := by decide +kernel
  show ∃ c_1, D.bl (decide ((PySem.Str.ofString "ModelError") = (PySem.Str.ofString "Missing"))) = D.bl c_1 ∧ _
  rw [nm]
  refine ⟨false, rfl, iteF ?_⟩
  walk_at "dv"
  refine ⟨by decide, fun p4 hp4 => ⟨["BadName", "BadFraction", "BadNumber"], .inl lupd_same, ?_⟩⟩
  have nm2 : decide (c ∈ ((["BadName", "BadFraction", "BadNumber"] : List Str))) = true := by rcases hc with rfl | rfl <;> decide +kernel
  rw [nm2]
  refine iteT ⟨c, _, _, rfl, hc, v, ?_, by decide, hQ _ (g3.trans (Gr.new hp4))⟩
  rcases hc with rfl | rfl <;> rfl
theorem len_w__law_told (ds : List D) (L : LHp) (Q : DK) (E' : XD) (h : spw__law_told ds L Q E') : ds.length = 1 := by obtain ⟨c, v, rfl, _⟩ := h; rfl
end K01
namespace K01
open PySem PySem.Spec PyProof.Rows L2 DV FR
local macro_rules | `(tactic| walk_at "dv") => `(tactic| (simp only [dstart, List.map_cons, List.map_nil, List.length_cons, List.length_nil, Nat.reduceAdd, Nat.reduceSub, List.reduceReplicate, List.cons_append, List.nil_append, List.append_nil,
  dSeq, dNext, dSet, dRet, dRetN, dDrop, dAsg, dgName, dgTup, dgCons, dgNil, dgSub, dPar, dIfS, dVar, dC, dOp, dCons, dNil, dCB, dB, dAnd, dOr, dNot, dAndV, dOrV, dNotV, dIf, dTup, dLst, dCall, dBM, dSl, dNoPart, dPart, dFmt, dBits,
  List.getElem?_cons_succ, List.getElem?_cons_zero, List.set_cons_succ, List.set_cons_zero, Option.some.injEq, exists_eq_left', exists_eq_left, List.cons.injEq, D.int.injEq, D.bl.injEq, D.str.injEq, D.tup.injEq, D.ref.injEq, D.fls.injEq, and_true, true_and, and_assoc,
  if_true, if_false, Bool.false_eq_true, exists_const, exists_eq', exists_and_left, exists_and_right, List.length_singleton, ite_true, ite_false, Bool.not_true, Bool.not_false, reduceCtorEq, false_and, exists_false, Bool.false_xor, Bool.true_xor,
  ty_non, ty_bl, ty_int, ty_str, ty_tup, kk01, kk02, kk03, kk04, kk05, kk06, kk07, kk08, kk09, kk10, kk11, kk12, kk13, kk14, kk15, kk16, kk17, kk18, kk19, kk20, kk21, kk22, kk23, kk24, kk25, kk26, kk27, kk28, kk29, kk30, kk31, kk32, kk33, kk34, kk35, kk36, kk37, kk38, kk39, kk40, kk41, kk42,
  rI2, DV.rIxD, rAddD, rLenD, rIsiD, rI2C, rEqv, rSlD, rIntD, rStrD, rAbsD, rIsND, rAppD, rPopD, rInsD, rFindD, tyM, dRaise, wxd, dCallX, dFld, rInLD, bad]))
local macro_rules | `(tactic| walk_at "dw") => `(tactic| simp only [at0, at1, Option.some.injEq, exists_eq_left', exists_eq_left, and_true, true_and, and_assoc, exists_eq', exists_and_left, exists_and_right])
local macro_rules | `(tactic| walk_at "bx") => `(tactic| ((first | refine ⟨?ds, Or.inl ?h1, ?x, ?h2, ?h3⟩ | refine ⟨?ds, ?h1, ?x, ?h2, ?h3⟩); (case h1 => first | assumption | exact lupd_same); (case h2 => rfl)))
theorem int_at {d : D} {ns : List Int} (h : d ∈ ns.map D.int) : ∃ n, n ∈ ns ∧ d = .int n := by
  obtain ⟨n, hn, rfl⟩ := List.mem_map.mp h
  exact ⟨n, hn, rfl⟩
theorem mul_by {p b : Int} {n : Int} (hb : 0 < b) (hn : 0 < n) : ((p * n : Int) : Rat) / ((b * n : Int) : Rat) = (p : Rat) / (b : Rat) := by
  have n1 := ne0 hb
  have n2 := ne0 hn
  rw [Rat.intCast_mul, Rat.intCast_mul]
  grind
theorem rd__law_dress (ds : List D) (L : LHp) (Q : DK) (E' : XD) (h : sp__law_dress ds L Q E') : d__law_dress { nx := fun _ L' => Q .non L', rt := Q } (dstart ["bag", "one", "by"] ds) L := by
  obtain ⟨b, c, q, B, rfl, ok, hq, hB, hQ⟩ := h
  unfold d__law_dress fr
  walk_at "dv"
  refine ⟨by decide, fun p hp => ?_⟩
  have g : Gr L (lupd L p (LO.lst [D.int 1, D.int 1, D.int 2, D.int 3, D.int 1, D.int 7])) := Gr.new hp
  refine ⟨b, c, p, [D.int 1, D.int 1, D.int 2, D.int 3, D.int 1, D.int 7], rfl, ok.gr g, ok.ne hp, .inl lupd_same, ⟨by simp, by simp⟩, fun d L2 hd dr2 => ?_⟩
  obtain ⟨n, hn, rfl⟩ := int_at (ns := [1, 1, 2, 3, 1, 7]) hd
  have hn2 : 0 < n ∧ n < 2 ^ 3 := by
    simp at hn
    omega
  have hn3 : n.natAbs < 2 ^ 3 := by omega
  have hd := den_pos q
  have fin : ∀ L1, Dr b c L L1 → ∃ d, atI [D.int q.num, D.int (q.den : Int)] 0 = some d ∧ rMulD d (D.int n) L1 fun x L1 => ∃ d, atI [D.int q.num, D.int (q.den : Int)] 1 = some d ∧ rMulD d (D.int n) L1 fun x_1 L1 => 2 ≤ sizeLine ∧ Q (D.tup [x, x_1]) L1 := fun L1 dr => by
    refine ⟨_, at0 _ _, mulW hq.top hn3 hB, _, at1 _ _, mulW hq.botI hn3 hB, by decide, hQ _ L1 dr ?_⟩
    have e := mul_by (p := q.num) hd hn2.1
    rw [div_self] at e
    have := Raw.pair (B := B + 3) (q.num * n) ((q.den : Int) * n) (Int.mul_nonneg hq.num0 (by omega)) (Int.mul_pos hd hn2.1) (mul_lt hq.top hn3) (mul_lt hq.botI hn3)
    rw [e] at this
    exact this
  refine ⟨_, at1 _ _, ?_⟩
  have dr : Dr b c L L2 := Dr.gr' g dr2
  by_cases h1 : q.den = 1
  · refine ⟨true, by rw [decide_eq_true (show (q.den : Int) = 1 by omega)], iteT ⟨b, c, 2, rfl, dr2.ok, ⟨by decide, by decide⟩, fun d L3 hd3 dr3 => ?_⟩⟩
    show ∃ c, D.bl (decide (d = 0)) = D.bl c ∧ _
    by_cases h2 : d = 0
    · rw [decide_eq_true h2]
      refine ⟨true, rfl, iteT ⟨_, at0 _ _, hQ _ L3 (dr.trans dr3) ?_⟩⟩
      have := Raw.int (B := B + 3) q.num (by omega) hq.num0 (Nat.lt_of_lt_of_le hq.top (Nat.pow_le_pow_right (by decide) (by omega)))
      rw [show ((q.num : Int) : Rat) = q from Rat.ext (by simp) (by simp [h1])] at this
      exact this
    · rw [decide_eq_false h2]
      exact ⟨false, rfl, iteF (fin L3 (dr.trans dr3))⟩
  · exact ⟨false, by rw [decide_eq_false (show ¬ (q.den : Int) = 1 by omega)], iteF (fin L2 dr)⟩
theorem len__law_dress (ds : List D) (L : LHp) (Q : DK) (E' : XD) (h : sp__law_dress ds L Q E') : ds.length = 2 := by obtain ⟨B, c, n, b, rfl, _⟩ := h; rfl
end K01
namespace K01
open PySem PySem.Spec PyProof.Rows L2 DV FR
local macro_rules | `(tactic| walk_at "dv") => `(tactic| (simp only [dstart, List.map_cons, List.map_nil, List.length_cons, List.length_nil, Nat.reduceAdd, Nat.reduceSub, List.reduceReplicate, List.cons_append, List.nil_append, List.append_nil,
  dSeq, dNext, dSet, dRet, dRetN, dDrop, dAsg, dgName, dgTup, dgCons, dgNil, dgSub, dPar, dIfS, dVar, dC, dOp, dCons, dNil, dCB, dB, dAnd, dOr, dNot, dAndV, dOrV, dNotV, dIf, dTup, dLst, dCall, dBM, dSl, dNoPart, dPart, dFmt, dBits,
  List.getElem?_cons_succ, List.getElem?_cons_zero, List.set_cons_succ, List.set_cons_zero, Option.some.injEq, exists_eq_left', exists_eq_left, List.cons.injEq, D.int.injEq, D.bl.injEq, D.str.injEq, D.tup.injEq, D.ref.injEq, D.fls.injEq, and_true, true_and, and_assoc,
  if_true, if_false, Bool.false_eq_true, exists_const, exists_eq', exists_and_left, exists_and_right, List.length_singleton, ite_true, ite_false, Bool.not_true, Bool.not_false, reduceCtorEq, false_and, exists_false, Bool.false_xor, Bool.true_xor,
  ty_non, ty_bl, ty_int, ty_str, ty_tup, kk01, kk02, kk03, kk04, kk05, kk06, kk07, kk08, kk09, kk10, kk11, kk12, kk13, kk14, kk15, kk16, kk17, kk18, kk19, kk20, kk21, kk22, kk23, kk24, kk25, kk26, kk27, kk28, kk29, kk30, kk31, kk32, kk33, kk34, kk35, kk36, kk37, kk38, kk39, kk40, kk41, kk42,
  rI2, DV.rIxD, rAddD, rLenD, rIsiD, rI2C, rEqv, rSlD, rIntD, rStrD, rAbsD, rIsND, rAppD, rPopD, rInsD, rFindD, tyM, dRaise, wxd, dCallX, dFld, rInLD, bad]))
local macro_rules | `(tactic| walk_at "dw") => `(tactic| simp only [at0, at1, Option.some.injEq, exists_eq_left', exists_eq_left, and_true, true_and, and_assoc, exists_eq', exists_and_left, exists_and_right])
local macro_rules | `(tactic| walk_at "bx") => `(tactic| ((first | refine ⟨?ds, Or.inl ?h1, ?x, ?h2, ?h3⟩ | refine ⟨?ds, ?h1, ?x, ?h2, ?h3⟩); (case h1 => first | assumption | exact lupd_same); (case h2 => rfl)))
theorem bd_small (t b : Int) (h0 : 0 ≤ t) (h1 : 0 < b) (h2 : t.natAbs < 2 ^ 100) (h3 : b.natAbs < 2 ^ 100) : Bd 100 ((t : Rat) / (b : Rat)) := bd_of 100 t b h0 h1 h2 h3
theorem rd__law_right (ds : List D) (L : LHp) (Q : DK) (E' : XD) (h : sp__law_right ds L Q E') : d__law_right { nx := fun _ L' => Q .non L', rt := Q } (dstart ["bag", "way"] ds) L := by
  obtain ⟨b, c, rfl, ok, hQ⟩ := h
  unfold d__law_right
  walk_at "dv"
  refine ⟨b, c, 5, rfl, ok, ⟨by decide, by decide⟩, fun way L1 hw dr => ?_⟩
  have pr : ∀ (B : Int) (L2 : LHp) (u v : Int), Dr b c L L2 → 0 ≤ u → u.natAbs < 2 ^ 100 → 0 ≤ v → (1 + v).natAbs < 2 ^ 100 → sp__law_pair [D.int u, D.int (1 + v)] L2 Q ED0 := fun B L2 u v d2 h0 h1 h2 h3 =>
    ⟨u, 1 + v, rfl, h0, by omega, Nat.lt_of_lt_of_le h3 (Nat.pow_le_pow_right (by decide) (by decide)), hQ _ L2 d2 (bd_small u (1 + v) h0 (by omega) h1 h3)⟩
  show ∃ c_1, D.bl (decide (way = 0)) = D.bl c_1 ∧ _
  refine ⟨_, rfl, ?_⟩
  by_cases h0 : way = 0
  · rw [decide_eq_true h0]
    refine iteT ⟨by decide, by decide, by decide, by decide, by decide, fun p hp => ?_⟩
    refine ⟨b, c, p, _, rfl, dr.ok.gr (Gr.new hp), dr.ok.ne hp, .inl lupd_same, ⟨by simp, by simp⟩, fun d L2 hd dr2 => ?_⟩
    have d2 : Dr b c L L2 := dr.trans (Dr.gr' (Gr.new hp) dr2)
    simp only [List.mem_cons, List.not_mem_nil, or_false] at hd
    rcases hd with rfl | rfl | rfl | rfl
    · exact hQ 0 L2 d2 ⟨by decide, by decide, by decide⟩
    · exact hQ 1 L2 d2 ⟨by decide, by decide, by decide⟩
    · exact hQ 5 L2 d2 ⟨by decide, by decide, by decide⟩
    · have e : fr (1 / 2) = D.tup [D.int 1, D.int 2] := by
        unfold fr
        rw [show ((1 / 2 : Rat)).num = 1 by decide +kernel, show ((1 / 2 : Rat)).den = 2 by decide +kernel]
        rfl
      rw [← e]
      exact hQ (1 / 2) L2 d2 ⟨by decide +kernel, by decide +kernel, by decide +kernel⟩
  · rw [decide_eq_false h0]
    refine iteF ?_
    show ∃ c_1, D.bl (decide (way = 1)) = D.bl c_1 ∧ _
    refine ⟨_, rfl, ?_⟩
    by_cases h1 : way = 1
    · rw [decide_eq_true h1]
      refine iteT ⟨⟨by decide, by decide, by decide⟩, b, c, _, rfl, dr.ok, ⟨by decide, by decide⟩, fun u L2 hu dr2 => ⟨⟨by decide, by decide, by decide⟩, b, c, _, rfl, dr2.ok, ⟨by decide, by decide⟩, fun v L3 hv dr3 => ?_⟩⟩
      have e30 : (10 : Int) ^ Int.toNat 30 = 1000000000000000000000000000000 := by decide
      rw [e30] at hu hv
      exact pr 0 L3 u v (dr.trans (dr2.trans dr3)) hu.1 (by omega) hv.1 (by omega)
    · rw [decide_eq_false h1]
      refine iteF ⟨b, c, _, rfl, dr.ok, ⟨by decide, by decide⟩, fun u L2 hu dr2 => ⟨b, c, _, rfl, dr2.ok, ⟨by decide, by decide⟩, fun v L3 hv dr3 => ?_⟩⟩
      exact pr 0 L3 u v (dr.trans (dr2.trans dr3)) hu.1 (by omega) hv.1 (by omega)
theorem len__law_right (ds : List D) (L : LHp) (Q : DK) (E' : XD) (h : sp__law_right ds L Q E') : ds.length = 1 := by obtain ⟨B, c, rfl, _⟩ := h; rfl
end K01
namespace K01
open PySem PySem.Spec PyProof.Rows L2 DV FR
local macro_rules | `(tactic| walk_at "dv") => `(tactic| (simp only [dstart, List.map_cons, List.map_nil, List.length_cons, List.length_nil, Nat.reduceAdd, Nat.reduceSub, List.reduceReplicate, List.cons_append, List.nil_append, List.append_nil,
  dSeq, dNext, dSet, dRet, dRetN, dDrop, dAsg, dgName, dgTup, dgCons, dgNil, dgSub, dPar, dIfS, dVar, dC, dOp, dCons, dNil, dCB, dB, dAnd, dOr, dNot, dAndV, dOrV, dNotV, dIf, dTup, dLst, dCall, dBM, dSl, dNoPart, dPart, dFmt, dBits,
  List.getElem?_cons_succ, List.getElem?_cons_zero, List.set_cons_succ, List.set_cons_zero, Option.some.injEq, exists_eq_left', exists_eq_left, List.cons.injEq, D.int.injEq, D.bl.injEq, D.str.injEq, D.tup.injEq, D.ref.injEq, D.fls.injEq, and_true, true_and, and_assoc,
  if_true, if_false, Bool.false_eq_true, exists_const, exists_eq', exists_and_left, exists_and_right, List.length_singleton, ite_true, ite_false, Bool.not_true, Bool.not_false, reduceCtorEq, false_and, exists_false, Bool.false_xor, Bool.true_xor,
  ty_non, ty_bl, ty_int, ty_str, ty_tup, kk01, kk02, kk03, kk04, kk05, kk06, kk07, kk08, kk09, kk10, kk11, kk12, kk13, kk14, kk15, kk16, kk17, kk18, kk19, kk20, kk21, kk22, kk23, kk24, kk25, kk26, kk27, kk28, kk29, kk30, kk31, kk32, kk33, kk34, kk35, kk36, kk37, kk38, kk39, kk40, kk41, kk42,
  rI2, DV.rIxD, rAddD, rLenD, rIsiD, rI2C, rEqv, rSlD, rIntD, rStrD, rAbsD, rIsND, rAppD, rPopD, rInsD, rFindD, tyM, dRaise, wxd, dCallX, dFld, rInLD, bad]))
local macro_rules | `(tactic| walk_at "dw") => `(tactic| simp only [at0, at1, Option.some.injEq, exists_eq_left', exists_eq_left, and_true, true_and, and_assoc, exists_eq', exists_and_left, exists_and_right])
local macro_rules | `(tactic| walk_at "bx") => `(tactic| ((first | refine ⟨?ds, Or.inl ?h1, ?x, ?h2, ?h3⟩ | refine ⟨?ds, ?h1, ?x, ?h2, ?h3⟩); (case h1 => first | assumption | exact lupd_same); (case h2 => rfl)))
theorem lcmL_snoc (ns : List Nat) (n : Nat) : lcmL (ns ++ [n]) = Nat.lcm (lcmL ns) n := by unfold lcmL; rw [List.foldl_append]; rfl
theorem lcm_le (a b : Nat) : Nat.lcm a b ≤ a * b := by unfold Nat.lcm; exact Nat.div_le_self _ _
theorem lcmL_lt {ns : List Nat} {B : Nat} (h : LcmOk ns B) : ∀ i, i ≤ ns.length → 0 < lcmL (ns.take i) ∧ lcmL (ns.take i) < 2 ^ (B * i + 1) := fun i => by
  induction i with
  | zero => intro _; rw [List.take_zero]; exact ⟨by decide, by rw [Nat.mul_zero]; decide⟩
  | succ i ih =>
    intro hi
    obtain ⟨p, l⟩ := ih (by omega)
    have e : ns[i]? = some ns[i] := List.getElem?_eq_getElem (by omega)
    rw [take_snoc e, lcmL_snoc]
    obtain ⟨n0, n1⟩ := h.1 ns[i] (List.getElem_mem _)
    refine ⟨Nat.lcm_pos p n0, Nat.lt_of_le_of_lt (lcm_le _ _) ?_⟩
    have := Nat.mul_lt_mul'' l n1
    rw [← Nat.pow_add] at this
    exact Nat.lt_of_lt_of_le this (Nat.pow_le_pow_right (by decide) (by rw [Nat.mul_succ]; omega))
theorem nI_get {ns : List Nat} {i : Nat} {d : D} (h : (nI ns)[i]? = some d) : ∃ n, ns[i]? = some n ∧ d = .int (n : Int) := by
  unfold nI at h
  rw [List.getElem?_map] at h
  cases e : ns[i]? with
  | none => rw [e] at h; cases h
  | some n => rw [e] at h; cases h; exact ⟨n, rfl, rfl⟩
theorem nI_len {ns : List Nat} : (nI ns).length = ns.length := List.length_map _
theorem lcm_ok {ns : List Nat} {B i n : Nat} (h : LcmOk ns B) (e : ns[i]? = some n) : CLcm ((lcmL (ns.take i) : Nat) : Int) ((n : Nat) : Int) ∧ ((Nat.lcm ((lcmL (ns.take i) : Nat) : Int).natAbs ((n : Nat) : Int).natAbs : Nat) : Int) = ((lcmL (ns.take (i + 1)) : Nat) : Int) := by
  have hi : i < ns.length := (List.getElem?_eq_some_iff.mp e).1
  have hm := List.mem_of_getElem? e
  have l1 := (lcmL_lt h i (by omega)).2
  have l2 := (lcmL_lt h (i + 1) hi).2
  have s1 : B * i + 1 ≤ 8000 := by have := Nat.mul_le_mul_left B (Nat.le_of_lt hi); have := h.2.1; omega
  have s2 : B * (i + 1) + 1 ≤ 8000 := by have := Nat.mul_le_mul_left B (show i + 1 ≤ ns.length from hi); have := h.2.1; omega
  have e2 : lcmL (ns.take (i + 1)) = Nat.lcm (lcmL (ns.take i)) n := by rw [take_snoc e, lcmL_snoc]
  simp only [Int.natAbs_natCast]
  refine ⟨⟨Nat.lt_of_lt_of_le l1 (Nat.pow_le_pow_right (by decide) s1), Nat.lt_of_lt_of_le (h.1 n hm).2 (Nat.pow_le_pow_right (by decide) (by have := h.2.2; omega)), ?_⟩, by rw [e2]⟩
  simp only [Int.natAbs_natCast]
  rw [← e2]
  have := log_lt (Nat.lt_of_lt_of_le l2 (Nat.pow_le_pow_right (by decide) s2)) (by decide)
  have hb : (8000 : Nat) ≤ bitsLine := by decide
  omega
theorem rd_least_common (ds : List D) (L : LHp) (Q : DK) (E' : XD) (h : sp_least_common ds L Q E') : d_least_common { nx := fun _ L' => Q .non L', rt := Q } (dstart ["numbers", "least", "number"] ds) L := by
  obtain ⟨ns, B, ok, hd, hQ⟩ := h
  have e0 : ((1 : Int)) = ((lcmL (ns.take 0) : Nat) : Int) := rfl
  have el : (lcmL (ns.take ns.length)) = lcmL ns := by rw [List.take_length]
  rcases hd with rfl | ⟨t, rfl, hl⟩
  · unfold d_least_common
    walk_at "dv"
    refine .inr ?_
    unfold dForT
    walk_at "dv"
    refine ⟨fun i τ L' => L' = L ∧ ∃ y, τ = [some (.tup (nI ns)), some (.int ((lcmL (ns.take i) : Nat) : Int)), y], ⟨rfl, _, rfl⟩, fun i d τ' L' hd ⟨e, y, ey⟩ => ?_, fun τ' L' ⟨e, y, ey⟩ => ?_⟩
    · subst e ey
      obtain ⟨n, en, rfl⟩ := nI_get hd
      obtain ⟨c1, c2⟩ := lcm_ok ok en
      walk_at "dv"
      refine ⟨c1, ?_⟩
      rw [c2]
      first | exact ⟨rfl, _, rfl⟩ | exact ⟨rfl, rfl⟩ | rfl
    · subst e ey
      walk_at "dv"
      rw [nI_len, el]
      exact hQ
  · unfold d_least_common
    walk_at "dv"
    refine .inl ?_
    unfold dForL
    walk_at "dv"
    refine ⟨_, hl, fun i τ L' => L' = L ∧ ∃ y, τ = [some (.ref t), some (.int ((lcmL (ns.take i) : Nat) : Int)), y], ⟨rfl, _, rfl⟩, fun i τ' L' hi ⟨e, _⟩ => by rw [e]; exact hl, fun i d τ' L' hd ⟨e, y, ey⟩ => ?_, fun τ' L' ⟨e, y, ey⟩ => ?_⟩
    · subst e ey
      obtain ⟨n, en, rfl⟩ := nI_get hd
      obtain ⟨c1, c2⟩ := lcm_ok ok en
      walk_at "dv"
      refine ⟨c1, ?_⟩
      rw [c2]
      first | exact ⟨rfl, _, rfl⟩ | exact ⟨rfl, rfl⟩ | rfl
    · subst e ey
      walk_at "dv"
      rw [nI_len, el]
      exact hQ
theorem len_least_common (ds : List D) (L : LHp) (Q : DK) (E' : XD) (h : sp_least_common ds L Q E') : ds.length = 1 := by
  obtain ⟨ns, B, ok, hd, hQ⟩ := h
  rcases hd with rfl | ⟨t, rfl, hl⟩ <;> rfl
end K01
namespace K01
open PySem PySem.Spec PyProof.Rows L2 DV FR
local macro_rules | `(tactic| walk_at "dv") => `(tactic| (simp only [dstart, List.map_cons, List.map_nil, List.length_cons, List.length_nil, Nat.reduceAdd, Nat.reduceSub, List.reduceReplicate, List.cons_append, List.nil_append, List.append_nil,
  dSeq, dNext, dSet, dRet, dRetN, dDrop, dAsg, dgName, dgTup, dgCons, dgNil, dgSub, dPar, dIfS, dVar, dC, dOp, dCons, dNil, dCB, dB, dAnd, dOr, dNot, dAndV, dOrV, dNotV, dIf, dTup, dLst, dCall, dBM, dSl, dNoPart, dPart, dFmt, dBits,
  List.getElem?_cons_succ, List.getElem?_cons_zero, List.set_cons_succ, List.set_cons_zero, Option.some.injEq, exists_eq_left', exists_eq_left, List.cons.injEq, D.int.injEq, D.bl.injEq, D.str.injEq, D.tup.injEq, D.ref.injEq, D.fls.injEq, and_true, true_and, and_assoc,
  if_true, if_false, Bool.false_eq_true, exists_const, exists_eq', exists_and_left, exists_and_right, List.length_singleton, ite_true, ite_false, Bool.not_true, Bool.not_false, reduceCtorEq, false_and, exists_false, Bool.false_xor, Bool.true_xor,
  ty_non, ty_bl, ty_int, ty_str, ty_tup, kk01, kk02, kk03, kk04, kk05, kk06, kk07, kk08, kk09, kk10, kk11, kk12, kk13, kk14, kk15, kk16, kk17, kk18, kk19, kk20, kk21, kk22, kk23, kk24, kk25, kk26, kk27, kk28, kk29, kk30, kk31, kk32, kk33, kk34, kk35, kk36, kk37, kk38, kk39, kk40, kk41, kk42,
  rI2, DV.rIxD, rAddD, rLenD, rIsiD, rI2C, rEqv, rSlD, rIntD, rStrD, rAbsD, rIsND, rAppD, rPopD, rInsD, rFindD, tyM, dRaise, wxd, dCallX, dFld, rInLD, bad]))
local macro_rules | `(tactic| walk_at "dw") => `(tactic| simp only [at0, at1, Option.some.injEq, exists_eq_left', exists_eq_left, and_true, true_and, and_assoc, exists_eq', exists_and_left, exists_and_right])
local macro_rules | `(tactic| walk_at "bx") => `(tactic| ((first | refine ⟨?ds, Or.inl ?h1, ?x, ?h2, ?h3⟩ | refine ⟨?ds, ?h1, ?x, ?h2, ?h3⟩); (case h1 => first | assumption | exact lupd_same); (case h2 => rfl)))
theorem rd__law_common (ds : List D) (L : LHp) (Q : DK) (E' : XD) (h : sp__law_common ds L Q E') : d__law_common { nx := fun _ L' => Q .non L', rt := Q } (dstart ["numbers", "found", "one"] ds) L := by
  obtain ⟨ns, B, t, ok, rfl, hl, hQ⟩ := h
  have e0 : ((1 : Int)) = ((lcmL (ns.take 0) : Nat) : Int) := rfl
  have el : (lcmL (ns.take ns.length)) = lcmL ns := by rw [List.take_length]
  unfold d__law_common dForL
  walk_at "dv"
  refine ⟨_, hl, fun i τ L' => L' = L ∧ ∃ y, τ = [some (.ref t), some (.int ((lcmL (ns.take i) : Nat) : Int)), y], ⟨rfl, _, rfl⟩, fun i τ' L' hi ⟨e, _⟩ => by rw [e]; exact hl, fun i d τ' L' hd ⟨e, y, ey⟩ => ?_, fun τ' L' ⟨e, y, ey⟩ => ?_⟩
  · subst e ey
    obtain ⟨n, en, rfl⟩ := nI_get hd
    have hi : i < ns.length := (List.getElem?_eq_some_iff.mp en).1
    obtain ⟨p0, p1⟩ := lcmL_lt ok i (by omega)
    obtain ⟨n0, n1⟩ := ok.1 n (List.mem_of_getElem? en)
    have s1 : B * i + 1 ≤ 8000 := by have := Nat.mul_le_mul_left B (Nat.le_of_lt hi); have := ok.2.1; omega
    have e2 : lcmL (ns.take (i + 1)) = Nat.lcm (lcmL (ns.take i)) n := by rw [take_snoc en, lcmL_snoc]
    have c1 : CMulU ((lcmL (ns.take i) : Nat) : Int) ((n : Nat) : Int) := mulW (A := B * i + 1) (B := B) (by simpa using p1) (by simpa using n1) (by have := ok.2.2; omega)
    walk_at "dv"
    refine ⟨c1, _, _, rfl, by omega, by omega, ?_⟩
    simp only [Int.natAbs_natCast]
    have gp : 0 < Nat.gcd (lcmL (ns.take i)) n := Nat.gcd_pos_of_pos_left _ p0
    have gl : Nat.gcd (lcmL (ns.take i)) n ≤ n := Nat.le_of_dvd n0 (Nat.gcd_dvd_right _ _)
    have c2 : CDivW (((lcmL (ns.take i) : Nat) : Int) * ((n : Nat) : Int)) ((Nat.gcd (lcmL (ns.take i)) n : Nat) : Int) := small_div (B := B) (by omega) (by simp only [Int.natAbs_natCast]; omega) (by have := ok.2.2; omega)
    have c3 : (((lcmL (ns.take i) : Nat) : Int) * ((n : Nat) : Int)) / ((Nat.gcd (lcmL (ns.take i)) n : Nat) : Int) = ((lcmL (ns.take (i + 1)) : Nat) : Int) := by
      rw [e2, ← Int.natCast_mul, ← Int.natCast_ediv]
      first | done | rfl
    walk_at "dv"
    refine ⟨c2, ?_⟩
    rw [c3]
    first | done | exact ⟨rfl, _, rfl⟩ | exact ⟨rfl, rfl⟩ | rfl
  · subst e ey
    walk_at "dv"
    rw [nI_len, el]
    exact hQ
theorem len__law_common (ds : List D) (L : LHp) (Q : DK) (E' : XD) (h : sp__law_common ds L Q E') : ds.length = 1 := by obtain ⟨ns, B, t, ok, rfl, _⟩ := h; rfl
end K01
namespace K01
open PySem PySem.Spec PyProof.Rows L2 DV FR
local macro_rules | `(tactic| walk_at "dv") => `(tactic| (simp only [dstart, List.map_cons, List.map_nil, List.length_cons, List.length_nil, Nat.reduceAdd, Nat.reduceSub, List.reduceReplicate, List.cons_append, List.nil_append, List.append_nil,
  dSeq, dNext, dSet, dRet, dRetN, dDrop, dAsg, dgName, dgTup, dgCons, dgNil, dgSub, dPar, dIfS, dVar, dC, dOp, dCons, dNil, dCB, dB, dAnd, dOr, dNot, dAndV, dOrV, dNotV, dIf, dTup, dLst, dCall, dBM, dSl, dNoPart, dPart, dFmt, dBits,
  List.getElem?_cons_succ, List.getElem?_cons_zero, List.set_cons_succ, List.set_cons_zero, Option.some.injEq, exists_eq_left', exists_eq_left, List.cons.injEq, D.int.injEq, D.bl.injEq, D.str.injEq, D.tup.injEq, D.ref.injEq, D.fls.injEq, and_true, true_and, and_assoc,
  if_true, if_false, Bool.false_eq_true, exists_const, exists_eq', exists_and_left, exists_and_right, List.length_singleton, ite_true, ite_false, Bool.not_true, Bool.not_false, reduceCtorEq, false_and, exists_false, Bool.false_xor, Bool.true_xor,
  ty_non, ty_bl, ty_int, ty_str, ty_tup, kk01, kk02, kk03, kk04, kk05, kk06, kk07, kk08, kk09, kk10, kk11, kk12, kk13, kk14, kk15, kk16, kk17, kk18, kk19, kk20, kk21, kk22, kk23, kk24, kk25, kk26, kk27, kk28, kk29, kk30, kk31, kk32, kk33, kk34, kk35, kk36, kk37, kk38, kk39, kk40, kk41, kk42,
  rI2, DV.rIxD, rAddD, rLenD, rIsiD, rI2C, rEqv, rSlD, rIntD, rStrD, rAbsD, rIsND, rAppD, rPopD, rInsD, rFindD, tyM, dRaise, wxd, dCallX, dFld, rInLD, bad]))
local macro_rules | `(tactic| walk_at "dw") => `(tactic| simp only [at0, at1, Option.some.injEq, exists_eq_left', exists_eq_left, and_true, true_and, and_assoc, exists_eq', exists_and_left, exists_and_right])
local macro_rules | `(tactic| walk_at "bx") => `(tactic| ((first | refine ⟨?ds, Or.inl ?h1, ?x, ?h2, ?h3⟩ | refine ⟨?ds, ?h1, ?x, ?h2, ?h3⟩); (case h1 => first | assumption | exact lupd_same); (case h2 => rfl)))
theorem bd_pow {q : Rat} {B n : Nat} (h : Bd B q) (e : Nat) (he : e ≤ n) (hs : B * n ≤ 7999) : (q.num ^ e).natAbs < 2 ^ (B * e + 1) ∧ ((q.den : Int) ^ e).natAbs < 2 ^ (B * e + 1) ∧ B * e ≤ 7999 := by
  refine ⟨?_, ?_, Nat.le_trans (Nat.mul_le_mul_left _ he) hs⟩
  · rw [Int.natAbs_pow, Nat.pow_succ, Nat.pow_mul]
    have h1 := Nat.pow_le_pow_left (Nat.le_of_lt h.top) e
    have h2 : 0 < (2 ^ B) ^ e := Nat.pow_pos (Nat.two_pow_pos B)
    omega
  · rw [Int.natAbs_pow, Nat.pow_succ, Nat.pow_mul]
    have h1 := Nat.pow_le_pow_left (Nat.le_of_lt h.botI) e
    have h2 : 0 < (2 ^ B) ^ e := Nat.pow_pos (Nat.two_pow_pos B)
    omega
def pw (q : Rat) (e : Nat) : D := .tup [.int (q.num ^ e), .int ((q.den : Int) ^ e)]
theorem rd__law_power (ds : List D) (L : LHp) (Q : DK) (E' : XD) (h : sp__law_power ds L Q E') : d__law_power { nx := fun _ L' => Q .non L', rt := Q } (dstart ["one", "many", "found", "left", "base", "turn"] ds) L := by
  obtain ⟨q, n, B, rfl, hn, hq, hs, hQ⟩ := h
  unfold d__law_power dForR
  walk_at "dv"
  have done : ∀ (τ : DSt) (y3 y4 y5 : Option D), τ = [some (fr q), some (D.int n), some (pw q n), y3, y4, y5] → ∃ d, τ[2]? = some (some d) ∧ True := fun τ y3 y4 y5 e => ⟨pw q n, by rw [e]; rfl, trivial⟩
  refine ⟨by decide, by decide, by decide, fun i τ L' => L' = L ∧ ∃ e m l y5, τ = [some (fr q), some (D.int n), some (pw q e), some (D.int (l : Nat)), some (pw q m), y5] ∧ e + m * l = n ∧ l * 2 ^ i ≤ n ∧ (i = 0 ∨ 0 < l), ⟨rfl, 0, 1, n, none, ?_, by omega, by simp, .inl rfl⟩, fun i τ' L' hi ⟨e1, e, m, l, y5, ey, hl, h2, h3⟩ => ?_, fun τ' L' ⟨e1, e, m, l, y5, ey, hl, h2, h3⟩ => ?_⟩
  · unfold fr pw
    simp [Int.pow_succ]
  · subst e1 ey
    have half : (l : Int) / 2 = ((l / 2 : Nat) : Int) := by omega
    have low : (l : Int) % 2 = ((l % 2 : Nat) : Int) := by omega
    have hml : m * 2 * (l / 2) ≤ n := by
      have h4 : m * 2 * (l / 2) ≤ m * l := by rw [Nat.mul_assoc]; exact Nat.mul_le_mul_left m (by omega)
      omega
    have hl2 : e + m * (l % 2) + m * 2 * (l / 2) = n := by
      rw [← hl, Nat.add_assoc, Nat.mul_assoc, ← Nat.mul_add]
      congr 2
      omega
    have mulOk : ∀ e m, e ≤ n → m ≤ n → CMulU (q.num ^ e) (q.num ^ m) ∧ CMulU ((q.den : Int) ^ e) ((q.den : Int) ^ m) := fun e m he hm => by
      obtain ⟨a1, a2, a3⟩ := bd_pow hq e he hs
      obtain ⟨b1, b2, b3⟩ := bd_pow hq m hm hs
      exact ⟨mulW a1 b1 (by omega), mulW a2 b2 (by omega)⟩
    have hdiv : CDivW (l : Int) 2 := small_div (B := 2) (by decide) (by decide) (by decide)
    unfold pw
    walk_at "dv"
    walk_at "dw"
    rw [half, low]
    refine ⟨by decide, ?_⟩
    have pair : sp__law_pair [D.int (q.num ^ n), D.int ((q.den : Int) ^ n)] L' Q ED0 := by
      obtain ⟨a1, a2, a3⟩ := bd_pow hq n (Nat.le_refl n) hs
      refine ⟨_, _, rfl, Int.pow_nonneg hq.num0, Int.pow_pos (den_pos q), Nat.lt_of_lt_of_le a2 (Nat.pow_le_pow_right (by decide) (by omega)), ?_⟩
      have ed := div_self (q ^ n)
      rw [(rat_pow_num q n).1, (rat_pow_num q n).2, Int.natCast_pow] at ed
      rw [ed]
      exact hQ
    have h5 : (m + m) * (l / 2) = m * 2 * (l / 2) := by rw [← Nat.mul_two]
    have hm6 : ¬ ((l / 2 : Nat) : Int) = 0 → m ≤ n := fun h => by
      have : m * 2 ≤ m * 2 * (l / 2) := Nat.le_mul_of_pos_right _ (by omega)
      omega
    have hx : l / 2 * 2 ^ (i + 1) ≤ n := by
      rw [Nat.pow_succ, Nat.mul_comm (2 ^ i) 2, ← Nat.mul_assoc]
      exact Nat.le_trans (Nat.mul_le_mul_right _ (by omega)) h2
    by_cases h8 : ((l % 2 : Nat) : Int) = 1
    · rw [decide_eq_true h8]
      have h9 : l % 2 = 1 := by omega
      rw [h9, Nat.mul_one] at hl2
      obtain ⟨c1, c2⟩ := mulOk e m (by omega) (by omega)
      refine iteT ⟨c1, c2, by decide, hdiv, ?_⟩
      by_cases h6 : ((l / 2 : Nat) : Int) = 0
      · rw [decide_eq_true h6]
        refine iteT ?_
        unfold dBreak
        walk_at "dv"
        have e0 : l / 2 = 0 := by omega
        rw [e0, Nat.mul_zero, Nat.add_zero] at hl2
        refine ⟨_, at0 _ _, _, at1 _ _, ?_⟩
        rw [← Int.pow_add, ← Int.pow_add, hl2]
        exact pair
      · rw [decide_eq_false h6]
        refine iteF ?_
        obtain ⟨d1, d2⟩ := mulOk m m (hm6 h6) (hm6 h6)
        exact ⟨d1, d2, by decide, rfl, e + m, congrArg D.int (Int.pow_add _ _ _).symm, congrArg D.int (Int.pow_add _ _ _).symm, m + m, l / 2, rfl, congrArg D.int (Int.pow_add _ _ _).symm, congrArg D.int (Int.pow_add _ _ _).symm, by rw [h5]; exact hl2, hx, .inr (by omega)⟩
    · rw [decide_eq_false h8]
      have h9 : l % 2 = 0 := by omega
      rw [h9, Nat.mul_zero, Nat.add_zero] at hl2
      refine iteF ⟨hdiv, ?_⟩
      by_cases h6 : ((l / 2 : Nat) : Int) = 0
      · rw [decide_eq_true h6]
        refine iteT ?_
        unfold dBreak
        walk_at "dv"
        have e0 : l / 2 = 0 := by omega
        rw [e0, Nat.mul_zero, Nat.add_zero] at hl2
        refine ⟨_, at0 _ _, _, at1 _ _, ?_⟩
        rw [hl2]
        exact pair
      · rw [decide_eq_false h6]
        refine iteF ?_
        obtain ⟨d1, d2⟩ := mulOk m m (hm6 h6) (hm6 h6)
        exact ⟨d1, d2, by decide, rfl, e, rfl, rfl, m + m, l / 2, rfl, congrArg D.int (Int.pow_add _ _ _).symm, congrArg D.int (Int.pow_add _ _ _).symm, by rw [h5]; exact hl2, hx, .inr (by omega)⟩
  · have : (0 : Nat) < l := by
      rcases h3 with h3 | h3
      · cases h3
      · exact h3
    have : l * 2 ^ (Int.toNat 40) ≤ 100 := Nat.le_trans h2 hn
    have e40 : (2 : Nat) ^ (Int.toNat 40) = 1099511627776 := by decide
    rw [e40] at this
    omega
theorem len__law_power (ds : List D) (L : LHp) (Q : DK) (E' : XD) (h : sp__law_power ds L Q E') : ds.length = 2 := by obtain ⟨ns, B, t, rfl, _⟩ := h; rfl
end K01
namespace K01
open PySem PySem.Spec PyProof.Rows L2 DV FR
local macro_rules | `(tactic| walk_at "dv") => `(tactic| (simp only [dstart, List.map_cons, List.map_nil, List.length_cons, List.length_nil, Nat.reduceAdd, Nat.reduceSub, List.reduceReplicate, List.cons_append, List.nil_append, List.append_nil,
  dSeq, dNext, dSet, dRet, dRetN, dDrop, dAsg, dgName, dgTup, dgCons, dgNil, dgSub, dPar, dIfS, dVar, dC, dOp, dCons, dNil, dCB, dB, dAnd, dOr, dNot, dAndV, dOrV, dNotV, dIf, dTup, dLst, dCall, dBM, dSl, dNoPart, dPart, dFmt, dBits,
  List.getElem?_cons_succ, List.getElem?_cons_zero, List.set_cons_succ, List.set_cons_zero, Option.some.injEq, exists_eq_left', exists_eq_left, List.cons.injEq, D.int.injEq, D.bl.injEq, D.str.injEq, D.tup.injEq, D.ref.injEq, D.fls.injEq, and_true, true_and, and_assoc,
  if_true, if_false, Bool.false_eq_true, exists_const, exists_eq', exists_and_left, exists_and_right, List.length_singleton, ite_true, ite_false, Bool.not_true, Bool.not_false, reduceCtorEq, false_and, exists_false, Bool.false_xor, Bool.true_xor,
  ty_non, ty_bl, ty_int, ty_str, ty_tup, kk01, kk02, kk03, kk04, kk05, kk06, kk07, kk08, kk09, kk10, kk11, kk12, kk13, kk14, kk15, kk16, kk17, kk18, kk19, kk20, kk21, kk22, kk23, kk24, kk25, kk26, kk27, kk28, kk29, kk30, kk31, kk32, kk33, kk34, kk35, kk36, kk37, kk38, kk39, kk40, kk41, kk42,
  rI2, DV.rIxD, rAddD, rLenD, rIsiD, rI2C, rEqv, rSlD, rIntD, rStrD, rAbsD, rIsND, rAppD, rPopD, rInsD, rFindD, tyM, dRaise, wxd, dCallX, dFld, rInLD, bad]))
local macro_rules | `(tactic| walk_at "dw") => `(tactic| simp only [at0, at1, Option.some.injEq, exists_eq_left', exists_eq_left, and_true, true_and, and_assoc, exists_eq', exists_and_left, exists_and_right])
local macro_rules | `(tactic| walk_at "bx") => `(tactic| ((first | refine ⟨?ds, Or.inl ?h1, ?x, ?h2, ?h3⟩ | refine ⟨?ds, ?h1, ?x, ?h2, ?h3⟩); (case h1 => first | assumption | exact lupd_same); (case h2 => rfl)))
theorem Told.gr {L L' : LHp} {b : Addr} (g : Gr L L') : ∀ {n : Nat} {d : D}, Told L b n d → Told L' b n d := fun {n} => by
  induction n with
  | zero => intro d h; cases h with | sc s => exact .sc s
  | succ n ih =>
    intro d h
    cases h with
    | sc s => exact .sc s
    | tup hl h => exact .tup hl fun d hd => ih (h d hd)
    | lst hb e hl h => exact .lst hb (g _ _ e) hl fun d hd => ih (h d hd)
    | dct hb e => exact .dct hb (g _ _ e)
theorem eq_nil {L : LHp} {a p : Addr} {Q : DK} (h1 : L a = some (.lst [])) (h2 : L p = some (.lst [])) (h : Q (.bl true) L) : rEqv false (.ref a) (.ref p) L Q :=
  ⟨[], [], .inl h1, .inl h2, ⟨rfl, by decide +kernel⟩, ⟨rfl, by decide +kernel⟩, h⟩
theorem like_sc (sp0 : DSp) {d : D} {L : LHp} {Q : DK} (h : Sc d) (hQ : Q (.bl true) L) : d__law_like sp0 { nx := fun _ L' => Q .non L', rt := Q } (dstart ["told", "due", "k", "key"] [d, d]) L := by
  unfold d__law_like
  cases h with
  | int i =>
    walk_at "dv"
    simpa using hQ
  | bl b =>
    walk_at "dv"
    simpa using hQ
  | str z =>
    walk_at "dv"
    simpa using hQ
  | non =>
    walk_at "dv"
    simpa using hQ
theorem rd__law_like0 (ds : List D) (L : LHp) (Q : DK) (E' : XD) (h : spl 0 ds L Q E') : d__law_like (fun _ _ _ _ => False) { nx := fun _ L' => Q .non L', rt := Q } (dstart ["told", "due", "k", "key"] ds) L := by
  obtain ⟨d, b, rfl, t, hQ⟩ := h
  cases t with
  | sc s => exact like_sc _ s (hQ _ .refl)
theorem len__law_like (n : Nat) (ds : List D) (L : LHp) (Q : DK) (E' : XD) (h : spl n ds L Q E') : ds.length = 2 := by obtain ⟨B, c, rfl, _⟩ := h; rfl
/-- the loop over the items -/
theorem like_loop {n : Nat} {b E : Addr} {ds : List D} {L : LHp} {x : D} {Q : DK} {y3 : Option D} (hx : (x = .tup ds) ∨ ∃ a, x = .ref a ∧ L a = some (.lst ds)) (hl : ds.length ≤ 1000) (h : ∀ d ∈ ds, Told L b n d) (hE : L E = none) (hQ : ∀ L', Gr L L' → Q (.bl true) L') :
    ∃ Pv : Nat → LHp → Prop, Pv 0 (lupd L E (.lst [])) ∧ (∀ (i : Nat) (L' : LHp), i < ds.length → Pv i L' → lcTurn (dNot (dB (dCall (spl n) ED0 (dCons (dOp rIxD (dVar 0) (dVar 2)) (dCons (dOp rIxD (dVar 1) (dVar 2)) dNil))))) (dVar 2) E [some x, some x, some (.int (i : Int)), y3] L' (Pv (i + 1))) ∧
      ∀ L', Pv ds.length L' → 0 ≤ sizeLine ∧ ∀ (p : Addr), L' p = none → ∃ xs, LRd (lupd L' p (.lst [])) E xs ∧ ∃ x, LRd (lupd L' p (.lst [])) p x ∧ okL xs ∧ okL x ∧ Q (.bl (PyData.eqvAll (toPL xs) (toPL x))) (lupd L' p (.lst [])) := by
  have g0 : Gr L (lupd L E (.lst [])) := Gr.new hE
  refine ⟨fun _ L' => Gr (lupd L E (.lst [])) L', .refl, fun i L' hi g => ?_, fun L' g => ?_⟩
  · unfold lcTurn
    have e : ds[i]? = some ds[i] := List.getElem?_eq_getElem hi
    have t : Told L' b n ds[i] := (h _ (List.getElem_mem hi)).gr (g0.trans g)
    have fin : spl n [ds[i], ds[i]] L' (fun x L2 => ∃ c, x = .bl c ∧ if (!c) = true then (∃ acc, L2 E = some (.lst acc) ∧ acc.length < sizeLine ∧ Gr (lupd L E (.lst [])) (lupd L2 E (.lst (acc ++ [.int (i : Int)])))) else Gr (lupd L E (.lst [])) L2) ED0 :=
      ⟨_, b, rfl, t, fun L2 g2 => ⟨true, rfl, iteF (g.trans g2)⟩⟩
    rcases hx with rfl | ⟨a, rfl, ha⟩
    · walk_at "dv"
      exact ⟨_, at_gen (j := i) rfl e, _, at_gen (j := i) rfl e, fin⟩
    · have ha' : LRd L' a ds := .inl (g _ _ (g0 _ _ ha))
      walk_at "dv"
      exact ⟨_, ha', _, at_gen (j := i) rfl e, _, ha', _, at_gen (j := i) rfl e, fin⟩
  · refine ⟨by decide, fun p hp => ?_⟩
    have hE' := g _ _ (lupd_same (L := L) (a := E) (o := .lst []))
    have ne : E ≠ p := fun z => by rw [← z, hE'] at hp; cases hp
    exact ⟨[], .inl (by rw [lupd_ne ne]; exact hE'), [], .inl lupd_same, ⟨rfl, by decide +kernel⟩, ⟨rfl, by decide +kernel⟩, hQ _ ((g0.trans g).trans (Gr.new hp))⟩
theorem rd__law_like (n : Nat) (ds : List D) (L : LHp) (Q : DK) (E' : XD) (h : spl (n + 1) ds L Q E') : d__law_like (spl n) { nx := fun _ L' => Q .non L', rt := Q } (dstart ["told", "due", "k", "key"] ds) L := by
  obtain ⟨d, b, rfl, t, hQ⟩ := h
  cases t with
  | sc s => exact like_sc _ s (hQ _ .refl)
  | @tup n ds hl h =>
    unfold d__law_like
    walk_at "dv"
    rw [if_neg (by simp), if_neg (by simp), if_neg (by simp)]
    unfold dLcR
    walk_at "dv"
    have hb : ((ds.length : Nat) : Int).toNat = ds.length := rfl
    refine ⟨by omega, by omega, fun E hE => ?_⟩
    exact like_loop (.inl rfl) hl h hE hQ
  | @lst n a ds hb e hl h =>
    have ha : LRd L a ds := .inl e
    have ty : tyD L (.ref a) "list" := .inl ⟨⟨_, ha⟩, rfl⟩
    unfold d__law_like
    walk_at "dv"
    refine ⟨"list", ty, true, by decide +kernel, iteT ?_⟩
    refine ⟨"list", ty, true, by decide +kernel, "list", ty, true, by decide +kernel, ?_⟩
    refine iteF ⟨"list", ty, false, by decide +kernel, "list", ty, false, by decide +kernel, iteF ⟨ds, ha, ds, ha, ?_⟩⟩
    rw [if_neg (by simp)]
    unfold dLcR
    walk_at "dv"
    refine ⟨ds, ha, by omega, by omega, fun E hE => ?_⟩
    exact like_loop (.inr ⟨a, rfl, e⟩) hl h hE hQ
  | @dct n a hb e =>
    have ty : tyD L (.ref a) "dict" := .inr ⟨⟨[], e⟩, rfl⟩
    unfold d__law_like
    walk_at "dv"
    refine ⟨"dict", ty, false, by decide +kernel, iteF ⟨"dict", ty, false, by decide +kernel, iteF ?_⟩⟩
    refine ⟨"dict", ty, true, by decide +kernel, iteT ?_⟩
    unfold rLenKD dLcK0
    walk_at "dv"
    refine ⟨"dict", ty, true, by decide +kernel, iteF ⟨[], e, [], e, ?_⟩⟩
    rw [if_neg (by simp)]
    refine ⟨e, fun E hE => ⟨by decide, fun p hp => ?_⟩⟩
    have ne : E ≠ p := fun z => by rw [← z, lupd_same] at hp; cases hp
    exact ⟨[], .inl (by rw [lupd_ne ne]; exact lupd_same), [], .inl lupd_same, ⟨rfl, by decide +kernel⟩, ⟨rfl, by decide +kernel⟩, hQ _ (Gr.trans (Gr.new hE) (Gr.new hp))⟩
end K01
namespace K01
open PySem PySem.Spec PyProof.Rows L2 DV FR
local macro_rules | `(tactic| walk_at "dv") => `(tactic| (simp only [dstart, List.map_cons, List.map_nil, List.length_cons, List.length_nil, Nat.reduceAdd, Nat.reduceSub, List.reduceReplicate, List.cons_append, List.nil_append, List.append_nil,
  dSeq, dNext, dSet, dRet, dRetN, dDrop, dAsg, dgName, dgTup, dgCons, dgNil, dgSub, dPar, dIfS, dVar, dC, dOp, dCons, dNil, dCB, dB, dAnd, dOr, dNot, dAndV, dOrV, dNotV, dIf, dTup, dLst, dCall, dBM, dSl, dNoPart, dPart, dFmt, dBits,
  List.getElem?_cons_succ, List.getElem?_cons_zero, List.set_cons_succ, List.set_cons_zero, Option.some.injEq, exists_eq_left', exists_eq_left, List.cons.injEq, D.int.injEq, D.bl.injEq, D.str.injEq, D.tup.injEq, D.ref.injEq, D.fls.injEq, and_true, true_and, and_assoc,
  if_true, if_false, Bool.false_eq_true, exists_const, exists_eq', exists_and_left, exists_and_right, List.length_singleton, ite_true, ite_false, Bool.not_true, Bool.not_false, reduceCtorEq, false_and, exists_false, Bool.false_xor, Bool.true_xor,
  ty_non, ty_bl, ty_int, ty_str, ty_tup, kk01, kk02, kk03, kk04, kk05, kk06, kk07, kk08, kk09, kk10, kk11, kk12, kk13, kk14, kk15, kk16, kk17, kk18, kk19, kk20, kk21, kk22, kk23, kk24, kk25, kk26, kk27, kk28, kk29, kk30, kk31, kk32, kk33, kk34, kk35, kk36, kk37, kk38, kk39, kk40, kk41, kk42,
  rI2, DV.rIxD, rAddD, rLenD, rIsiD, rI2C, rEqv, rSlD, rIntD, rStrD, rAbsD, rIsND, rAppD, rPopD, rInsD, rFindD, tyM, dRaise, wxd, dCallX, dFld, rInLD, bad]))
local macro_rules | `(tactic| walk_at "dw") => `(tactic| simp only [at0, at1, Option.some.injEq, exists_eq_left', exists_eq_left, and_true, true_and, and_assoc, exists_eq', exists_and_left, exists_and_right])
local macro_rules | `(tactic| walk_at "bx") => `(tactic| ((first | refine ⟨?ds, Or.inl ?h1, ?x, ?h2, ?h3⟩ | refine ⟨?ds, ?h1, ?x, ?h2, ?h3⟩); (case h1 => first | assumption | exact lupd_same); (case h2 => rfl)))
theorem tl_numS (n : Nat) : TL.tl (numS n) = TL.numL n := TL.tl_num n
theorem len_numS (n : Nat) : (numS n).length = (TL.numL n).length := by rw [TL.len_tl, tl_numS]
theorem numL_head : ∀ n : Nat, 0 < n → ∃ c r, TL.numL n = c :: r ∧ 49 ≤ c ∧ c ≤ 57 := by
  intro n
  induction n using Nat.strongRecOn with
  | _ n ih =>
    intro hn
    by_cases h : n < 10
    · exact ⟨48 + n, [], TL.numL_lt h, by omega, by omega⟩
    · obtain ⟨c, r, e, h1, h2⟩ := ih (n / 10) (by omega) (by omega)
      exact ⟨c, r ++ [48 + n % 10], by rw [TL.numL_step (by omega), e]; rfl, h1, h2⟩
theorem numS_len {n : Nat} (h : n < 10 ^ 60) : (numS n).length ≤ 60 := by rw [len_numS]; exact TL.numL_len (by decide) h
theorem numS_zero : numS (0 : Nat) = PySem.Str.ofString "0" := by decide +kernel
theorem numS_inj {n m : Nat} (h : numS n = numS m) : n = m := TL.numL_inj (by rw [← tl_numS, ← tl_numS, h])
theorem numS_eq0 (n : Nat) : (numS n = PySem.Str.ofString "0") ↔ n = 0 := by
  rw [← numS_zero]
  exact ⟨fun h => numS_inj h, fun h => by rw [h]⟩
theorem numS_ne (n : Nat) : numS n ≠ PySem.Str.ofString "" := fun h => by
  have e : TL.tl (numS n) = [] := by rw [h]; decide +kernel
  rw [tl_numS] at e
  exact TL.numL_ne n e
theorem sz {n : Nat} (h : n ≤ 60000) : n ≤ sizeLine := Nat.le_trans h (by decide)
theorem ten_tl : (PySem.Str.ofString "0123456789").cps.toList = [48, 49, 50, 51, 52, 53, 54, 55, 56, 57] := by decide +kernel
theorem zero_one : PySem.Str.ofString "0" = ⟨#[48]⟩ := by decide +kernel
theorem one_eq (c : Nat) : ((⟨#[c]⟩ : Str) = PySem.Str.ofString "0") ↔ c = 48 := by
  rw [zero_one]
  constructor
  · intro z
    have z1 := congrArg (fun x : Str => x.cps.toList) z
    have z2 : [c] = [48] := z1
    injection z2
  · intro e; rw [e]
theorem str_ne {z : Str} (h : z ≠ PySem.Str.ofString "") : ∃ c, z.cps[0]? = some c := by
  cases e : z.cps[0]? with
  | some c => exact ⟨c, rfl⟩
  | none =>
    exfalso
    apply h
    have l : z.cps.size ≤ 0 := Array.getElem?_eq_none_iff.mp e
    have l2 : z.cps = #[] := Array.eq_empty_of_size_eq_zero (by omega)
    show (⟨z.cps⟩ : Str) = _
    rw [l2]
    decide +kernel
theorem cnt_num {n : Nat} (h : n < 10 ^ 60) : cnt (numS n) true = true := by
  unfold cnt
  by_cases h0 : n = 0
  · rw [if_pos ((numS_eq0 n).mpr h0)]
  · rw [if_neg (fun z => h0 ((numS_eq0 n).mp z)), if_neg]
    · rw [List.all_eq_true]
      intro c hc
      have hd := TL.numL_digits n c (by rw [← tl_numS]; exact hc)
      refine decide_eq_true ?_
      rw [ten_tl]
      simp only [List.mem_cons, List.not_mem_nil, or_false]
      omega
    · rintro (z | z | z)
      · exact numS_ne n z
      · have := numS_len h; omega
      · obtain ⟨c, r, e, c1, c2⟩ := numL_head n (by omega)
        have z2 : (TL.tl (numS n))[0]? = some 48 := by
          unfold TL.tl
          rw [Array.getElem?_toList]
          exact z
        rw [tl_numS, e] at z2
        simp at z2
        omega
theorem rd__is_count (ds : List D) (L : LHp) (Q : DK) (E' : XD) (h : sp__is_count ds L Q E') : d__is_count { nx := fun _ L' => Q .non L', rt := Q } (dstart ["text", "zero", "sign"] ds) L := by
  obtain ⟨z, zero, rfl, hn, hQ⟩ := h
  unfold d__is_count dLcS
  walk_at "dv"
  by_cases h0 : z = PySem.Str.ofString "0"
  · rw [decide_eq_true h0]
    have e : cnt z zero = zero := by unfold cnt; rw [if_pos h0]
    rw [e] at hQ
    exact iteT (hQ L .refl)
  · rw [decide_eq_false h0]
    by_cases h1 : z = PySem.Str.ofString ""
    · rw [decide_eq_true h1]
      have e : cnt z zero = false := by unfold cnt; rw [if_neg h0, if_pos (.inl h1)]
      rw [e] at hQ
      exact iteF (iteT (hQ L .refl))
    · rw [decide_eq_false h1]
      refine iteF (iteF ⟨sz (by omega), ?_⟩)
      by_cases h2 : 60 < z.length
      · rw [decide_eq_true (show (60 : Int) < (z.length : Int) by omega)]
        have e : cnt z zero = false := by unfold cnt; rw [if_neg h0, if_pos (.inr (.inl h2))]
        rw [e] at hQ
        exact iteT (hQ L .refl)
      · rw [decide_eq_false (show ¬ (60 : Int) < (z.length : Int) by omega)]
        obtain ⟨c, hc⟩ := str_ne h1
        refine iteF ⟨sz (by omega), c, at_gen (j := 0) rfl (by rw [Array.getElem?_toList]; exact hc), ?_⟩
        by_cases h3 : c = 48
        · rw [decide_eq_true ((one_eq c).mpr h3)]
          have e : cnt z zero = false := by unfold cnt; rw [if_neg h0, if_pos (.inr (.inr (by rw [hc, h3])))]
          rw [e] at hQ
          exact iteT (hQ L .refl)
        · rw [decide_eq_false (fun w => h3 ((one_eq c).mp w))]
          have e : cnt z zero = z.cps.toList.all fun c => decide (c ∈ (PySem.Str.ofString "0123456789").cps.toList) := by
            unfold cnt
            rw [if_neg h0, if_neg]
            rintro (w | w | w)
            · exact h1 w
            · exact h2 w
            · rw [hc] at w; exact h3 (Option.some.inj w)
          rw [e] at hQ
          refine iteF fun E hE => ?_
          refine ⟨fun i L' => L' = lupd L E (.lst (((z.cps.toList.take i).map fun c => decide (c ∈ (PySem.Str.ofString "0123456789").cps.toList)).map .bl)), rfl, fun i c L' hc hL' => ?_, fun L' hL' => ?_⟩
          · subst hL'
            unfold lcTurn dTYes
            walk_at "dv"
            have hi : i < z.cps.size := (Array.getElem?_eq_some_iff.mp hc).1
            refine ⟨c, rfl, _, lupd_same, ?_, ?_⟩
            · rw [List.length_map, List.length_map, List.length_take]
              exact Nat.lt_of_le_of_lt (Nat.min_le_left _ _) (Nat.lt_of_lt_of_le hi (sz (show z.length ≤ 60000 by omega)))
            · rw [lupd_lupd, take_snoc (l := z.cps.toList) (x := c) (by rw [Array.getElem?_toList]; exact hc), List.map_append, List.map_append]
              rfl
          · subst hL'
            refine ⟨_, .inl lupd_same, ?_⟩
            have ea : (((z.cps.toList.take z.cps.size).map fun c => decide (c ∈ (PySem.Str.ofString "0123456789").cps.toList)).all id) = (z.cps.toList.all fun c => decide (c ∈ (PySem.Str.ofString "0123456789").cps.toList)) := by
              rw [List.all_map, List.take_of_length_le (by simp)]
              rfl
            rw [ea]
            exact hQ _ (Gr.new hE)
theorem len__is_count (ds : List D) (L : LHp) (Q : DK) (E' : XD) (h : sp__is_count ds L Q E') : ds.length = 2 := by obtain ⟨n, zero, rfl, _⟩ := h; rfl
theorem find_none (t : Nat) : Txt.find (numS t) (PySem.Str.ofString "/") = -1 := by
  have es : (PySem.Str.ofString "/") = ⟨#[47]⟩ := by decide +kernel
  rw [es]
  unfold Txt.find
  have hne : (!(Builtin.Str.occurrences (numS t) ⟨#[47]⟩ 0 (numS t).length 1).isEmpty) = false := by
    rw [PySem.StrLaws.found_one]
    refine decide_eq_false fun h => ?_
    have h2 : 47 ∈ TL.numL t := by rw [← tl_numS]; exact h
    exact TL.numL_free (Or.inl (by decide)) h2
  cases e : Builtin.Str.occurrences (numS t) ⟨#[47]⟩ 0 (numS t).length 1 with
  | nil => rfl
  | cons i r => rw [e] at hne; simp at hne
theorem int_numS {n : Nat} (h : n < 10 ^ 60) : PySem.intText? (numS n) = some (n : Int) := TL.int_num (Nat.le_trans (TL.numL_len (by decide) h) (by decide))
theorem cut_len (z : Str) (lo hi : Option Int) : (cutS z lo hi).length ≤ z.length := by
  rw [TL.len_tl, TL.len_tl]
  unfold cutS
  rw [TL.tl_mk, List.length_take, List.length_drop]
  show min _ ((TL.tl z).length - _) ≤ _
  omega
theorem rd_fraction_or_none (ds : List D) (L : LHp) (Q : DK) (E' : XD) (h : sp_fraction_or_none ds L Q E') : d_fraction_or_none { nx := fun _ L' => Q .non L', rt := Q } (dstart ["text", "cut", "top", "bottom"] ds) L := by
  obtain ⟨z, rfl, hQ⟩ := h
  unfold d_fraction_or_none
  walk_at "dv"
  rcases hQ with ⟨⟨hl, hz⟩, hQ⟩ | ⟨n, rfl, hn, hQ⟩
  · rcases hz with ⟨hf, hc⟩ | ⟨hf, hc⟩
    · rw [decide_eq_true (show Txt.find z (PySem.Str.ofString "/") < 0 from hf)]
      refine iteT ⟨z, true, rfl, hl, fun L' g => ?_⟩
      rw [hc]
      exact ⟨false, rfl, iteF (hQ L' g)⟩
    · rw [decide_eq_false (show ¬ Txt.find z (PySem.Str.ofString "/") < 0 by have : 0 ≤ Txt.find z (PySem.Str.ofString "/") := hf; omega)]
      have c1 := cut_len z none (some (Txt.find z (PySem.Str.ofString "/")))
      have c2 := cut_len z (some (Txt.find z (PySem.Str.ofString "/") + 1)) none
      refine iteF ⟨sz (by omega), sz (by omega), _, true, rfl, by omega, fun L' g => ?_⟩
      have hc' : (cnt (cutS z none (some (Txt.find z (PySem.Str.ofString "/")))) true && cnt (cutS z (some (Txt.find z (PySem.Str.ofString "/") + 1)) none) false) = false := hc
      cases e : cnt (cutS z none (some (Txt.find z (PySem.Str.ofString "/")))) true with
      | false => exact ⟨false, rfl, iteT (hQ L' g)⟩
      | true =>
        rw [e, Bool.true_and] at hc'
        refine ⟨true, rfl, iteF ⟨_, false, rfl, by omega, fun L2 g2 => ?_⟩⟩
        rw [hc']
        exact ⟨false, rfl, iteT (hQ L2 (g.trans g2))⟩
  · rw [find_none]
    have hl := numS_len hn
    refine iteT ⟨_, true, rfl, by omega, fun L' g => ?_⟩
    rw [cnt_num hn]
    refine ⟨true, rfl, iteT ⟨n, int_numS hn, Nat.le_trans hl (by decide), by decide, ?_⟩⟩
    exact hQ L' g
theorem len_fraction_or_none (ds : List D) (L : LHp) (Q : DK) (E' : XD) (h : sp_fraction_or_none ds L Q E') : ds.length = 1 := by obtain ⟨n, rfl, _⟩ := h; rfl
theorem rd_read_fraction (ds : List D) (L : LHp) (Q : DK) (E' : XD) (h : sp_read_fraction ds L Q E') : d_read_fraction E' { nx := fun _ L' => Q .non L', rt := Q } (dstart ["text", "value"] ds) L := by
  obtain ⟨v, rfl, hQ⟩ := h
  unfold d_read_fraction
  walk_at "dv"
  rcases hQ with ⟨t, ht, hn, hb⟩ | ⟨z, rfl, hz, hb⟩ | ⟨n, rfl, hn, hQ⟩
  · have kt : kitB t "str" = some false := by
      rcases ty_cases ht with ⟨rfl, rfl⟩ | ⟨b, rfl, rfl⟩ | ⟨i, rfl, rfl⟩ | ⟨z, rfl, rfl⟩ | ⟨xs, rfl, rfl⟩ | ⟨a, rfl, rfl⟩ | ⟨a, rfl, rfl⟩
      all_goals first | decide +kernel | exact (hn rfl).elim
    exact ⟨t, ht, false, kt, iteT hb⟩
  · exact ⟨"str", rfl, true, by decide +kernel, iteF ⟨z, rfl, .inl ⟨hz, fun L' g => hb L' g⟩⟩⟩
  · exact ⟨"str", rfl, true, by decide +kernel, iteF ⟨_, rfl, .inr ⟨n, rfl, hn, fun L' g => hQ L' g⟩⟩⟩
theorem len_read_fraction (ds : List D) (L : LHp) (Q : DK) (E' : XD) (h : sp_read_fraction ds L Q E') : ds.length = 1 := by obtain ⟨n, rfl, _⟩ := h; rfl
end K01
namespace K01
open PySem PySem.Spec PyProof.Rows L2 DV FR
local macro_rules | `(tactic| walk_at "dv") => `(tactic| (simp only [dstart, List.map_cons, List.map_nil, List.length_cons, List.length_nil, Nat.reduceAdd, Nat.reduceSub, List.reduceReplicate, List.cons_append, List.nil_append, List.append_nil,
  dSeq, dNext, dSet, dRet, dRetN, dDrop, dAsg, dgName, dgTup, dgCons, dgNil, dgSub, dPar, dIfS, dVar, dC, dOp, dCons, dNil, dCB, dB, dAnd, dOr, dNot, dAndV, dOrV, dNotV, dIf, dTup, dLst, dCall, dBM, dSl, dNoPart, dPart, dFmt, dBits,
  List.getElem?_cons_succ, List.getElem?_cons_zero, List.set_cons_succ, List.set_cons_zero, Option.some.injEq, exists_eq_left', exists_eq_left, List.cons.injEq, D.int.injEq, D.bl.injEq, D.str.injEq, D.tup.injEq, D.ref.injEq, D.fls.injEq, and_true, true_and, and_assoc,
  if_true, if_false, Bool.false_eq_true, exists_const, exists_eq', exists_and_left, exists_and_right, List.length_singleton, ite_true, ite_false, Bool.not_true, Bool.not_false, reduceCtorEq, false_and, exists_false, Bool.false_xor, Bool.true_xor,
  ty_non, ty_bl, ty_int, ty_str, ty_tup, kk01, kk02, kk03, kk04, kk05, kk06, kk07, kk08, kk09, kk10, kk11, kk12, kk13, kk14, kk15, kk16, kk17, kk18, kk19, kk20, kk21, kk22, kk23, kk24, kk25, kk26, kk27, kk28, kk29, kk30, kk31, kk32, kk33, kk34, kk35, kk36, kk37, kk38, kk39, kk40, kk41, kk42,
  rI2, DV.rIxD, rAddD, rLenD, rIsiD, rI2C, rEqv, rSlD, rIntD, rStrD, rAbsD, rIsND, rAppD, rPopD, rInsD, rFindD, tyM, dRaise, wxd, dCallX, dFld, rInLD, bad]))
local macro_rules | `(tactic| walk_at "dw") => `(tactic| simp only [at0, at1, Option.some.injEq, exists_eq_left', exists_eq_left, and_true, true_and, and_assoc, exists_eq', exists_and_left, exists_and_right])
local macro_rules | `(tactic| walk_at "bx") => `(tactic| ((first | refine ⟨?ds, Or.inl ?h1, ?x, ?h2, ?h3⟩ | refine ⟨?ds, ?h1, ?x, ?h2, ?h3⟩); (case h1 => first | assumption | exact lupd_same); (case h2 => rfl)))
theorem kn_sc {L : LHp} {d : D} (h : Sc d) : Kn L d := by
  cases h with
  | int i => exact ⟨⟨"int", rfl⟩, fun ds e => by cases e⟩
  | bl b => exact ⟨⟨"bool", rfl⟩, fun ds e => by cases e⟩
  | str z => exact ⟨⟨"str", rfl⟩, fun ds e => by cases e⟩
  | non => exact ⟨⟨"NoneType", rfl⟩, fun ds e => by cases e⟩
theorem wr_sc {L : LHp} {b : Addr} {d : D} (h : Sc d) (f : isF d = false) : Wrong L b d := ⟨kn_sc h, f, .sc h⟩
/-- an item: told, of a known type -/
def It (L : LHp) (b : Addr) (e : D) : Prop := Told L b 2 e ∧ ∃ t, tyD L e t
theorem it_sc {L : LHp} {b : Addr} {d : D} (h : Sc d) : It L b d := ⟨.sc h, (kn_sc h).1⟩
theorem wr_tup {L : LHp} {b : Addr} {ds : List D} (hl : ds.length ≤ 1000) (h : ∀ e ∈ ds, It L b e) (f : isF (.tup ds) = false) : Wrong L b (.tup ds) :=
  ⟨⟨⟨"tuple", rfl⟩, fun es e => by cases e; exact fun x hx => (h x hx).2⟩, f, .tup hl fun e he => (h e he).1⟩
theorem wr_lst {L : LHp} {a b : Addr} {ds : List D} (ne : a ≠ b) (e : L a = some (.lst ds)) (hl : ds.length ≤ 1000) (h : ∀ d ∈ ds, Told L b 2 d) : Wrong L b (.ref a) :=
  ⟨⟨⟨"list", .inl ⟨⟨ds, .inl e⟩, rfl⟩⟩, fun es z => by cases z⟩, rfl, .lst ne e hl h⟩
theorem it_lst {L : LHp} {a b : Addr} {ds : List D} (ne : a ≠ b) (e : L a = some (.lst ds)) (hl : ds.length ≤ 1000) (h : ∀ d ∈ ds, Told L b 1 d) : It L b (.ref a) :=
  ⟨.lst ne e hl h, "list", .inl ⟨⟨ds, .inl e⟩, rfl⟩⟩
theorem it_tup {L : LHp} {b : Addr} {ds : List D} (hl : ds.length ≤ 1000) (h : ∀ d ∈ ds, Told L b 1 d) : It L b (.tup ds) := ⟨.tup hl h, "tuple", rfl⟩
theorem wr_dct {L : LHp} {a b : Addr} (ne : a ≠ b) (e : L a = some (.dk [])) : Wrong L b (.ref a) :=
  ⟨⟨⟨"dict", .inr ⟨⟨[], e⟩, rfl⟩⟩, fun es z => by cases z⟩, rfl, .dct ne e⟩
theorem all2 {P : D → Prop} {x y : D} (a : P x) (b : P y) : ∀ d ∈ [x, y], P d := fun d hd => by
  simp only [List.mem_cons, List.not_mem_nil, or_false] at hd
  rcases hd with rfl | rfl <;> assumption
theorem sc_all {L : LHp} {b : Addr} {n : Nat} {ds : List D} (h : ∀ d ∈ ds, Sc d) : ∀ d ∈ ds, Told L b n d := fun d hd => .sc (h d hd)
theorem rd__law_wrong (ds : List D) (L : LHp) (Q : DK) (E' : XD) (h : sp__law_wrong ds L Q E') : d__law_wrong { nx := fun _ L' => Q .non L', rt := Q } (dstart ["bag", "way"] ds) L := by
  obtain ⟨b, c, rfl, ok, hQ⟩ := h
  unfold d__law_wrong
  walk_at "dv"
  refine ⟨b, c, 4, rfl, ok, ⟨by decide, by decide⟩, fun way L1 hw dr => ?_⟩
  show ∃ c_1, D.bl (decide (way = 0)) = D.bl c_1 ∧ _
  refine ⟨_, rfl, ?_⟩
  by_cases h0 : way = 0
  · rw [decide_eq_true h0]
    unfold dDict0
    walk_at "dv"
    refine fun p hp => ⟨by decide, fun p1 hp1 => ?_⟩
    have g1 : Gr L1 (lupd L1 p (.dk [])) := Gr.new hp
    have g2 := Gr.new (o := .lst [D.bl true, D.bl false, D.non, D.int (-1), D.str (Str.ofString "1/2"), D.str (Str.ofString "1"), D.int (-5), D.str (Str.ofString ""), D.ref p]) hp1
    have np := dr.ok.ne hp
    refine ⟨b, c, p1, _, rfl, dr.ok.gr (g1.trans g2), (dr.ok.gr g1).ne hp1, .inl lupd_same, ⟨by simp, by simp⟩, fun d L3 hd dr3 => ?_⟩
    have D3 : Dr b c L L3 := dr.trans (Dr.gr' (g1.trans g2) dr3)
    simp only [List.mem_cons, List.not_mem_nil, or_false] at hd
    rcases hd with rfl | rfl | rfl | rfl | rfl | rfl | rfl | rfl | rfl
    · exact hQ _ L3 D3 (wr_sc (.bl _) rfl)
    · exact hQ _ L3 D3 (wr_sc (.bl _) rfl)
    · exact hQ _ L3 D3 (wr_sc .non rfl)
    · exact hQ _ L3 D3 (wr_sc (.int _) rfl)
    · exact hQ _ L3 D3 (wr_sc (.str _) rfl)
    · exact hQ _ L3 D3 (wr_sc (.str _) rfl)
    · exact hQ _ L3 D3 (wr_sc (.int _) rfl)
    · exact hQ _ L3 D3 (wr_sc (.str _) rfl)
    · exact hQ _ L3 D3 (wr_dct np (dr3.kp _ _ np (g2 _ _ lupd_same)))
  · rw [decide_eq_false h0]
    refine iteF ?_
    show ∃ c_1, D.bl (decide (way = 1)) = D.bl c_1 ∧ _
    refine ⟨_, rfl, ?_⟩
    by_cases h1 : way = 1
    · rw [decide_eq_true h1]
      refine iteT ?_
      refine ⟨by decide, fun p hp => ⟨by decide, fun p1 hp1 => ⟨by decide, fun p2 hp2 => ⟨by decide, by decide, by decide, by decide, by decide, by decide, fun p3 hp3 => ⟨by decide, by decide, fun p4 hp4 => ?_⟩⟩⟩⟩⟩
      have g0 := Gr.new (o := .lst [D.int 1, D.int 2]) hp
      have g1 := Gr.new (o := .lst [D.int 3, D.int 1]) hp1
      have g2 := Gr.new (o := .lst []) hp2
      have g3 := Gr.new (o := .lst [D.int 2]) hp3
      have g4 := Gr.new (o := .lst [D.ref p, D.ref p1, D.ref p2, D.tup [D.int 1, D.int 2, D.int 3], D.tup [D.int 1], D.tup [], D.tup [D.tup [D.int 1, D.int 2], D.int 3], D.tup [D.int 1, D.ref p3]]) hp4
      have n0 := dr.ok.ne hp
      have n1 := (dr.ok.gr g0).ne hp1
      have n2 := ((dr.ok.gr g0).gr g1).ne hp2
      have n3 := (((dr.ok.gr g0).gr g1).gr g2).ne hp3
      have ok4 := ((((dr.ok.gr g0).gr g1).gr g2).gr g3)
      have gg := g0.trans (g1.trans (g2.trans (g3.trans g4)))
      refine ⟨b, c, p4, _, rfl, ok4.gr g4, ok4.ne hp4, .inl lupd_same, ⟨by simp, by simp⟩, fun d L3 hd dr3 => ?_⟩
      have D3 : Dr b c L L3 := dr.trans (Dr.gr' gg dr3)
      have e0 := dr3.kp _ _ n0 (g4 _ _ (g3 _ _ (g2 _ _ (g1 _ _ (lupd_same (L := L1) (a := p) (o := .lst [D.int 1, D.int 2]))))))
      have e1 := dr3.kp _ _ n1 (g4 _ _ (g3 _ _ (g2 _ _ (lupd_same (a := p1) (o := .lst [D.int 3, D.int 1])))))
      have e2 := dr3.kp _ _ n2 (g4 _ _ (g3 _ _ (lupd_same (a := p2) (o := .lst []))))
      have e3 := dr3.kp _ _ n3 (g4 _ _ (lupd_same (a := p3) (o := .lst [D.int 2])))
      simp only [List.mem_cons, List.not_mem_nil, or_false] at hd
      rcases hd with rfl | rfl | rfl | rfl | rfl | rfl | rfl | rfl
      · exact hQ _ L3 D3 (wr_lst n0 e0 (by simp) (all2 (.sc (.int _)) (.sc (.int _))))
      · exact hQ _ L3 D3 (wr_lst n1 e1 (by simp) (all2 (.sc (.int _)) (.sc (.int _))))
      · exact hQ _ L3 D3 (wr_lst n2 e2 (by simp) (by simp))
      · exact hQ _ L3 D3 (wr_tup (by simp) (by simp [it_sc, Sc.int]) rfl)
      · exact hQ _ L3 D3 (wr_tup (by simp) (by simp [it_sc, Sc.int]) rfl)
      · exact hQ _ L3 D3 (wr_tup (by simp) (by simp) rfl)
      · exact hQ _ L3 D3 (wr_tup (by simp) (all2 (it_tup (by simp) (all2 (.sc (.int _)) (.sc (.int _)))) (it_sc (.int _))) rfl)
      · exact hQ _ L3 D3 (wr_tup (by simp) (all2 (it_sc (.int _)) (it_lst n3 e3 (by simp) (by simp [Told.sc, Sc.int]))) rfl)
    · rw [decide_eq_false h1]
      refine iteF ?_
      show ∃ c_1, D.bl (decide (way = 2)) = D.bl c_1 ∧ _
      refine ⟨_, rfl, ?_⟩
      by_cases h2 : way = 2
      · rw [decide_eq_true h2]
        refine iteT ?_
        refine ⟨by decide, by decide, by decide, by decide, by decide, by decide, by decide, fun p hp => ?_⟩
        refine ⟨b, c, p, _, rfl, dr.ok.gr (Gr.new hp), dr.ok.ne hp, .inl lupd_same, ⟨by simp, by simp⟩, fun d L3 hd dr3 => ?_⟩
        have D3 : Dr b c L L3 := dr.trans (Dr.gr' (Gr.new hp) dr3)
        simp only [List.mem_cons, List.not_mem_nil, or_false] at hd
        rcases hd with rfl | rfl | rfl | rfl | rfl | rfl
        · exact hQ _ L3 D3 (wr_tup (by simp) (all2 (it_sc (.bl _)) (it_sc (.int _))) rfl)
        · exact hQ _ L3 D3 (wr_tup (by simp) (all2 (it_sc (.int _)) (it_sc (.bl _))) rfl)
        · exact hQ _ L3 D3 (wr_tup (by simp) (all2 (it_sc (.bl _)) (it_sc (.int _))) rfl)
        · exact hQ _ L3 D3 (wr_tup (by simp) (all2 (it_sc (.str _)) (it_sc (.int _))) rfl)
        · exact hQ _ L3 D3 (wr_tup (by simp) (all2 (it_sc (.int _)) (it_sc .non)) rfl)
        · exact hQ _ L3 D3 (wr_tup (by simp) (all2 (it_sc .non) (it_sc (.int _))) rfl)
      · rw [decide_eq_false h2]
        refine iteF ?_
        refine ⟨b, c, 9, rfl, dr.ok, ⟨by decide, by decide⟩, fun u L2 hu dr2 => ?_⟩
        show _ ∧ _
        refine ⟨by decide, by decide, b, c, 9, rfl, dr2.ok, ⟨by decide, by decide⟩, fun v L3 hv dr3 => ?_⟩
        show _ ∧ _
        refine ⟨trivial, by decide, b, c, 9, rfl, dr3.ok, ⟨by decide, by decide⟩, fun x L4 hx dr4 => ?_⟩
        show _ ∧ _
        refine ⟨trivial, by decide, by decide, by decide, fun p hp => ?_⟩
        refine ⟨b, c, p, _, rfl, dr4.ok.gr (Gr.new hp), dr4.ok.ne hp, .inl lupd_same, ⟨by simp, by simp⟩, fun d L5 hd dr5 => ?_⟩
        have D3 : Dr b c L L5 := dr.trans (dr2.trans (dr3.trans (dr4.trans (Dr.gr' (Gr.new hp) dr5))))
        simp only [List.mem_cons, List.not_mem_nil, or_false] at hd
        rcases hd with rfl | rfl | rfl | rfl | rfl
        · exact hQ _ L5 D3 (wr_tup (by simp) (all2 (it_sc (.int _)) (it_sc (.int _))) (by simp [isF]))
        · exact hQ _ L5 D3 (wr_tup (by simp) (all2 (it_sc (.int _)) (it_sc (.int _))) rfl)
        · exact hQ _ L5 D3 (wr_tup (by simp) (all2 (it_sc (.int _)) (it_sc (.int _))) (by simp [isF]; omega))
        · exact hQ _ L5 D3 (wr_tup (by simp) (all2 (it_sc (.int _)) (it_sc (.int _))) (by simp [isF]; omega))
        · exact hQ _ L5 D3 (wr_tup (by simp) (all2 (it_sc (.int _)) (it_sc (.int _))) rfl)
theorem len__law_wrong (ds : List D) (L : LHp) (Q : DK) (E' : XD) (h : sp__law_wrong ds L Q E') : ds.length = 1 := by obtain ⟨B, c, rfl, _⟩ := h; rfl
end K01
namespace K01
open PySem PySem.Spec PyProof.Rows L2 DV FR
local macro_rules | `(tactic| walk_at "dv") => `(tactic| (simp only [dstart, List.map_cons, List.map_nil, List.length_cons, List.length_nil, Nat.reduceAdd, Nat.reduceSub, List.reduceReplicate, List.cons_append, List.nil_append, List.append_nil,
  dSeq, dNext, dSet, dRet, dRetN, dDrop, dAsg, dgName, dgTup, dgCons, dgNil, dgSub, dPar, dIfS, dVar, dC, dOp, dCons, dNil, dCB, dB, dAnd, dOr, dNot, dAndV, dOrV, dNotV, dIf, dTup, dLst, dCall, dBM, dSl, dNoPart, dPart, dFmt, dBits,
  List.getElem?_cons_succ, List.getElem?_cons_zero, List.set_cons_succ, List.set_cons_zero, Option.some.injEq, exists_eq_left', exists_eq_left, List.cons.injEq, D.int.injEq, D.bl.injEq, D.str.injEq, D.tup.injEq, D.ref.injEq, D.fls.injEq, and_true, true_and, and_assoc,
  if_true, if_false, Bool.false_eq_true, exists_const, exists_eq', exists_and_left, exists_and_right, List.length_singleton, ite_true, ite_false, Bool.not_true, Bool.not_false, reduceCtorEq, false_and, exists_false, Bool.false_xor, Bool.true_xor,
  ty_non, ty_bl, ty_int, ty_str, ty_tup, kk01, kk02, kk03, kk04, kk05, kk06, kk07, kk08, kk09, kk10, kk11, kk12, kk13, kk14, kk15, kk16, kk17, kk18, kk19, kk20, kk21, kk22, kk23, kk24, kk25, kk26, kk27, kk28, kk29, kk30, kk31, kk32, kk33, kk34, kk35, kk36, kk37, kk38, kk39, kk40, kk41, kk42,
  rI2, DV.rIxD, rAddD, rLenD, rIsiD, rI2C, rEqv, rSlD, rIntD, rStrD, rAbsD, rIsND, rAppD, rPopD, rInsD, rFindD, tyM, dRaise, wxd, dCallX, dFld, rInLD, bad]))
local macro_rules | `(tactic| walk_at "dw") => `(tactic| simp only [at0, at1, Option.some.injEq, exists_eq_left', exists_eq_left, and_true, true_and, and_assoc, exists_eq', exists_and_left, exists_and_right])
local macro_rules | `(tactic| walk_at "bx") => `(tactic| ((first | refine ⟨?ds, Or.inl ?h1, ?x, ?h2, ?h3⟩ | refine ⟨?ds, ?h1, ?x, ?h2, ?h3⟩); (case h1 => first | assumption | exact lupd_same); (case h2 => rfl)))
local macro_rules | `(tactic| walk_at "dc") => `(tactic| simp only [Int.reduceEq, decide_false, decide_true, Bool.false_eq_true, ite_true, ite_false, if_true, if_false])
theorem atk {ds : List D} {k : Nat} {d : D} (h : ds[k]? = some d) : atI ds (k : Int) = some d := at_gen rfl h
theorem rd__law_call (ds : List D) (L : LHp) (Q : DK) (E' : XD) (h : sp__law_call ds L Q E') : d__law_call E' { nx := fun _ L' => Q .non L', rt := Q } (dstart ["way", "args"] ds) L := by
  obtain ⟨w, t, xs, rfl, hl, h⟩ := h
  unfold d__law_call
  walk_at "dv"
  rcases h with ⟨c, v, rf, hb⟩ | ⟨n, rfl, rfl, hn, hQ⟩
  · cases rf with
    | one hw k f =>
      rcases hw with rfl | rfl
      all_goals
        walk_at "dc"
        exact ⟨_, hl, _, at_gen (j := 0) rfl rfl, _, rfl, k, f, hb L .refl⟩
    | two hw ka kb f => 
      rcases hw with rfl | rfl | rfl
      · walk_at "dc"
        exact ⟨_, hl, _, at_gen (j := 0) rfl rfl, _, hl, _, at_gen (j := 1) rfl rfl, .inl ⟨_, _, _, rfl, ka, kb, f, hb L .refl⟩⟩
      all_goals
        walk_at "dc"
        exact ⟨_, hl, _, at_gen (j := 0) rfl rfl, _, hl, _, at_gen (j := 1) rfl rfl, _, _, _, rfl, ka, kb, f, hb L .refl⟩
    | zero ra rb =>
      walk_at "dc"
      exact ⟨_, hl, _, at_gen (j := 0) rfl rfl, _, hl, _, at_gen (j := 1) rfl rfl, .inr (.inl ⟨_, _, _, rfl, ra, rb, hb L .refl⟩)⟩
    | power ka f =>
      walk_at "dc"
      exact ⟨_, hl, _, at_gen (j := 0) rfl rfl, _, hl, _, at_gen (j := 1) rfl rfl, _, _, rfl, ka, .inl ⟨f, hb L .refl⟩⟩
    | number ka f k c =>
      walk_at "dc"
      exact ⟨_, hl, _, at_gen (j := 0) rfl rfl, _, hl, _, at_gen (j := 1) rfl rfl, _, _, rfl, ka, .inr (.inl ⟨f, ⟨_, k⟩, c, hb L .refl⟩)⟩
    | many hw l l2 k f =>
      have fin : spi_plus [.tup xs] L Q (fun nm ns es L' => E' nm ns es L') := ⟨_, _, rfl, k, f, hb L .refl⟩
      have hz : ∀ n, n ≤ 4 → n ≤ sizeLine := fun n h => Nat.le_trans h (by decide)
      match xs, l, l2, hl, fin with
      | [x, y], _, _, hl, fin =>
        rcases hw with rfl | rfl
        · walk_at "dc"
          refine ⟨_, hl, ?_⟩
          rw [if_pos (by simp)]
          exact ⟨_, hl, _, at_gen (j := 0) rfl rfl, _, hl, _, at_gen (j := 1) rfl rfl, hz _ (by simp), fin⟩
        · walk_at "dc"
          refine ⟨_, hl, ?_⟩
          rw [if_pos (by simp)]
          exact ⟨_, hl, _, at_gen (j := 0) rfl rfl, _, hl, _, at_gen (j := 1) rfl rfl, hz _ (by simp), .inl fin⟩
      | [x, y, z], _, _, hl, fin =>
        rcases hw with rfl | rfl
        · walk_at "dc"
          refine ⟨_, hl, ?_⟩
          rw [if_neg (by simp)]
          refine ⟨_, hl, ?_⟩
          rw [if_pos (by simp)]
          exact ⟨_, hl, _, at_gen (j := 0) rfl rfl, _, hl, _, at_gen (j := 1) rfl rfl, _, hl, _, at_gen (j := 2) rfl rfl, hz _ (by simp), fin⟩
        · walk_at "dc"
          refine ⟨_, hl, ?_⟩
          rw [if_neg (by simp)]
          refine ⟨_, hl, ?_⟩
          rw [if_pos (by simp)]
          exact ⟨_, hl, _, at_gen (j := 0) rfl rfl, _, hl, _, at_gen (j := 1) rfl rfl, _, hl, _, at_gen (j := 2) rfl rfl, hz _ (by simp), .inl fin⟩
      | [x, y, z, u], _, _, hl, fin =>
        rcases hw with rfl | rfl
        · walk_at "dc"
          refine ⟨_, hl, ?_⟩
          rw [if_neg (by simp)]
          refine ⟨_, hl, ?_⟩
          rw [if_neg (by simp)]
          exact ⟨_, hl, _, at_gen (j := 0) rfl rfl, _, hl, _, at_gen (j := 1) rfl rfl, _, hl, _, at_gen (j := 2) rfl rfl, _, hl, _, at_gen (j := 3) rfl rfl, hz _ (by simp), fin⟩
        · walk_at "dc"
          refine ⟨_, hl, ?_⟩
          rw [if_neg (by simp)]
          refine ⟨_, hl, ?_⟩
          rw [if_neg (by simp)]
          exact ⟨_, hl, _, at_gen (j := 0) rfl rfl, _, hl, _, at_gen (j := 1) rfl rfl, _, hl, _, at_gen (j := 2) rfl rfl, _, hl, _, at_gen (j := 3) rfl rfl, hz _ (by simp), .inl fin⟩
    | value k n =>
      walk_at "dc"
      exact ⟨_, hl, _, at_gen (j := 0) rfl rfl, _, rfl, .inl ⟨_, k, n, hb L .refl⟩⟩
    | text h =>
      walk_at "dc"
      exact ⟨_, hl, _, at_gen (j := 0) rfl rfl, _, rfl, .inr (.inl ⟨_, rfl, h, hb⟩)⟩
  · walk_at "dc"
    exact ⟨_, hl, _, at_gen (j := 0) rfl rfl, _, rfl, .inr (.inr ⟨n, rfl, hn, hQ⟩)⟩
theorem len__law_call (ds : List D) (L : LHp) (Q : DK) (E' : XD) (h : sp__law_call ds L Q E') : ds.length = 2 := by obtain ⟨w, t, xs, rfl, _⟩ := h; rfl
theorem rd__law_ask (ds : List D) (L : LHp) (Q : DK) (E' : XD) (h : sp__law_ask ds L Q E') : d__law_ask { nx := fun _ L' => Q .non L', rt := Q } (dstart ["way", "args", "e"] ds) L := by
  obtain ⟨w, t, xs, rfl, hl, h⟩ := h
  unfold d__law_ask dTry
  walk_at "dv"
  refine ⟨w, t, xs, rfl, hl, ?_⟩
  rcases h with ⟨c, v, rf, hQ⟩ | ⟨n, rfl, rfl, hn, hQ⟩
  · refine .inl ⟨c, v, rf, fun L' g => ?_⟩
    have hc : hit c := by cases rf <;> first | exact .inl rfl | exact .inr rfl
    exact ⟨hc, c, v, rfl, hc, fun L2 g2 => hQ L2 (g.trans g2)⟩
  · exact .inr ⟨n, rfl, rfl, hn, fun L' g => ⟨by decide, hQ L' g⟩⟩
theorem len__law_ask (ds : List D) (L : LHp) (Q : DK) (E' : XD) (h : sp__law_ask ds L Q E') : ds.length = 2 := by obtain ⟨w, t, xs, rfl, _⟩ := h; rfl
end K01
namespace K01
open PySem PySem.Spec PyProof.Rows L2 DV FR
local macro_rules | `(tactic| walk_at "dv") => `(tactic| (simp only [dstart, List.map_cons, List.map_nil, List.length_cons, List.length_nil, Nat.reduceAdd, Nat.reduceSub, List.reduceReplicate, List.cons_append, List.nil_append, List.append_nil,
  dSeq, dNext, dSet, dRet, dRetN, dDrop, dAsg, dgName, dgTup, dgCons, dgNil, dgSub, dPar, dIfS, dVar, dC, dOp, dCons, dNil, dCB, dB, dAnd, dOr, dNot, dAndV, dOrV, dNotV, dIf, dTup, dLst, dCall, dBM, dSl, dNoPart, dPart, dFmt, dBits,
  List.getElem?_cons_succ, List.getElem?_cons_zero, List.set_cons_succ, List.set_cons_zero, Option.some.injEq, exists_eq_left', exists_eq_left, List.cons.injEq, D.int.injEq, D.bl.injEq, D.str.injEq, D.tup.injEq, D.ref.injEq, D.fls.injEq, and_true, true_and, and_assoc,
  if_true, if_false, Bool.false_eq_true, exists_const, exists_eq', exists_and_left, exists_and_right, List.length_singleton, ite_true, ite_false, Bool.not_true, Bool.not_false, reduceCtorEq, false_and, exists_false, Bool.false_xor, Bool.true_xor,
  ty_non, ty_bl, ty_int, ty_str, ty_tup, kk01, kk02, kk03, kk04, kk05, kk06, kk07, kk08, kk09, kk10, kk11, kk12, kk13, kk14, kk15, kk16, kk17, kk18, kk19, kk20, kk21, kk22, kk23, kk24, kk25, kk26, kk27, kk28, kk29, kk30, kk31, kk32, kk33, kk34, kk35, kk36, kk37, kk38, kk39, kk40, kk41, kk42,
  rI2, DV.rIxD, rAddD, rLenD, rIsiD, rI2C, rEqv, rSlD, rIntD, rStrD, rAbsD, rIsND, rAppD, rPopD, rInsD, rFindD, tyM, dRaise, wxd, dCallX, dFld, rInLD, bad]))
local macro_rules | `(tactic| walk_at "dw") => `(tactic| simp only [at0, at1, Option.some.injEq, exists_eq_left', exists_eq_left, and_true, true_and, and_assoc, exists_eq', exists_and_left, exists_and_right])
local macro_rules | `(tactic| walk_at "bx") => `(tactic| ((first | refine ⟨?ds, Or.inl ?h1, ?x, ?h2, ?h3⟩ | refine ⟨?ds, ?h1, ?x, ?h2, ?h3⟩); (case h1 => first | assumption | exact lupd_same); (case h2 => rfl)))
/-- lists stay lists, dicts dicts -/
def Sh (L L' : LHp) : Prop := ∀ a, ((∃ ds, LRd L a ds) → ∃ ds, LRd L' a ds) ∧ ((∃ k, L a = some (.dk k)) → ∃ k, L' a = some (.dk k))
theorem Sh.refl {L : LHp} : Sh L L := fun _ => ⟨id, id⟩
theorem Sh.trans {L L1 L2 : LHp} (s : Sh L L1) (t : Sh L1 L2) : Sh L L2 := fun a => ⟨fun h => (t a).1 ((s a).1 h), fun h => (t a).2 ((s a).2 h)⟩
theorem Sh.gr {L L' : LHp} (g : Gr L L') : Sh L L' := fun a => ⟨fun ⟨ds, e⟩ => ⟨ds, e.imp (g _ _) (g _ _)⟩, fun ⟨k, e⟩ => ⟨k, g _ _ e⟩⟩
theorem Sh.dr {L L' : LHp} {b c : Addr} (ok : BagOk L b c) (d : Dr b c L L') : Sh L L' := fun a => by
  by_cases h : a = b
  · subst h
    obtain ⟨_, _, _, _, _, _, h1, _⟩ := ok.ex
    obtain ⟨_, _, _, _, _, _, h2, _⟩ := d.ok.ex
    exact ⟨fun _ => ⟨_, .inl h2⟩, fun ⟨k, e⟩ => by rw [h1] at e; cases e⟩
  · exact ⟨fun ⟨ds, e⟩ => ⟨ds, d.rd h e⟩, fun ⟨k, e⟩ => ⟨k, d.kp _ _ h e⟩⟩
theorem Sh.put {L : LHp} {t : Addr} {xs ys : List D} (h : L t = some (.lst xs)) : Sh L (lupd L t (.lst ys)) := fun a => by
  by_cases e : a = t
  · subst e
    exact ⟨fun _ => ⟨_, .inl lupd_same⟩, fun ⟨k, z⟩ => by rw [h] at z; cases z⟩
  · exact ⟨fun ⟨ds, z⟩ => ⟨ds, z.imp (fun z => by rw [lupd_ne e]; exact z) (fun z => by rw [lupd_ne e]; exact z)⟩, fun ⟨k, z⟩ => ⟨k, by rw [lupd_ne e]; exact z⟩⟩
theorem ty_sh {L L' : LHp} (s : Sh L L') {d : D} {t : String} (h : tyD L d t) : tyD L' d t := by
  cases d with
  | ref a => exact h.imp (fun ⟨h, e⟩ => ⟨(s a).1 h, e⟩) (fun ⟨h, e⟩ => ⟨(s a).2 h, e⟩)
  | _ => exact h
theorem Kn.sh {L L' : LHp} (s : Sh L L') {d : D} (h : Kn L d) : Kn L' d := ⟨h.1.imp fun _ h => ty_sh s h, fun ds e x hx => (h.2 ds e x hx).imp fun _ h => ty_sh s h⟩
/-- told, away from two -/
theorem Told.two {L L' : LHp} {b t : Addr} (k : ∀ a o, a ≠ b → a ≠ t → L a = some o → L' a = some o) : ∀ {n : Nat} {d : D}, Told L b n d → Told L t n d → Told L' b n d ∧ Told L' t n d := fun {n} => by
  induction n with
  | zero => intro d h1 h2; cases h1 with | sc s => exact ⟨.sc s, .sc s⟩
  | succ n ih =>
    intro d h1 h2
    cases h1 with
    | sc s => exact ⟨.sc s, .sc s⟩
    | tup hl h =>
      cases h2 with
      | sc s => cases s
      | tup _ h' => exact ⟨.tup hl fun d hd => (ih (h d hd) (h' d hd)).1, .tup hl fun d hd => (ih (h d hd) (h' d hd)).2⟩
    | lst hb e hl h =>
      cases h2 with
      | sc s => cases s
      | lst hb' e' _ h' =>
        rw [e] at e'
        cases e'
        have e2 := k _ _ hb hb' e
        exact ⟨.lst hb e2 hl fun d hd => (ih (h d hd) (h' d hd)).1, .lst hb' e2 hl fun d hd => (ih (h d hd) (h' d hd)).2⟩
      | dct _ e' => rw [e] at e'; cases e'
    | dct hb e =>
      cases h2 with
      | sc s => cases s
      | lst _ e' _ _ => rw [e] at e'; cases e'
      | dct hb' e' => exact ⟨.dct hb (k _ _ hb hb' e), .dct hb' (k _ _ hb hb' e)⟩
theorem Told.fresh {L : LHp} {b t : Addr} (ht : L t = none) : ∀ {n : Nat} {d : D}, Told L b n d → Told L t n d := fun {n} => by
  have ne : ∀ {a o}, L a = some o → a ≠ t := fun e z => by rw [z, ht] at e; cases e
  induction n with
  | zero => intro d h; cases h with | sc s => exact .sc s
  | succ n ih =>
    intro d h
    cases h with
    | sc s => exact .sc s
    | tup hl h => exact .tup hl fun d hd => ih (h d hd)
    | lst hb e hl h => exact .lst (ne e) e hl fun d hd => ih (h d hd)
    | dct hb e => exact .dct (ne e) e
theorem Told.dr {L L' : LHp} {b c : Addr} (d : Dr b c L L') {n : Nat} {v : D} (h : Told L b n v) : Told L' b n v := (Told.two (fun a o n _ e => d.kp a o n e) h h).1
theorem Told.up {L : LHp} {b : Addr} : ∀ {n : Nat} {d : D}, Told L b n d → Told L b (n + 1) d := fun {n} => by
  induction n with
  | zero => intro d h; cases h with | sc s => exact .sc s
  | succ n ih =>
    intro d h
    cases h with
    | sc s => exact .sc s
    | tup hl h => exact .tup hl fun d hd => ih (h d hd)
    | lst hb e hl h => exact .lst hb e hl fun d hd => ih (h d hd)
    | dct hb e => exact .dct hb e
theorem Wrong.dr {L L' : LHp} {b c : Addr} {v : D} (ok : BagOk L b c) (d : Dr b c L L') (h : Wrong L b v) : Wrong L' b v := ⟨h.1.sh (.dr ok d), h.2.1, h.2.2.dr d⟩
theorem Wrong.gr {L L' : LHp} {b : Addr} {v : D} (g : Gr L L') (h : Wrong L b v) : Wrong L' b v := ⟨h.1.sh (.gr g), h.2.1, h.2.2.gr g⟩
theorem Wrong.put {L : LHp} {b t : Addr} {v : D} {xs ys : List D} (h : Wrong L b v) (ht : Told L t 3 v) (e : L t = some (.lst xs)) : Wrong (lupd L t (.lst ys)) b v ∧ Told (lupd L t (.lst ys)) t 3 v :=
  have z := Told.two (L' := lupd L t (.lst ys)) (fun a o _ n e => by rw [lupd_ne n]; exact e) h.2.2 ht
  ⟨⟨h.1.sh (.put e), h.2.1, z.1⟩, z.2⟩
/-- the lists that the law hands -/
structure Good (L : LHp) (m k : Nat) (xs : List D) (wr : D) : Prop where
  len : xs.length = m
  kn : ∀ v ∈ xs, Kn L v
  pre : ∀ v ∈ xs.take k, isF v = true
  at_ : xs[k]? = some wr
  bad : isF wr = false
theorem Good.first {L : LHp} {m k : Nat} {xs : List D} {wr : D} (h : Good L m k xs wr) : First xs wr := by
  unfold First
  have hk : k < xs.length := (List.getElem?_eq_some_iff.mp h.at_).1
  have e : xs[k] = wr := (List.getElem?_eq_some_iff.mp h.at_).2
  have hs : xs = xs.take k ++ wr :: xs.drop (k + 1) := by
    rw [← e, List.getElem_cons_drop, List.take_append_drop]
  rw [hs, List.find?_append, List.find?_eq_none.mpr (fun x hx => by rw [h.pre x hx]; decide), Option.none_or, List.find?_cons_of_pos (by rw [h.bad]; rfl)]
theorem Good.sh {L L' : LHp} {m k : Nat} {xs : List D} {wr : D} (s : Sh L L') (h : Good L m k xs wr) : Good L' m k xs wr := ⟨h.len, fun v hv => (h.kn v hv).sh s, h.pre, h.at_, h.bad⟩
theorem Good.set {L : LHp} {m k : Nat} {xs : List D} {wr v : D} (h : Good L m k xs wr) (hv : Kn L v) : Good L m k (xs.set (k + 1) v) wr := by
  refine ⟨by rw [List.length_set]; exact h.len, fun x hx => ?_, fun x hx => ?_, ?_, h.bad⟩
  · rcases List.mem_or_eq_of_mem_set hx with hx | rfl
    · exact h.kn x hx
    · exact hv
  · rw [List.take_set_of_le (by omega)] at hx
    exact h.pre x hx
  · rw [List.getElem?_set_ne (by omega)]; exact h.at_
/-- what is due behind the first replacement -/
inductive Due (L : LHp) (w : Int) (m k : Nat) (xs : List D) (wr : D) : Prop
  | last (h : k + 1 = m) (r : Ref L w xs "BadFraction" wr)
  | gen (h : w = 3 ∨ w = 4 ∨ w = 5) (hm : m = 2) (g : Good L m k xs wr)
  | many (h : w = 7 ∨ w = 8) (h2 : 2 ≤ m ∧ m ≤ 4) (g : Good L m k xs wr)
  | pow (h : w = 2) (hk : k = 0) (hm : m = 2) (y : D) (e : xs = [wr, y]) (kn : Kn L wr) (f : isF wr = false)
theorem Ref.sh {L L' : LHp} (s : Sh L L') {w : Int} {xs : List D} {c : Str} {v : D} (h : Ref L w xs c v) : Ref L' w xs c v := by
  cases h with
  | one h k f => exact .one h (k.sh s) f
  | two h ka kb f => exact .two h (ka.sh s) (kb.sh s) f
  | zero ra rb => exact .zero ra rb
  | power ka f => exact .power (ka.sh s) f
  | number ka f k c => exact .number (ka.sh s) f (ty_sh s k) c
  | many h l l2 k f => exact .many h l l2 (fun v hv => (k v hv).sh s) f
  | value k n => exact .value (ty_sh s k) n
  | text h => exact .text h
theorem Due.sh {L L' : LHp} (s : Sh L L') {w : Int} {m k : Nat} {xs : List D} {wr : D} (h : Due L w m k xs wr) : Due L' w m k xs wr := by
  cases h with
  | last h r => exact .last h (r.sh s)
  | gen h hm g => exact .gen h hm (g.sh s)
  | many h h2 g => exact .many h h2 (g.sh s)
  | pow h hk hm y e kn f => exact .pow h hk hm y e (kn.sh s) f
theorem Due.ref {L : LHp} {w : Int} {m k : Nat} {xs : List D} {wr : D} (h : Due L w m k xs wr) : Ref L w xs "BadFraction" wr := by
  cases h with
  | last h r => exact r
  | gen h hm g =>
    match xs, g with
    | [a, b], g => exact .two h (g.kn a (by simp)) (g.kn b (by simp)) g.first
    | [], g => have := g.len; simp at this; omega
    | [a], g => have := g.len; simp at this; omega
    | a :: b :: d :: r, g => have := g.len; simp at this; omega
  | many h h2 g => exact .many h (by rw [g.len]; exact h2.1) (by rw [g.len]; exact h2.2) g.kn g.first
  | pow h hk hm y e kn f => subst h e; exact .power kn f
theorem Due.len {L : LHp} {w : Int} {m k : Nat} {xs : List D} {wr : D} (h : Due L w m k xs wr) (hk : k + 1 < m) : xs.length = m := by
  cases h with
  | last h r => omega
  | gen h hm g => exact g.len
  | many h h2 g => exact g.len
  | pow h hk hm y e kn f => rw [e, hm]; rfl
theorem ixK {n i : Nat} (h : i < n) : ixN n (i : Int) = some i := by
  unfold ixN
  rw [if_pos (by omega), if_pos (by omega)]
  simp
def t10__law_refusals : DS := (dRet (dCall sp__law_like ED0 (dCons (dCall sp__law_ask ED0 (dCons (dVar 1) (dCons (dVar 6) dNil))) (dCons (dTup (dCons (dC (.str (PySem.Str.ofString "BadFraction"))) (dCons (dVar 5) dNil))) dNil))))
def t9__law_refusals : DS := dSeq (dIfS (dAnd (dB (dOp rLtD (dOp rAddD (dVar 4) (dC (.int 1))) (dVar 2))) (dB (dOp (rEqv false) (dCall sp__law_draw ED0 (dCons (dVar 0) (dCons (dC (.int 2)) dNil))) (dC (.int 0)))))
      (dAsg (dIf (dB (dOp (rEqv true) (dVar 1) (dC (.int 2)))) (dCall sp__law_wrong ED0 (dCons (dVar 0) dNil)) (dCall sp__law_of ED0 (dCons (dVar 0) (dCons (dLst (dCons (dC (.bl true)) (dCons (dC .non) (dCons (dC (.int (-1))) dNil)))) dNil)))) (dgSub (dVar 6) (dOp rAddD (dVar 4) (dC (.int 1)))))
      dNext) t10__law_refusals
def t8__law_refusals : DS := dSeq (dAsg (dVar 5) (dgSub (dVar 6) (dVar 4))) t9__law_refusals
def t7__law_refusals : DS := dSeq (dSet 6 (dIf (dB (dOp (rEqv true) (dVar 1) (dC (.int 2)))) (dLcL 8 (dVar 3) dTYes (dCall sp__law_dress ED0 (dCons (dVar 0) (dCons (dVar 8) dNil)))) (dLst (dCons (dCall sp__law_dress ED0 (dCons (dVar 0) (dCons (dOp rIxD (dVar 3) (dC (.int 0))) dNil))) (dCons (dOp rIxD (dVar 3) (dC (.int 1))) dNil))))) t8__law_refusals
def t6__law_refusals : DS := dSeq (dIfS (dAnd (dB (dOp (rEqv false) (dVar 1) (dC (.int 3)))) (dAnd (dB (dOp (rEqv false) (dVar 4) (dC (.int 1)))) (dB (dOp (rEqv false) (dCall sp__law_draw ED0 (dCons (dVar 0) (dCons (dC (.int 2)) dNil))) (dC (.int 0))))))
      (dSet 5 (dCall sp__law_of ED0 (dCons (dVar 0) (dCons (dLst (dCons (dC (.int 0)) (dCons (dTup (dCons (dC (.int 0)) (dCons (dC (.int 1)) dNil))) (dCons (dTup (dCons (dC (.int 0)) (dCons (dC (.int 7)) dNil))) dNil)))) dNil))))
      dNext) t7__law_refusals
def t5__law_refusals : DS := dSeq (dSet 5 (dCall sp__law_wrong ED0 (dCons (dVar 0) dNil))) t6__law_refusals
def t4__law_refusals : DS := dSeq (dIfS (dAnd (dB (dOp (rEqv false) (dVar 1) (dC (.int 2)))) (dB (dOp (rEqv false) (dVar 4) (dC (.int 1)))))
      (dSeq (dAsg (dCall sp__law_of ED0 (dCons (dVar 0) (dCons (dLst (dCons (dC (.bl true)) (dCons (dC (.bl false)) (dCons (dC .non) (dCons (dC (.int (-1))) (dCons (dC (.str (PySem.Str.ofString "2"))) (dCons (dTup (dCons (dC (.int 2)) (dCons (dC (.int 1)) dNil))) (dCons (dLst (dCons (dC (.int 2)) dNil)) (dCons (dC (.int (-3))) dNil))))))))) dNil))) (dgSub (dVar 3) (dC (.int 1))))
      (dRet (dCall sp__law_like ED0 (dCons (dCall sp__law_ask ED0 (dCons (dVar 1) (dCons (dLst (dCons (dCall sp__law_dress ED0 (dCons (dVar 0) (dCons (dOp rIxD (dVar 3) (dC (.int 0))) dNil))) (dCons (dOp rIxD (dVar 3) (dC (.int 1))) dNil))) dNil))) (dCons (dTup (dCons (dC (.str (PySem.Str.ofString "BadNumber"))) (dCons (dOp rIxD (dVar 3) (dC (.int 1))) dNil))) dNil)))))
      dNext) t5__law_refusals
def t3__law_refusals : DS := dSeq (dSet 4 (dCall sp__law_draw ED0 (dCons (dVar 0) (dCons (dVar 2) dNil)))) t4__law_refusals
def t2__law_refusals : DS := dSeq (dIfS (dB (dOp (rEqv false) (dVar 1) (dC (.int 2))))
      (dAsg (dCall sp__law_draw ED0 (dCons (dVar 0) (dCons (dC (.int 9)) dNil))) (dgSub (dVar 3) (dC (.int 1))))
      dNext) t3__law_refusals
def t1__law_refusals : DS := dSeq (dSet 3 (dLcR 7 (dCons (dVar 2) dNil) dTYes (dCall sp__law_right ED0 (dCons (dVar 0) dNil)))) t2__law_refusals
def t0__law_refusals : DS := dSeq (dSet 2 (dIf (dB (dOp rLtD (dVar 1) (dC (.int 2)))) (dC (.int 1)) (dIf (dB (dOp rLtD (dVar 1) (dC (.int 6)))) (dC (.int 2)) (dOp rAddD (dC (.int 2)) (dCall sp__law_draw ED0 (dCons (dVar 0) (dCons (dC (.int 3)) dNil))))))) t1__law_refusals
theorem e__law_refusals : d__law_refusals = t0__law_refusals := rfl
abbrev nx0 (Q : DK) : DEnds := { nx := fun _ L' => Q .non L', rt := Q }
theorem ref10 {L : LHp} {b t : Addr} {w : Int} {xs : List D} {wr : D} {Q : DK} {y2 y3 y4 y7 y8 : Option D} (r : Ref L w xs "BadFraction" wr) (hl : LRd L t xs) (ht : Told L b 3 wr) (hQ : ∀ L', Gr L L' → Q (.bl true) L') :
    t10__law_refusals (nx0 Q) [some (.ref b), some (.int w), y2, y3, y4, some wr, some (.ref t), y7, y8] L := by
  unfold t10__law_refusals
  walk_at "dv"
  refine ⟨w, t, xs, rfl, hl, .inl ⟨_, wr, r, fun L1 g1 => ⟨by decide, _, b, rfl, .tup (by simp) (all2 (.sc (.str _)) (ht.gr g1)), fun L2 g2 => hQ L2 (g1.trans g2)⟩⟩⟩
theorem Due.put {L : LHp} {w : Int} {m k : Nat} {xs : List D} {wr v : D} (h : Due L w m k xs wr) (hk : k + 1 < m) (hv : Kn L v) : Due L w m k (xs.set (k + 1) v) wr := by
  cases h with
  | last h r => omega
  | gen h hm g => exact .gen h hm (g.set hv)
  | many h h2 g => exact .many h h2 (g.set hv)
  | pow h hk hm y e kn f => subst hk e; exact .pow h rfl hm v rfl kn f
theorem dr_put {L0 L : LHp} {b c t : Addr} {ys : List D} (ok0 : BagOk L0 b c) (t0 : L0 t = none) (d : Dr b c L0 L) : Dr b c L0 (lupd L t (.lst ys)) :=
  ⟨d.ok.upd (ok0.ne t0) (ok0.nc t0), fun a o n e => by rw [lupd_ne (fun z => by rw [z, t0] at e; cases e)]; exact d.kp a o n e⟩
theorem ref9 {L0 L : LHp} {b c t : Addr} {w : Int} {m k : Nat} {xs : List D} {wr : D} {Q : DK} {y3 y7 y8 : Option D} (ok0 : BagOk L0 b c) (t0 : L0 t = none) (d0 : Dr b c L0 L) (hl : L t = some (.lst xs)) (ht : Told L b 3 wr) (ht2 : Told L t 3 wr) (du : Due L w m k xs wr) (hQ : ∀ L', Dr b c L0 L' → Q (.bl true) L') :
    t9__law_refusals (nx0 Q) [some (.ref b), some (.int w), some (.int (m : Int)), y3, some (.int (k : Int)), some wr, some (.ref t), y7, y8] L := by
  have ne := ok0.ne t0
  have go : ∀ L1, Dr b c L L1 → L1 t = some (.lst xs) → t10__law_refusals (nx0 Q) [some (.ref b), some (.int w), some (.int (m : Int)), y3, some (.int (k : Int)), some wr, some (.ref t), y7, y8] L1 := fun L1 d1 e1 =>
    ref10 (du.sh (.dr d0.ok d1)).ref (.inl e1) (ht.dr d1) fun L2 g2 => hQ L2 (d0.trans (d1.gr g2))
  unfold t9__law_refusals
  walk_at "dv"
  by_cases hk : (k : Int) + 1 < (m : Int)
  · rw [decide_eq_true hk]
    refine iteT ⟨b, c, 2, rfl, d0.ok, ⟨by decide, by decide⟩, fun d L1 hd d1 => ?_⟩
    have e1 := d1.kp _ _ ne hl
    have hlen := du.len (by omega)
    have ix : ixN xs.length ((k : Int) + 1) = some (k + 1) := ixK (i := k + 1) (by omega)
    have put : ∀ L2 v, Dr b c L L2 → Kn L2 v → ∃ ys, L2 t = some (.lst ys) ∧ ∃ j, ixN ys.length ((k : Int) + 1) = some j ∧ t10__law_refusals (nx0 Q) [some (.ref b), some (.int w), some (.int (m : Int)), y3, some (.int (k : Int)), some wr, some (.ref t), y7, y8] (lupd L2 t (.lst (ys.set j v))) := fun L2 v d2 kv => by
      have e2 := d2.kp _ _ ne hl
      have z := Told.two (fun a o n _ e => d2.kp a o n e) ht ht2
      have z2 := Told.two (L' := lupd L2 t (.lst (xs.set (k + 1) v))) (fun a o _ n e => by rw [lupd_ne n]; exact e) z.1 z.2
      have dd := ((du.sh (.dr d0.ok d2)).put (by omega) kv).sh (.put e2 (ys := xs.set (k + 1) v))
      exact ⟨xs, e2, k + 1, ix, ref10 dd.ref (.inl lupd_same) z2.1 fun L3 g3 => hQ L3 ((dr_put ok0 t0 (d0.trans d2)).gr g3)⟩
    show ∃ c_1, D.bl (decide (d = 0)) = D.bl c_1 ∧ _
    by_cases h0 : d = 0
    · rw [decide_eq_true h0]
      refine ⟨true, rfl, iteT ?_⟩
      by_cases hw : w = 2
      · rw [decide_eq_true hw]
        refine iteF ⟨by decide, fun p hp => ?_⟩
        refine ⟨b, c, p, _, rfl, d1.ok.gr (Gr.new hp), d1.ok.ne hp, .inl lupd_same, ⟨by simp, by simp⟩, fun v L2 hv d2 => ?_⟩
        refine put L2 v (d1.trans (Dr.gr' (Gr.new hp) d2)) ?_
        simp only [List.mem_cons, List.not_mem_nil, or_false] at hv
        rcases hv with rfl | rfl | rfl
        · exact kn_sc (.bl _)
        · exact kn_sc .non
        · exact kn_sc (.int _)
      · rw [decide_eq_false hw]
        exact iteT ⟨b, c, rfl, d1.ok, fun v L2 d2 wv => put L2 v (d1.trans d2) wv.1⟩
    · rw [decide_eq_false h0]
      exact ⟨false, rfl, iteF (go L1 d1 e1)⟩
  · rw [decide_eq_false hk]
    exact iteF (go L (.refl d0.ok) hl)
/-- what the law hands, ahead of the replacement -/
structure Hand (L : LHp) (w : Int) (m k : Nat) (hs : List D) (wr : D) : Prop where
  len : hs.length = m
  lt : k < m
  kn : ∀ v ∈ hs, Kn L v
  pre : ∀ v ∈ hs.take k, isF v = true
  cs : ((w = 0 ∨ w = 1) ∧ m = 1 ∧ isF wr = false) ∨ ((w = 3 ∨ w = 4 ∨ w = 5) ∧ m = 2 ∧ isF wr = false) ∨ ((w = 7 ∨ w = 8) ∧ (2 ≤ m ∧ m ≤ 4) ∧ isF wr = false) ∨ (w = 2 ∧ k = 0 ∧ m = 2 ∧ isF wr = false) ∨
    (w = 3 ∧ k = 1 ∧ m = 2 ∧ Raw 8000 wr 0 ∧ ∃ x p, hs[0]? = some x ∧ Raw 8000 x p)
theorem Hand.due {L : LHp} {w : Int} {m k : Nat} {hs : List D} {wr : D} (h : Hand L w m k hs wr) (kw : Kn L wr) : Due L w m k (hs.set k wr) wr := by
  have hl := h.len
  have lt := h.lt
  have good : isF wr = false → Good L m k (hs.set k wr) wr := fun f => ⟨by rw [List.length_set]; exact hl, fun v hv => by
      rcases List.mem_or_eq_of_mem_set hv with hv | rfl
      · exact h.kn v hv
      · exact kw, fun v hv => by
      rw [List.take_set_of_le (Nat.le_refl _)] at hv
      exact h.pre v hv, by rw [List.getElem?_set_self (by omega)], f⟩
  rcases h.cs with ⟨hw, hm, f⟩ | ⟨hw, hm, f⟩ | ⟨hw, hm, f⟩ | ⟨hw, hk, hm, f⟩ | ⟨hw, hk, hm, r, x, p, hx, rx⟩
  · match hs, hl with
    | [y], _ =>
      have : k = 0 := by omega
      subst this
      exact .last (by omega) (.one hw kw f)
    | [], hl => simp at hl; omega
    | a :: b :: r, hl => simp at hl; omega
  · exact .gen hw hm (good f)
  · exact .many hw hm (good f)
  · match hs, hl with
    | [y, z], _ => subst hk; exact .pow hw rfl hm z rfl kw f
    | [], hl => simp at hl; omega
    | [a], hl => simp at hl; omega
    | a :: b :: d :: r, hl => simp at hl; omega
  · match hs, hl with
    | [y, z], _ =>
      subst hk hw
      cases hx
      exact .last (by omega) (.zero rx r)
    | [], hl => simp at hl; omega
    | [a], hl => simp at hl; omega
    | a :: b :: d :: r, hl => simp at hl; omega
theorem Hand.sh {L L' : LHp} (s : Sh L L') {w : Int} {m k : Nat} {hs : List D} {wr : D} (h : Hand L w m k hs wr) : Hand L' w m k hs wr := ⟨h.len, h.lt, fun v hv => (h.kn v hv).sh s, h.pre, h.cs⟩
theorem ref8 {L0 L : LHp} {b c t : Addr} {w : Int} {m k : Nat} {hs : List D} {wr : D} {Q : DK} {y3 y7 y8 : Option D} (ok0 : BagOk L0 b c) (t0 : L0 t = none) (d0 : Dr b c L0 L) (hl : L t = some (.lst hs)) (kw : Kn L wr) (ht : Told L b 3 wr) (ht2 : Told L t 3 wr) (hd : Hand L w m k hs wr) (hQ : ∀ L', Dr b c L0 L' → Q (.bl true) L') :
    t8__law_refusals (nx0 Q) [some (.ref b), some (.int w), some (.int (m : Int)), y3, some (.int (k : Int)), some wr, some (.ref t), y7, y8] L := by
  have lt := hd.lt
  have hl2 := hd.len
  unfold t8__law_refusals
  walk_at "dv"
  refine ⟨hs, hl, k, ixK (by omega), ?_⟩
  have z2 := Told.two (L' := lupd L t (.lst (hs.set k wr))) (fun a o _ n e => by rw [lupd_ne n]; exact e) ht ht2
  exact ref9 ok0 t0 (dr_put ok0 t0 d0) lupd_same z2.1 z2.2 ((hd.due kw).sh (.put hl)) hQ
def Cs (w : Int) (m k : Nat) (wr : D) : Prop := ((w = 0 ∨ w = 1) ∧ m = 1 ∧ isF wr = false) ∨ ((w = 3 ∨ w = 4 ∨ w = 5) ∧ m = 2 ∧ isF wr = false) ∨ ((w = 7 ∨ w = 8) ∧ (2 ≤ m ∧ m ≤ 4) ∧ isF wr = false) ∨ (w = 2 ∧ k = 0 ∧ m = 2 ∧ isF wr = false) ∨ (w = 3 ∧ k = 1 ∧ m = 2 ∧ Raw 8000 wr 0)
theorem hand_of {L : LHp} {w : Int} {m k : Nat} {hs : List D} {qs : List Rat} {wr : D} (r : RawL 103 hs qs) (hl : qs.length = m) (lt : k < m) (cs : Cs w m k wr) : Hand L w m k hs wr := by
  have hlen := r.length
  have raw : ∀ v ∈ hs, ∃ q, Raw 103 v q := fun v hv => by
    obtain ⟨i, hi, e⟩ := List.mem_iff_getElem.mp hv
    obtain ⟨q, _, rq⟩ := r.get (i := i) (d := v) (by rw [List.getElem?_eq_getElem hi, e])
    exact ⟨q, rq⟩
  refine ⟨by omega, lt, fun v hv => ?_, fun v hv => ?_, ?_⟩
  · obtain ⟨q, rq⟩ := raw v hv; exact raw_kn rq
  · obtain ⟨q, rq⟩ := raw v (List.mem_of_mem_take hv); exact raw_isF rq
  · rcases cs with h | h | h | h | ⟨h1, h2, h3, h4⟩
    · exact .inl h
    · exact .inr (.inl h)
    · exact .inr (.inr (.inl h))
    · exact .inr (.inr (.inr (.inl h)))
    · have e0 : hs[0]? = some hs[0] := List.getElem?_eq_getElem (by omega)
      obtain ⟨q, _, rq⟩ := r.get e0
      exact .inr (.inr (.inr (.inr ⟨h1, h2, h3, h4, _, q, e0, rq.mono (by decide)⟩)))
theorem ref7a {L : LHp} {b c p : Addr} {w : Int} {m k : Nat} {qs : List Rat} {wr : D} {Q : DK} {y6 y7 y8 : Option D} (ok : BagOk L b c) (np : p ≠ b) (hl : L p = some (.lst (qs.map fr))) (hq : ∀ q ∈ qs, Bd 100 q) (hm : qs.length = m) (lt : k < m) (kw : Kn L wr) (ht : Told L b 3 wr) (w2 : w ≠ 2) (cs : Cs w m k wr) (hQ : ∀ L', Dr b c L L' → Q (.bl true) L') :
    t7__law_refusals (nx0 Q) [some (.ref b), some (.int w), some (.int (m : Int)), some (.ref p), some (.int (k : Int)), some wr, y6, y7, y8] L := by
  unfold t7__law_refusals
  walk_at "dv"
  rw [decide_eq_false w2]
  refine iteT ?_
  unfold dLcL
  walk_at "dv"
  refine ⟨_, .inl hl, fun E hE => ?_⟩
  refine ⟨fun i L' => ∃ hs, L' E = some (.lst hs) ∧ RawL 103 hs (qs.take i) ∧ Dr b c L L', ⟨[], lupd_same, by rw [List.take_zero]; exact .nil, .gr (.refl ok) (Gr.new hE)⟩, fun i L' hi ⟨hs, _, _, d⟩ => d.rd np (.inl hl), fun i d L' hd ⟨hs, e, r, dr⟩ => ?_, fun L' ⟨hs, e, r, dr⟩ => ?_⟩
  · rw [List.getElem?_map] at hd
    obtain ⟨q, gq, rfl⟩ := Option.map_eq_some_iff.mp hd
    have bq := hq q (List.mem_of_getElem? gq)
    unfold lcTurn dTYes
    walk_at "dv"
    refine ⟨b, c, q, 100, rfl, dr.ok, bq, by decide, fun d L2 d2 rd => ?_⟩
    have nE := ok.ne hE
    have e2 := d2.kp _ _ nE e
    refine ⟨hs, e2, ?_, hs ++ [d], lupd_same, ?_, dr_put ok hE (dr.trans d2)⟩
    · have := r.length
      rw [this, List.length_take]
      have h1 : i < qs.length := (List.getElem?_eq_some_iff.mp gq).1
      have m4 : m ≤ 4 := by rcases cs with h | h | h | h | h <;> omega
      exact Nat.lt_of_lt_of_le (show min i qs.length < 4 by omega) (by decide)
    · rw [take_snoc gq]
      exact r.snoc rd
  · rw [List.length_map, List.take_length] at r
    have kp := fun a o n (_ : a ≠ E) e => dr.kp a o n e
    have z := Told.two kp ht (ht.fresh hE)
    exact ref8 ok hE dr e (kw.sh (.dr ok dr)) z.1 z.2 (hand_of r hm lt cs) hQ
theorem ref7b {L : LHp} {b c p : Addr} {q : Rat} {d : Int} {wr : D} {Q : DK} {y6 y7 y8 : Option D} (ok : BagOk L b c) (np : p ≠ b) (hl : L p = some (.lst [fr q, .int d])) (hq : Bd 100 q) (kw : Kn L wr) (ht : Told L b 3 wr) (f : isF wr = false) (hQ : ∀ L', Dr b c L L' → Q (.bl true) L') :
    t7__law_refusals (nx0 Q) [some (.ref b), some (.int 2), some (.int (2 : Nat)), some (.ref p), some (.int (0 : Nat)), some wr, y6, y7, y8] L := by
  unfold t7__law_refusals
  walk_at "dv"
  refine iteF ?_
  refine ⟨_, .inl hl, _, at_gen (j := 0) rfl rfl, b, c, q, 100, rfl, ok, hq, by decide, fun x L1 d1 rx => ⟨_, d1.rd np (.inl hl), _, at_gen (j := 1) rfl rfl, by decide, fun t ht1 => ?_⟩⟩
  have g1 := Gr.new (o := .lst [x, .int d]) ht1
  have d2 : Dr b c L1 (lupd L1 t (.lst [x, .int d])) := .gr (.refl d1.ok) g1
  have tw := ht.dr d1
  exact ref8 d1.ok ht1 d2 lupd_same ((kw.sh (.dr ok d1)).sh (.gr g1)) (tw.gr g1) ((tw.fresh ht1).gr g1) ⟨rfl, by decide, all2 (raw_kn rx) (kn_sc (.int _)), by simp, .inr (.inr (.inr (.inl ⟨rfl, rfl, rfl, f⟩)))⟩ fun L' d => hQ L' (d1.trans d)
theorem zero_raw {t b : Int} (h : t = 0) (h1 : 0 < b) (h2 : b.natAbs < 2 ^ 3) : Raw 8000 (.tup [.int t, .int b]) 0 := by
  subst h
  have := Raw.pair (B := 8000) 0 b (Int.le_refl _) h1 (Nat.two_pow_pos _) (Nat.lt_of_lt_of_le h2 (Nat.pow_le_pow_right (by decide) (by decide)))
  rw [Rat.intCast_zero, Rat.div_def, Rat.zero_mul] at this
  exact this
theorem ref6 {L : LHp} {b c : Addr} {w : Int} {m k : Nat} {wr : D} {Q : DK} {y3 y6 y7 y8 : Option D} (ok : BagOk L b c) (lt : k < m) (cs : ∀ v, isF v = false → Cs w m k v) (wv : Wrong L b wr)
    (go : ∀ L' v, Dr b c L L' → Kn L' v → Told L' b 3 v → Cs w m k v → t7__law_refusals (nx0 Q) [some (.ref b), some (.int w), some (.int (m : Int)), y3, some (.int (k : Int)), some v, y6, y7, y8] L') :
    t6__law_refusals (nx0 Q) [some (.ref b), some (.int w), some (.int (m : Int)), y3, some (.int (k : Int)), some wr, y6, y7, y8] L := by
  have go0 : ∀ L', Dr b c L L' → t7__law_refusals (nx0 Q) [some (.ref b), some (.int w), some (.int (m : Int)), y3, some (.int (k : Int)), some wr, y6, y7, y8] L' := fun L' d => go L' wr d (wv.1.sh (.dr ok d)) (wv.2.2.dr d) (cs wr wv.2.1)
  unfold t6__law_refusals
  walk_at "dv"
  by_cases hw : w = 3
  · rw [decide_eq_true hw]
    refine iteT ?_
    by_cases hk : (k : Int) = 1
    · rw [decide_eq_true hk]
      refine iteT ⟨b, c, 2, rfl, ok, ⟨by decide, by decide⟩, fun d L1 hd d1 => ?_⟩
      show ∃ c_1, D.bl (decide (d = 0)) = D.bl c_1 ∧ _
      by_cases h0 : d = 0
      · rw [decide_eq_true h0]
        refine ⟨true, rfl, iteT ⟨by decide, by decide, by decide, fun p hp => ?_⟩⟩
        refine ⟨b, c, p, _, rfl, d1.ok.gr (Gr.new hp), d1.ok.ne hp, .inl lupd_same, ⟨by simp, by simp⟩, fun v L2 hv d2 => ?_⟩
        have m2 : m = 2 := by
          rcases cs (.bl true) rfl with h | h | h | h | h <;> omega
        have dd := d1.trans (Dr.gr' (Gr.new hp) d2)
        have fin : Kn L2 v → Told L2 b 3 v → Raw 8000 v 0 → t7__law_refusals (nx0 Q) [some (.ref b), some (.int w), some (.int (m : Int)), y3, some (.int (k : Int)), some v, y6, y7, y8] L2 := fun a t r => go L2 v dd a t (.inr (.inr (.inr (.inr ⟨hw, by omega, m2, r⟩))))
        simp only [List.mem_cons, List.not_mem_nil, or_false] at hv
        rcases hv with rfl | rfl | rfl
        · exact fin (kn_sc (.int _)) (.sc (.int _)) (by have := Raw.int (B := 8000) 0 (by decide) (by decide) (Nat.two_pow_pos _); simpa using this)
        · exact fin (raw_kn (zero_raw rfl (by decide) (by decide))) (.tup (by simp) (all2 (.sc (.int _)) (.sc (.int _)))) (zero_raw rfl (by decide) (by decide))
        · exact fin (raw_kn (zero_raw rfl (by decide) (by decide))) (.tup (by simp) (all2 (.sc (.int _)) (.sc (.int _)))) (zero_raw rfl (by decide) (by decide))
      · rw [decide_eq_false h0]
        exact ⟨false, rfl, iteF (go0 L1 d1)⟩
    · rw [decide_eq_false hk]
      exact iteF (go0 L (.refl ok))
  · rw [decide_eq_false hw]
    exact iteF (go0 L (.refl ok))
theorem ref5 {L : LHp} {b c : Addr} {w : Int} {m k : Nat} {Q : DK} {y3 y5 y6 y7 y8 : Option D} (ok : BagOk L b c) (lt : k < m) (cs : ∀ v, isF v = false → Cs w m k v)
    (go : ∀ L' v, Dr b c L L' → Kn L' v → Told L' b 3 v → Cs w m k v → t7__law_refusals (nx0 Q) [some (.ref b), some (.int w), some (.int (m : Int)), y3, some (.int (k : Int)), some v, y6, y7, y8] L') :
    t5__law_refusals (nx0 Q) [some (.ref b), some (.int w), some (.int (m : Int)), y3, some (.int (k : Int)), y5, y6, y7, y8] L := by
  unfold t5__law_refusals
  walk_at "dv"
  exact ⟨b, c, rfl, ok, fun v L1 d1 wv => ref6 d1.ok lt cs wv fun L2 u d2 => go L2 u (d1.trans d2)⟩
theorem ref4 {L0 L : LHp} {b c p : Addr} {w : Int} {m k : Nat} {Q : DK} {y5 y6 y7 y8 : Option D} (ok0 : BagOk L0 b c) (p0 : L0 p = none) (d0 : Dr b c L0 L) (lt : k < m) (cs : w ≠ 2 ∨ k = 0 → ∀ v, isF v = false → Cs w m k v) (h2 : w = 2 → ∃ q d, m = 2 ∧ Bd 100 q ∧ L p = some (.lst [fr q, .int d]))
    (go : (w ≠ 2 ∨ k = 0) → ∀ L' v, Dr b c L L' → Kn L' v → Told L' b 3 v → Cs w m k v → t7__law_refusals (nx0 Q) [some (.ref b), some (.int w), some (.int (m : Int)), some (.ref p), some (.int (k : Int)), some v, y6, y7, y8] L') (hQ : ∀ L', Dr b c L0 L' → Q (.bl true) L') :
    t4__law_refusals (nx0 Q) [some (.ref b), some (.int w), some (.int (m : Int)), some (.ref p), some (.int (k : Int)), y5, y6, y7, y8] L := by
  have np := ok0.ne p0
  have ok := d0.ok
  unfold t4__law_refusals
  walk_at "dv"
  by_cases hw : w = 2
  · rw [decide_eq_true hw]
    obtain ⟨q, d, m2, hq, hl⟩ := h2 hw
    subst hw m2
    refine iteT ?_
    by_cases hk : (k : Int) = 1
    · rw [decide_eq_true hk]
      refine iteT ⟨by decide, by decide, fun p1 hp1 => ⟨by decide, fun p2 hp2 => ?_⟩⟩
      have g1 := Gr.new (o := .lst [D.int 2]) hp1
      have g2 := Gr.new (o := .lst [D.bl true, D.bl false, D.non, D.int (-1), D.str (Str.ofString "2"), D.tup [D.int 2, D.int 1], D.ref p1, D.int (-3)]) hp2
      have n1 := ok.ne hp1
      have n1p : p1 ≠ p := fun z => by rw [z, hl] at hp1; cases hp1
      refine ⟨b, c, p2, _, rfl, ok.gr (g1.trans g2), (ok.gr g1).ne hp2, .inl lupd_same, ⟨by simp, by simp⟩, fun v L2 hv d2 => ?_⟩
      have dd : Dr b c L L2 := Dr.gr' (g1.trans g2) d2
      have ep := dd.kp _ _ np hl
      have e1 := d2.kp _ _ n1 (g2 _ _ (lupd_same (L := L) (a := p1) (o := .lst [D.int 2])))
      have key : isC v = false ∧ (∃ t, tyD L2 v t) ∧ Told L2 b 3 v ∧ Told L2 p 3 v := by
        have sc : ∀ {v : D}, Sc v → isC v = false → isC v = false ∧ (∃ t, tyD L2 v t) ∧ Told L2 b 3 v ∧ Told L2 p 3 v := fun h f => ⟨f, (kn_sc h).1, .sc h, .sc h⟩
        have ii : ∀ d ∈ [D.int 2, D.int 1], ∀ b, Told L2 b 2 d := all2 (fun _ => .sc (.int _)) (fun _ => .sc (.int _))
        simp only [List.mem_cons, List.not_mem_nil, or_false] at hv
        rcases hv with rfl | rfl | rfl | rfl | rfl | rfl | rfl | rfl
        · exact sc (.bl _) rfl
        · exact sc (.bl _) rfl
        · exact sc .non rfl
        · exact sc (.int _) rfl
        · exact sc (.str _) rfl
        · exact ⟨rfl, ⟨"tuple", rfl⟩, .tup (by simp) fun d hd => ii d hd b, .tup (by simp) fun d hd => ii d hd p⟩
        · exact ⟨rfl, ⟨"list", .inl ⟨⟨_, .inl e1⟩, rfl⟩⟩, .lst n1 e1 (by simp) (by simp [Told.sc, Sc.int]), .lst n1p e1 (by simp) (by simp [Told.sc, Sc.int])⟩
        · exact sc (.int _) rfl
      obtain ⟨kc, ⟨ty, kt⟩, kb, kp⟩ := key
      have e2 : lupd L2 p (.lst (([fr q, .int d] : List D).set 1 v)) = lupd L2 p (.lst [fr q, v]) := rfl
      refine ⟨_, ep, 1, ixK (n := 2) (i := 1) (by decide), ?_⟩
      rw [e2]
      have d3 : Dr b c L0 (lupd L2 p (.lst [fr q, v])) := dr_put ok0 p0 (d0.trans dd)
      have z := Told.two (L' := lupd L2 p (.lst [fr q, v])) (fun a o _ n e => by rw [lupd_ne n]; exact e) kb kp
      refine ⟨_, .inl lupd_same, _, at_gen (j := 0) rfl rfl, b, c, q, 100, rfl, d3.ok, hq, by decide, fun x L4 d4 rx => ⟨_, d4.rd np (.inl lupd_same), _, at_gen (j := 1) rfl rfl, by decide, fun p3 hp3 => ?_⟩⟩
      have g3 := Gr.new (o := .lst [x, v]) hp3
      have sh : Sh L2 (lupd L4 p3 (.lst [x, v])) := (Sh.put ep).trans ((Sh.dr d3.ok d4).trans (Sh.gr g3))
      refine ⟨2, p3, _, rfl, .inl lupd_same, .inl ⟨_, v, .number (raw_kn rx) (raw_isF rx) (ty_sh sh kt) kc, fun L5 g5 => ?_⟩⟩
      have e5 := g5 _ _ (g3 _ _ (d4.kp _ _ np (lupd_same (L := L2) (a := p) (o := .lst [fr q, v]))))
      exact ⟨_, .inl e5, _, at_gen (j := 1) rfl rfl, by decide, _, b, rfl, .tup (by simp) (all2 (.sc (.str _)) (((z.1.dr d4).gr g3).gr g5)), fun L6 g6 => hQ L6 ((d3.trans d4).gr (g3.trans (g5.trans g6)))⟩
    · rw [decide_eq_false hk]
      have k0 : k = 0 := by omega
      exact iteF (ref5 ok lt (cs (.inr k0)) (go (.inr k0)))
  · rw [decide_eq_false hw]
    exact iteF (ref5 ok lt (cs (.inl hw)) (go (.inl hw)))
theorem ref3 {L0 L : LHp} {b c p : Addr} {w : Int} {m : Nat} {Q : DK} {y4 y5 y6 y7 y8 : Option D} (ok0 : BagOk L0 b c) (p0 : L0 p = none) (d0 : Dr b c L0 L) (hm : 1 ≤ m ∧ m ≤ 4) (cs : ∀ k, k < m → w ≠ 2 ∨ k = 0 → ∀ v, isF v = false → Cs w m k v) (h2 : w = 2 → ∃ q d, m = 2 ∧ Bd 100 q ∧ L p = some (.lst [fr q, .int d]))
    (h1 : w ≠ 2 → ∃ qs : List Rat, qs.length = m ∧ (∀ q ∈ qs, Bd 100 q) ∧ L p = some (.lst (qs.map fr))) (hQ : ∀ L', Dr b c L0 L' → Q (.bl true) L') :
    t3__law_refusals (nx0 Q) [some (.ref b), some (.int w), some (.int (m : Int)), some (.ref p), y4, y5, y6, y7, y8] L := by
  have np := ok0.ne p0
  unfold t3__law_refusals
  walk_at "dv"
  have hb : (m : Int).natAbs < 2 ^ 8000 := Nat.lt_of_lt_of_le (show (m : Int).natAbs < 2 ^ 3 by omega) (Nat.pow_le_pow_right (by decide) (by decide))
  refine ⟨b, c, _, rfl, d0.ok, ⟨by omega, hb⟩, fun d L1 hd d1 => ?_⟩
  obtain ⟨k, rfl⟩ := Int.eq_ofNat_of_zero_le hd.1
  refine ref4 ok0 p0 (d0.trans d1) (by omega) (cs k (by omega)) (fun hw => ?_) (fun hk L2 v d2 kv tv cv => ?_) hQ
  · obtain ⟨q, d, m2, hq, hl⟩ := h2 hw
    exact ⟨q, d, m2, hq, d1.kp _ _ np hl⟩
  · have hQ' : ∀ L', Dr b c L2 L' → Q (.bl true) L' := fun L' d => hQ L' (d0.trans (d1.trans (d2.trans d)))
    by_cases hw : w = 2
    · obtain ⟨q, d, m2, hq, hl⟩ := h2 hw
      have k0 : k = 0 := by rcases hk with h | h; exact absurd hw h; exact h
      subst hw m2 k0
      have f : isF v = false := by
        rcases cv with ⟨h, _⟩ | ⟨h, _⟩ | ⟨h, _⟩ | ⟨_, _, _, f⟩ | ⟨h, _⟩
        · omega
        · omega
        · omega
        · exact f
        · omega
      exact ref7b d2.ok np (d2.kp _ _ np (d1.kp _ _ np hl)) hq kv tv f hQ'
    · obtain ⟨qs, hlen, hq, hl⟩ := h1 hw
      exact ref7a d2.ok np (d2.kp _ _ np (d1.kp _ _ np hl)) hq hlen (by omega) kv tv hw cv hQ'
theorem ref2 {L0 L : LHp} {b c p : Addr} {w : Int} {m : Nat} {qs : List Rat} {Q : DK} {y4 y5 y6 y7 y8 : Option D} (ok0 : BagOk L0 b c) (p0 : L0 p = none) (d0 : Dr b c L0 L) (hm : 1 ≤ m ∧ m ≤ 4) (h2 : w = 2 → m = 2) (cs : ∀ k, k < m → w ≠ 2 ∨ k = 0 → ∀ v, isF v = false → Cs w m k v)
    (hlen : qs.length = m) (hq : ∀ q ∈ qs, Bd 100 q) (hl : L p = some (.lst (qs.map fr))) (hQ : ∀ L', Dr b c L0 L' → Q (.bl true) L') :
    t2__law_refusals (nx0 Q) [some (.ref b), some (.int w), some (.int (m : Int)), some (.ref p), y4, y5, y6, y7, y8] L := by
  have np := ok0.ne p0
  unfold t2__law_refusals
  walk_at "dv"
  by_cases hw : w = 2
  · rw [decide_eq_true hw]
    have m2 := h2 hw
    subst m2
    refine iteT ⟨b, c, 9, rfl, d0.ok, ⟨by decide, by decide⟩, fun d L1 hd d1 => ?_⟩
    match qs, hlen with
    | [q0, q1], _ =>
      have e1 := d1.kp _ _ np hl
      refine ⟨_, e1, 1, ixK (n := 2) (i := 1) (by decide), ?_⟩
      exact ref3 ok0 p0 (dr_put ok0 p0 (d0.trans d1)) hm cs (fun _ => ⟨q0, d, rfl, hq q0 (by simp), lupd_same⟩) (fun h => absurd hw h) hQ
    | [], h => simp at h
    | [a], h => simp at h
    | a :: b :: d :: r, h => simp at h
  · rw [decide_eq_false hw]
    exact iteF (ref3 ok0 p0 d0 hm cs (fun h => absurd h hw) (fun _ => ⟨qs, hlen, hq, hl⟩) hQ)
theorem ref1 {L : LHp} {b c : Addr} {w : Int} {m : Nat} {Q : DK} {y3 y4 y5 y6 y7 y8 : Option D} (ok : BagOk L b c) (hm : 1 ≤ m ∧ m ≤ 4) (h2 : w = 2 → m = 2) (cs : ∀ k, k < m → w ≠ 2 ∨ k = 0 → ∀ v, isF v = false → Cs w m k v) (hQ : ∀ L', Dr b c L L' → Q (.bl true) L') :
    t1__law_refusals (nx0 Q) [some (.ref b), some (.int w), some (.int (m : Int)), y3, y4, y5, y6, y7, y8] L := by
  unfold t1__law_refusals dLcR
  walk_at "dv"
  refine ⟨by omega, by omega, fun E hE => ?_⟩
  have nE := ok.ne hE
  refine ⟨fun i L' => ∃ qs : List Rat, qs.length = i ∧ (∀ q ∈ qs, Bd 100 q) ∧ L' E = some (.lst (qs.map fr)) ∧ Dr b c L L', ⟨[], rfl, by simp, lupd_same, .gr (.refl ok) (Gr.new hE)⟩, fun i L' hi ⟨qs, hl, hq, e, d⟩ => ?_, fun L' ⟨qs, hl, hq, e, d⟩ => ?_⟩
  · unfold lcTurn dTYes
    walk_at "dv"
    refine ⟨b, c, rfl, d.ok, fun q L2 d2 bq => ?_⟩
    refine ⟨_, d2.kp _ _ nE e, ?_, qs ++ [q], by simp [hl], ?_, by rw [List.map_append]; exact lupd_same, dr_put ok hE (d.trans d2)⟩
    · rw [List.length_map, hl]
      have : i < m := hi
      exact Nat.lt_of_lt_of_le (show i < 4 by omega) (by decide)
    · intro x hx
      rcases List.mem_append.mp hx with h | h
      · exact hq x h
      · rw [List.mem_singleton.mp h]; exact bq
  · exact ref2 ok hE d hm h2 cs hl hq e hQ
theorem rd__law_refusals (ds : List D) (L : LHp) (Q : DK) (E' : XD) (h : sp__law_refusals ds L Q E') : d__law_refusals { nx := fun _ L' => Q .non L', rt := Q } (dstart ["bag", "way", "many", "args", "at", "wrong", "handed", "k", "one"] ds) L := by
  obtain ⟨b, c, w, rfl, hw, ok, hQ⟩ := h
  rw [e__law_refusals]
  unfold t0__law_refusals
  walk_at "dv"
  have hw' : w = 0 ∨ w = 1 ∨ w = 2 ∨ w = 3 ∨ w = 4 ∨ w = 5 ∨ w = 7 ∨ w = 8 := by
    simp only [List.mem_cons, List.not_mem_nil, or_false] at hw
    exact hw
  by_cases h1 : w < 2
  · rw [decide_eq_true h1]
    refine iteT (ref1 (m := 1) ok ⟨by decide, by decide⟩ (fun h => by omega) (fun k hk _ v f => .inl ⟨by omega, rfl, f⟩) hQ)
  · rw [decide_eq_false h1]
    refine iteF ?_
    by_cases h6 : w < 6
    · rw [decide_eq_true h6]
      refine iteT (ref1 (m := 2) ok ⟨by decide, by decide⟩ (fun h => rfl) (fun k hk h v f => ?_) hQ)
      by_cases h2 : w = 2
      · exact .inr (.inr (.inr (.inl ⟨h2, by omega, rfl, f⟩)))
      · exact .inr (.inl ⟨by omega, rfl, f⟩)
    · rw [decide_eq_false h6]
      refine iteF ⟨b, c, 3, rfl, ok, ⟨by decide, by decide⟩, fun d L1 hd d1 => ?_⟩
      obtain ⟨k, rfl⟩ := Int.eq_ofNat_of_zero_le hd.1
      show t1__law_refusals _ [_, _, some (.int (2 + (k : Int))), _, _, _, _, _, _] _
      have e : (2 : Int) + (k : Int) = ((2 + k : Nat) : Int) := by omega
      rw [e]
      exact ref1 d1.ok ⟨by omega, by omega⟩ (fun h => by omega) (fun k' hk _ v f => .inr (.inr (.inl ⟨by omega, ⟨by omega, by omega⟩, f⟩))) fun L' d => hQ L' (d1.trans d)
theorem len__law_refusals (ds : List D) (L : LHp) (Q : DK) (E' : XD) (h : sp__law_refusals ds L Q E') : ds.length = 2 := by obtain ⟨B, c, w, rfl, _⟩ := h; rfl
end K01
namespace K01
open PySem PySem.Spec PyProof.Rows L2 DV FR
local macro_rules | `(tactic| walk_at "dv") => `(tactic| (simp only [dstart, List.map_cons, List.map_nil, List.length_cons, List.length_nil, Nat.reduceAdd, Nat.reduceSub, List.reduceReplicate, List.cons_append, List.nil_append, List.append_nil,
  dSeq, dNext, dSet, dRet, dRetN, dDrop, dAsg, dgName, dgTup, dgCons, dgNil, dgSub, dPar, dIfS, dVar, dC, dOp, dCons, dNil, dCB, dB, dAnd, dOr, dNot, dAndV, dOrV, dNotV, dIf, dTup, dLst, dCall, dBM, dSl, dNoPart, dPart, dFmt, dBits,
  List.getElem?_cons_succ, List.getElem?_cons_zero, List.set_cons_succ, List.set_cons_zero, Option.some.injEq, exists_eq_left', exists_eq_left, List.cons.injEq, D.int.injEq, D.bl.injEq, D.str.injEq, D.tup.injEq, D.ref.injEq, D.fls.injEq, and_true, true_and, and_assoc,
  if_true, if_false, Bool.false_eq_true, exists_const, exists_eq', exists_and_left, exists_and_right, List.length_singleton, ite_true, ite_false, Bool.not_true, Bool.not_false, reduceCtorEq, false_and, exists_false, Bool.false_xor, Bool.true_xor,
  ty_non, ty_bl, ty_int, ty_str, ty_tup, kk01, kk02, kk03, kk04, kk05, kk06, kk07, kk08, kk09, kk10, kk11, kk12, kk13, kk14, kk15, kk16, kk17, kk18, kk19, kk20, kk21, kk22, kk23, kk24, kk25, kk26, kk27, kk28, kk29, kk30, kk31, kk32, kk33, kk34, kk35, kk36, kk37, kk38, kk39, kk40, kk41, kk42,
  rI2, DV.rIxD, rAddD, rLenD, rIsiD, rI2C, rEqv, rSlD, rIntD, rStrD, rAbsD, rIsND, rAppD, rPopD, rInsD, rFindD, tyM, dRaise, wxd, dCallX, dFld, rInLD, bad]))
local macro_rules | `(tactic| walk_at "dw") => `(tactic| simp only [at0, at1, Option.some.injEq, exists_eq_left', exists_eq_left, and_true, true_and, and_assoc, exists_eq', exists_and_left, exists_and_right])
local macro_rules | `(tactic| walk_at "bx") => `(tactic| ((first | refine ⟨?ds, Or.inl ?h1, ?x, ?h2, ?h3⟩ | refine ⟨?ds, ?h1, ?x, ?h2, ?h3⟩); (case h1 => first | assumption | exact lupd_same); (case h2 => rfl)))
def t3__law_texts : DS := (dRet (dAndV (dCall sp__law_like ED0 (dCons (dCall sp__law_ask ED0 (dCons (dC (.int 6)) (dCons (dLst (dCons (dVar 3) dNil)) dNil))) (dCons (dTup (dCons (dC (.str (PySem.Str.ofString "BadFraction"))) (dCons (dVar 3) dNil))) dNil))) (dCall sp__law_like ED0 (dCons (dCall sp__law_ask ED0 (dCons (dC (.int 6)) (dCons (dLst (dCons (dSl (dVar 1) dNoPart (dPart (dC (.int 60)))) dNil)) dNil))) (dCons (dTup (dCons (dC (.str (PySem.Str.ofString "told"))) (dCons (dTup (dCons (dCB rIntD (dCons (dSl (dVar 1) dNoPart (dPart (dC (.int 60)))) dNil)) (dCons (dC (.int 1)) dNil))) dNil))) dNil)))))
def t2__law_texts : DS := dSeq (dSet 3 (dCall sp__law_of ED0 (dCons (dVar 0) (dCons (dLst (dCons (dVar 2) (dCons (dVar 2) (dCons (dVar 2) (dCons (dC .non) (dCons (dC (.int 5)) (dCons (dTup (dCons (dC (.int 1)) (dCons (dC (.int 2)) dNil))) (dCons (dC (.bl true)) (dCons (dLst (dCons (dC (.str (PySem.Str.ofString "1"))) dNil)) dNil))))))))) dNil)))) t3__law_texts
def t1__law_texts : DS := dSeq (dSet 2 (dCall sp__law_of ED0 (dCons (dVar 0) (dCons (dLst (dCons (dC (.str (PySem.Str.ofString ""))) (dCons (dC (.str (PySem.Str.ofString "1/0"))) (dCons (dC (.str (PySem.Str.ofString "01"))) (dCons (dC (.str (PySem.Str.ofString "1/02"))) (dCons (dC (.str (PySem.Str.ofString "+1"))) (dCons (dC (.str (PySem.Str.ofString "-1/2"))) (dCons (dC (.str (PySem.Str.ofString " 1"))) (dCons (dC (.str (PySem.Str.ofString "1 "))) (dCons (dC (.str (PySem.Str.ofString "1/2/3"))) (dCons (dC (.str (PySem.Str.ofString "1.5"))) (dCons (dC (.str (PySem.Str.ofString "/2"))) (dCons (dC (.str (PySem.Str.ofString "1/"))) (dCons (dC (.str (PySem.Str.ofString "1_0"))) (dCons (dC (.str (PySem.Str.ofString "1\n"))) (dCons (dC (.str (PySem.Str.ofString "x"))) (dCons (dC (.str (PySem.Str.ofString "1/-2"))) (dCons (dC (.str (PySem.Str.ofString "00/5"))) (dCons (dVar 1) (dCons (dOp rAddD (dC (.str (PySem.Str.ofString "1/"))) (dVar 1)) dNil)))))))))))))))))))) dNil)))) t2__law_texts
def t0__law_texts : DS := dSeq (dSet 1 (dOp rAddD (dOp rAddD (dC (.str (PySem.Str.ofString "1"))) (dOp rMulSD (dC (.str (PySem.Str.ofString "0"))) (dC (.int 58)))) (dCB rStrD (dCons (dOp rAddD (dC (.int 10)) (dCall sp__law_draw ED0 (dCons (dVar 0) (dCons (dC (.int 90)) dNil)))) dNil)))) t1__law_texts
theorem e__law_texts : d__law_texts = t0__law_texts := rfl
def figs (d : Int) : Str := PySem.Str.ofString "1" ++ timesS (PySem.Str.ofString "0") 58 ++ numS (10 + d)
def noFrB (z : Str) : Bool := decide (z.length ≤ 1000) && ((decide (Txt.find z slash < 0) && !cnt z true) || (decide (0 ≤ Txt.find z slash) && !(cnt (cutS z none (some (Txt.find z slash))) true && cnt (cutS z (some (Txt.find z slash + 1)) none) false)))
theorem noFr_of {z : Str} (h : noFrB z = true) : NoFr z := by
  unfold noFrB at h
  simp only [Bool.and_eq_true, Bool.or_eq_true, decide_eq_true_eq, Bool.not_eq_true'] at h
  exact h
theorem find_slash (t b : Nat) : Txt.find (numS t ++ slash ++ numS b) (PySem.Str.ofString "/") = ((numS t).length : Int) := by
  have es : (PySem.Str.ofString "/") = ⟨#[47]⟩ := by decide +kernel
  have et : (numS t ++ slash ++ numS b).cps.toList = TL.numL t ++ 47 :: TL.numL b := by
    show TL.tl _ = _
    rw [TL.tl_append, TL.tl_append, tl_numS, tl_numS]
    have : TL.tl slash = [47] := by decide +kernel
    rw [this, List.append_assoc]
    rfl
  have key : ∀ i : Nat, (numS t ++ slash ++ numS b).cps.toList[i]? = some 47 → i = (numS t).length := by
    intro i hi
    rw [et] at hi
    rw [len_numS]
    by_cases h1 : i < (TL.numL t).length
    · rw [List.getElem?_append_left h1] at hi
      exact absurd (List.mem_of_getElem? hi) (TL.numL_free (Or.inl (by decide)))
    · rw [List.getElem?_append_right (by omega)] at hi
      cases e : i - (TL.numL t).length with
      | zero => omega
      | succ k =>
        rw [e, List.getElem?_cons_succ] at hi
        exact absurd (List.mem_of_getElem? hi) (TL.numL_free (Or.inl (by decide)))
  rw [es]
  unfold Txt.find
  have hne : (!(Builtin.Str.occurrences (numS t ++ slash ++ numS b) ⟨#[47]⟩ 0 (numS t ++ slash ++ numS b).length 1).isEmpty) = true := by
    rw [PySem.StrLaws.found_one, et]
    simp
  cases e : Builtin.Str.occurrences (numS t ++ slash ++ numS b) ⟨#[47]⟩ 0 (numS t ++ slash ++ numS b).length 1 with
  | nil => rw [e] at hne; simp at hne
  | cons i r =>
    have h2 := PySem.StrLaws.occ_spec (numS t ++ slash ++ numS b) ⟨#[47]⟩ 0 (numS t ++ slash ++ numS b).length 1 i (by rw [e]; exact List.mem_cons_self)
    have h3 := (PySem.StrLaws.subAt_one (numS t ++ slash ++ numS b) 47 i).mp h2
    rw [key i h3]
theorem sIx_len (n : Nat) : HT.sIx n n none = n := HT.sIx_none n n
theorem cut_left (x y : Str) : cutS (x ++ y) none (some (x.length : Int)) = x := by
  have hl : (x ++ y).length = x.length + y.length := by rw [TL.len_tl, TL.tl_append, List.length_append, ← TL.len_tl, ← TL.len_tl]
  refine TL.ext_tl ?_
  unfold cutS
  rw [TL.tl_mk, HT.sIx_none, HT.sIx_nat, hl, Nat.min_eq_left (by omega), Nat.sub_zero, List.drop_zero]
  show (TL.tl (x ++ y)).take _ = _
  rw [TL.tl_append, TL.len_tl x, List.take_left']
  rfl
theorem cut_right (x y : Str) (k : Nat) (hk : x.length = k) : cutS (x ++ y) (some (k : Int)) none = y := by
  have hl : (x ++ y).length = x.length + y.length := by rw [TL.len_tl, TL.tl_append, List.length_append, ← TL.len_tl, ← TL.len_tl]
  refine TL.ext_tl ?_
  unfold cutS
  rw [TL.tl_mk, HT.sIx_none, HT.sIx_nat, hl, Nat.min_eq_left (by omega), ← hk]
  show ((TL.tl (x ++ y)).drop _).take _ = _
  rw [TL.tl_append, TL.len_tl x, List.drop_left', ← TL.len_tl x]
  · rw [List.take_of_length_le]
    rw [← TL.len_tl]
    omega
  · rfl
theorem numL_pow : ∀ k : Nat, TL.numL (10 ^ k) = 49 :: List.replicate k 48 := fun k => by
  induction k with
  | zero => exact TL.numL_lt (by decide)
  | succ k ih =>
    have e1 : 10 ^ (k + 1) / 10 = 10 ^ k := by rw [Nat.pow_succ]; omega
    have e2 : 10 ^ (k + 1) % 10 = 0 := by rw [Nat.pow_succ]; omega
    have e3 : 10 ≤ 10 ^ (k + 1) := by
      have : 0 < 10 ^ k := Nat.pow_pos (by decide)
      rw [Nat.pow_succ]; omega
    rw [TL.numL_step (by omega), e1, e2, ih, List.replicate_succ', List.cons_append]
theorem fig_tl {d : Nat} (h : d < 90) : figs d = numS ((10 ^ 60 + (10 + d) : Nat) : Int) := by
  refine TL.ext_tl ?_
  have e0 : ((10 : Int) + (d : Int)) = ((10 + d : Nat) : Int) := by omega
  unfold figs
  rw [e0, TL.tl_append, TL.tl_append, tl_numS, tl_numS]
  have z1 : TL.tl (PySem.Str.ofString "1") = [49] := by decide +kernel
  have z2 : TL.tl (timesS (PySem.Str.ofString "0") 58) = List.replicate 58 48 := by decide +kernel
  have z3 : TL.numL (10 + d) = [48 + (10 + d) / 10, 48 + (10 + d) % 10] := by
    rw [TL.numL_step (by omega), TL.numL_lt (by omega)]
    rfl
  have p0 : (0 : Nat) < 10 ^ 58 := Nat.pow_pos (by decide)
  have p1 : (10 : Nat) ^ 60 = 10 ^ 58 * 100 := by rw [show (100 : Nat) = 10 ^ 2 by decide, ← Nat.pow_add]
  have q1 : (10 ^ 60 + (10 + d)) / 10 = 10 ^ 58 * 10 + (10 + d) / 10 := by rw [p1]; omega
  have q2 : (10 ^ 60 + (10 + d)) % 10 = (10 + d) % 10 := by rw [p1]; omega
  have q3 : (10 ^ 58 * 10 + (10 + d) / 10) / 10 = 10 ^ 58 := by omega
  have q4 : (10 ^ 58 * 10 + (10 + d) / 10) % 10 = (10 + d) / 10 := by omega
  rw [z1, z2, z3, TL.numL_step (by omega), q1, q2, TL.numL_step (by omega), q3, q4, numL_pow]
  simp
theorem fig_len {d : Nat} (h : d < 90) : (figs d).length = 61 := by
  rw [fig_tl h, len_numS]
  have p0 : (0 : Nat) < 10 ^ 58 := Nat.pow_pos (by decide)
  have p1 : (10 : Nat) ^ 60 = 10 ^ 58 * 100 := by rw [show (100 : Nat) = 10 ^ 2 by decide, ← Nat.pow_add]
  have q1 : (10 ^ 60 + (10 + d)) / 10 = 10 ^ 58 * 10 + (10 + d) / 10 := by rw [p1]; omega
  have q3 : (10 ^ 58 * 10 + (10 + d) / 10) / 10 = 10 ^ 58 := by omega
  rw [TL.numL_step (by omega), q1, TL.numL_step (by omega), q3, numL_pow]
  simp
theorem fig_cut {d : Nat} (h : d < 90) : cutS (figs d) none (some 60) = numS ((10 ^ 59 + (10 + d) / 10 : Nat) : Int) := by
  have p0 : (0 : Nat) < 10 ^ 59 := Nat.pow_pos (by decide)
  have p1 : (10 : Nat) ^ 60 = 10 ^ 59 * 10 := by rw [← Nat.pow_succ]
  have q1 : (10 ^ 60 + (10 + d)) / 10 = 10 ^ 59 + (10 + d) / 10 := by rw [p1]; omega
  have e : figs d = numS ((10 ^ 59 + (10 + d) / 10 : Nat) : Int) ++ ⟨#[48 + (10 + d) % 10]⟩ := by
    rw [fig_tl h]
    refine TL.ext_tl ?_
    have q2 : (10 ^ 60 + (10 + d)) % 10 = (10 + d) % 10 := by rw [p1]; omega
    rw [TL.tl_append, tl_numS, tl_numS, TL.numL_step (by omega), q1, q2]
    first | done | rfl
  have l := fig_len h
  rw [e, TL.len_tl, TL.tl_append, List.length_append, ← TL.len_tl] at l
  have l2 : (numS ((10 ^ 59 + (10 + d) / 10 : Nat) : Int)).length = 60 := by
    have : (TL.tl (⟨#[48 + (10 + d) % 10]⟩ : Str)).length = 1 := rfl
    omega
  have z := cut_left (numS ((10 ^ 59 + (10 + d) / 10 : Nat) : Int)) ⟨#[48 + (10 + d) % 10]⟩
  rw [l2, ← e] at z
  exact z
theorem cnt_long {z : Str} {zero : Bool} (h : 60 < z.length) : cnt z zero = false := by
  unfold cnt
  rw [if_neg, if_pos (.inr (.inl h))]
  intro e
  rw [e] at h
  exact absurd h (by decide +kernel)
theorem fig_no {d : Nat} (h : d < 90) : NoFr (figs d) := by
  have l := fig_len h
  refine ⟨by omega, .inl ⟨?_, cnt_long (by omega)⟩⟩
  rw [fig_tl h]
  have := find_none (10 ^ 60 + (10 + d))
  show Txt.find _ (PySem.Str.ofString "/") < 0
  rw [this]
  decide
theorem fig_no2 {d : Nat} (h : d < 90) : NoFr (PySem.Str.ofString "1/" ++ figs d) := by
  have l := fig_len h
  have e1 : PySem.Str.ofString "1/" ++ figs d = numS (1 : Nat) ++ slash ++ numS ((10 ^ 60 + (10 + d) : Nat) : Int) := by
    rw [← fig_tl h]
    have : PySem.Str.ofString "1/" = numS (1 : Nat) ++ slash := by decide +kernel
    rw [this]
  have l1 : (numS (1 : Nat)).length = 1 := by decide +kernel
  have ls : slash.length = 1 := by decide +kernel
  have f : Txt.find (PySem.Str.ofString "1/" ++ figs d) slash = 1 := by
    rw [e1]
    have := find_slash 1 (10 ^ 60 + (10 + d))
    rw [l1] at this
    exact this
  have hlen : (PySem.Str.ofString "1/" ++ figs d).length = 2 + (figs d).length := by
    rw [TL.len_tl, TL.tl_append, List.length_append, ← TL.len_tl, ← TL.len_tl]
    have : (PySem.Str.ofString "1/").length = 2 := by decide +kernel
    omega
  refine ⟨by omega, .inr ⟨by rw [f]; decide, ?_⟩⟩
  have c2 := cut_right (PySem.Str.ofString "1/") (figs d) 2 (by decide +kernel)
  rw [f]
  have e3 : cutS (PySem.Str.ofString "1/" ++ figs d) (some (1 + 1)) none = figs d := c2
  rw [e3, cnt_long (zero := false) (by omega), Bool.and_false]
theorem no_all : ∀ z ∈ ([PySem.Str.ofString "", PySem.Str.ofString "1/0", PySem.Str.ofString "01", PySem.Str.ofString "1/02", PySem.Str.ofString "+1", PySem.Str.ofString "-1/2", PySem.Str.ofString " 1", PySem.Str.ofString "1 ", PySem.Str.ofString "1/2/3", PySem.Str.ofString "1.5", PySem.Str.ofString "/2", PySem.Str.ofString "1/", PySem.Str.ofString "1_0", PySem.Str.ofString "1\n", PySem.Str.ofString "x", PySem.Str.ofString "1/-2", PySem.Str.ofString "00/5"] : List Str), noFrB z = true := by decide +kernel
theorem Ref6.w {L : LHp} {v : D} (h : (∃ t, tyD L v t ∧ t ≠ "str") ∨ ∃ z, v = .str z ∧ NoFr z) : Ref L 6 [v] "BadFraction" v := by
  rcases h with ⟨t, k, n⟩ | ⟨z, rfl, n⟩
  · exact .value k n
  · exact .text n
theorem tex3 {L : LHp} {b : Addr} {d : Nat} {v : D} {Q : DK} {y2 : Option D} (hd : d < 90) (r : Ref L 6 [v] "BadFraction" v) (ht : Told L b 3 v) (hQ : ∀ L', Gr L L' → Q (.bl true) L') :
    t3__law_texts (nx0 Q) [some (.ref b), some (.str (figs d)), y2, some v] L := by
  unfold t3__law_texts
  walk_at "dv"
  have l := fig_len hd
  refine ⟨by decide, fun p hp => ?_⟩
  have g0 := Gr.new (o := .lst [v]) hp
  refine ⟨6, p, _, rfl, .inl lupd_same, .inl ⟨_, v, r.sh (.gr g0), fun L1 g1 => ⟨by decide, _, b, rfl, .tup (by simp) (all2 (.sc (.str _)) ((ht.gr g0).gr g1)), fun L2 g2 => ⟨true, rfl, iteT ?_⟩⟩⟩⟩
  refine ⟨sz (by omega), by decide, fun p2 hp2 => ?_⟩
  have g3 := Gr.new (o := .lst [D.str (cutS (figs d) none (some 60))]) hp2
  rw [fig_cut hd] at g3 ⊢
  have lt : 10 ^ 59 + (10 + d) / 10 < 10 ^ 60 := by
    have p0 : (100 : Nat) ≤ 10 ^ 59 := by decide +kernel
    have p1 : (10 : Nat) ^ 60 = 10 ^ 59 * 10 := by rw [← Nat.pow_succ]
    omega
  have ln := numS_len lt
  refine ⟨6, p2, _, rfl, .inl lupd_same, .inr ⟨10 ^ 59 + (10 + d) / 10, rfl, rfl, lt, fun L3 g4 => ⟨sz (by omega), _, int_numS lt, by omega, by decide, by decide, ?_⟩⟩⟩
  refine ⟨.tup [.str "told", .tup [.int ((10 ^ 59 + (10 + d) / 10 : Nat) : Int), .int 1]], b, rfl, .tup (by simp) (all2 (.sc (.str _)) (.tup (by simp) (all2 (.sc (.int _)) (.sc (.int _))))), fun L4 g5 => hQ L4 (g0.trans (g1.trans (g2.trans (g3.trans (g4.trans g5)))))⟩
theorem tex2 {L : LHp} {b c : Addr} {d : Nat} {z : Str} {Q : DK} {y3 : Option D} (ok : BagOk L b c) (hd : d < 90) (hz : NoFr z) (hQ : ∀ L', Dr b c L L' → Q (.bl true) L') :
    t2__law_texts (nx0 Q) [some (.ref b), some (.str (figs d)), some (.str z), y3] L := by
  unfold t2__law_texts
  walk_at "dv"
  refine ⟨by decide, by decide, fun p hp => ⟨by decide, fun p1 hp1 => ?_⟩⟩
  have g0 := Gr.new (o := .lst [D.str (Str.ofString "1")]) hp
  have g1 := Gr.new (o := .lst [D.str z, D.str z, D.str z, D.non, D.int 5, D.tup [D.int 1, D.int 2], D.bl true, D.ref p]) hp1
  have np := ok.ne hp
  refine ⟨b, c, p1, _, rfl, ok.gr (g0.trans g1), (ok.gr g0).ne hp1, .inl lupd_same, ⟨by simp, by simp⟩, fun v L2 hv d2 => ?_⟩
  have dd : Dr b c L L2 := Dr.gr' (g0.trans g1) d2
  have e2 := d2.kp _ _ np (g1 _ _ (lupd_same (L := L) (a := p) (o := .lst [D.str (Str.ofString "1")])))
  have fin : Ref L2 6 [v] "BadFraction" v → Told L2 b 3 v → t3__law_texts (nx0 Q) [some (.ref b), some (.str (figs d)), some (.str z), some v] L2 := fun r t => tex3 hd r t fun L3 g3 => hQ L3 (dd.gr g3)
  simp only [List.mem_cons, List.not_mem_nil, or_false] at hv
  rcases hv with rfl | rfl | rfl | rfl | rfl | rfl | rfl | rfl
  · exact fin (.text hz) (.sc (.str _))
  · exact fin (.text hz) (.sc (.str _))
  · exact fin (.text hz) (.sc (.str _))
  · exact fin (.value (t := "NoneType") rfl (by decide)) (.sc .non)
  · exact fin (.value (t := "int") rfl (by decide)) (.sc (.int _))
  · exact fin (.value (t := "tuple") rfl (by decide)) (.tup (by simp) (all2 (.sc (.int _)) (.sc (.int _))))
  · exact fin (.value (t := "bool") rfl (by decide)) (.sc (.bl _))
  · exact fin (.value (t := "list") (.inl ⟨⟨_, .inl e2⟩, rfl⟩) (by decide)) (.lst np e2 (by simp) (by simp [Told.sc, Sc.str]))
theorem tex1 {L : LHp} {b c : Addr} {d : Nat} {Q : DK} {y2 y3 : Option D} (ok : BagOk L b c) (hd : d < 90) (hQ : ∀ L', Dr b c L L' → Q (.bl true) L') :
    t1__law_texts (nx0 Q) [some (.ref b), some (.str (figs d)), y2, y3] L := by
  unfold t1__law_texts
  walk_at "dv"
  have l := fig_len hd
  have l2 : (Str.ofString "1/").length = 2 := by decide +kernel
  refine ⟨sz (by omega), by decide, fun p hp => ?_⟩
  refine ⟨b, c, p, _, rfl, ok.gr (Gr.new hp), ok.ne hp, .inl lupd_same, ⟨by simp, by simp⟩, fun v L2 hv d2 => ?_⟩
  have dd : Dr b c L L2 := Dr.gr' (Gr.new hp) d2
  have key : ∃ z, v = .str z ∧ NoFr z := by
    simp only [List.mem_cons, List.not_mem_nil, or_false] at hv
    rcases hv with rfl | rfl | rfl | rfl | rfl | rfl | rfl | rfl | rfl | rfl | rfl | rfl | rfl | rfl | rfl | rfl | rfl | rfl | rfl
    · exact ⟨_, rfl, noFr_of (by decide +kernel)⟩
    · exact ⟨_, rfl, noFr_of (by decide +kernel)⟩
    · exact ⟨_, rfl, noFr_of (by decide +kernel)⟩
    · exact ⟨_, rfl, noFr_of (by decide +kernel)⟩
    · exact ⟨_, rfl, noFr_of (by decide +kernel)⟩
    · exact ⟨_, rfl, noFr_of (by decide +kernel)⟩
    · exact ⟨_, rfl, noFr_of (by decide +kernel)⟩
    · exact ⟨_, rfl, noFr_of (by decide +kernel)⟩
    · exact ⟨_, rfl, noFr_of (by decide +kernel)⟩
    · exact ⟨_, rfl, noFr_of (by decide +kernel)⟩
    · exact ⟨_, rfl, noFr_of (by decide +kernel)⟩
    · exact ⟨_, rfl, noFr_of (by decide +kernel)⟩
    · exact ⟨_, rfl, noFr_of (by decide +kernel)⟩
    · exact ⟨_, rfl, noFr_of (by decide +kernel)⟩
    · exact ⟨_, rfl, noFr_of (by decide +kernel)⟩
    · exact ⟨_, rfl, noFr_of (by decide +kernel)⟩
    · exact ⟨_, rfl, noFr_of (by decide +kernel)⟩
    · exact ⟨_, rfl, fig_no hd⟩
    · exact ⟨_, rfl, fig_no2 hd⟩
  obtain ⟨z, rfl, hz⟩ := key
  exact tex2 d2.ok hd hz fun L3 d3 => hQ L3 (dd.trans d3)
theorem rd__law_texts (ds : List D) (L : LHp) (Q : DK) (E' : XD) (h : sp__law_texts ds L Q E') : d__law_texts { nx := fun _ L' => Q .non L', rt := Q } (dstart ["bag", "figures", "text", "value"] ds) L := by
  obtain ⟨b, c, rfl, ok, hQ⟩ := h
  rw [e__law_texts]
  unfold t0__law_texts
  walk_at "dv"
  show _ ∧ _
  refine ⟨⟨by decide, by decide, by decide +kernel, by decide +kernel, by decide +kernel⟩, by decide +kernel, b, c, 90, rfl, ok, ⟨by decide, by decide⟩, fun d L1 hd d1 => ?_⟩
  obtain ⟨d, rfl⟩ := Int.eq_ofNat_of_zero_le hd.1
  show _ ∧ _
  have hd2 : d < 90 := by omega
  refine ⟨?_, ?_, tex1 d1.ok hd2 fun L2 d2 => hQ L2 (d1.trans d2)⟩
  · have : ((10 : Int) + (d : Int)).natAbs < 2 ^ 8 := by omega
    exact Nat.lt_of_lt_of_le (log_lt this (by decide)) (by decide)
  · have l := fig_len hd2
    unfold figs at l
    rw [TL.len_tl, TL.tl_append, List.length_append, ← TL.len_tl, ← TL.len_tl] at l
    exact sz (by show (PySem.Str.ofString "1" ++ timesS (PySem.Str.ofString "0") 58).length + (numS (10 + (d : Int))).length ≤ 60000; omega)
theorem len__law_texts (ds : List D) (L : LHp) (Q : DK) (E' : XD) (h : sp__law_texts ds L Q E') : ds.length = 1 := by obtain ⟨B, c, rfl, _⟩ := h; rfl
end K01
namespace K01
open PySem PySem.Spec PyProof.Rows L2 DV FR
local macro_rules | `(tactic| walk_at "dv") => `(tactic| (simp only [dstart, List.map_cons, List.map_nil, List.length_cons, List.length_nil, Nat.reduceAdd, Nat.reduceSub, List.reduceReplicate, List.cons_append, List.nil_append, List.append_nil,
  dSeq, dNext, dSet, dRet, dRetN, dDrop, dAsg, dgName, dgTup, dgCons, dgNil, dgSub, dPar, dIfS, dVar, dC, dOp, dCons, dNil, dCB, dB, dAnd, dOr, dNot, dAndV, dOrV, dNotV, dIf, dTup, dLst, dCall, dBM, dSl, dNoPart, dPart, dFmt, dBits,
  List.getElem?_cons_succ, List.getElem?_cons_zero, List.set_cons_succ, List.set_cons_zero, Option.some.injEq, exists_eq_left', exists_eq_left, List.cons.injEq, D.int.injEq, D.bl.injEq, D.str.injEq, D.tup.injEq, D.ref.injEq, D.fls.injEq, and_true, true_and, and_assoc,
  if_true, if_false, Bool.false_eq_true, exists_const, exists_eq', exists_and_left, exists_and_right, List.length_singleton, ite_true, ite_false, Bool.not_true, Bool.not_false, reduceCtorEq, false_and, exists_false, Bool.false_xor, Bool.true_xor,
  ty_non, ty_bl, ty_int, ty_str, ty_tup, kk01, kk02, kk03, kk04, kk05, kk06, kk07, kk08, kk09, kk10, kk11, kk12, kk13, kk14, kk15, kk16, kk17, kk18, kk19, kk20, kk21, kk22, kk23, kk24, kk25, kk26, kk27, kk28, kk29, kk30, kk31, kk32, kk33, kk34, kk35, kk36, kk37, kk38, kk39, kk40, kk41, kk42,
  rI2, DV.rIxD, rAddD, rLenD, rIsiD, rI2C, rEqv, rSlD, rIntD, rStrD, rAbsD, rIsND, rAppD, rPopD, rInsD, rFindD, tyM, dRaise, wxd, dCallX, dFld, rInLD, bad]))
local macro_rules | `(tactic| walk_at "dw") => `(tactic| simp only [at0, at1, Option.some.injEq, exists_eq_left', exists_eq_left, and_true, true_and, and_assoc, exists_eq', exists_and_left, exists_and_right])
local macro_rules | `(tactic| walk_at "bx") => `(tactic| ((first | refine ⟨?ds, Or.inl ?h1, ?x, ?h2, ?h3⟩ | refine ⟨?ds, ?h1, ?x, ?h2, ?h3⟩); (case h1 => first | assumption | exact lupd_same); (case h2 => rfl)))
def t20_law : DS := (dRet (dCall sp__law_texts ED0 (dCons (dVar 1) dNil)))
def t19_law : DS := dSeq (dForT (dTup (dCons (dC (.int 0)) (dCons (dC (.int 1)) (dCons (dC (.int 2)) (dCons (dC (.int 3)) (dCons (dC (.int 4)) (dCons (dC (.int 5)) (dCons (dC (.int 7)) (dCons (dC (.int 8)) dNil))))))))) (dgName 13) (dIfS (dNot (dB (dCall sp__law_refusals ED0 (dCons (dVar 1) (dCons (dVar 13) dNil)))))
      (dRet (dC (.bl false)))
      dNext)) t20_law
def t18_law : DS := dSeq (dIfS (dOr (dNot (dB (dCall sp__law_like ED0 (dCons (dCall sp_least_common ED0 (dCons (dLst dNil) dNil)) (dCons (dC (.int 1)) dNil))))) (dNot (dB (dCall sp__law_like ED0 (dCons (dCall sp_least_common ED0 (dCons (dLst (dCons (dC (.int 4)) (dCons (dC (.int 6)) (dCons (dC (.int 4)) (dCons (dC (.int 1)) dNil))))) dNil)) (dCons (dC (.int 12)) dNil))))))
      (dRet (dC (.bl false)))
      dNext) t19_law
def t17_law : DS := dSeq (dIfS (dOr (dNot (dB (dCall sp__law_like ED0 (dCons (dCall sp_least_common ED0 (dCons (dCB rListD (dCons (dVar 12) dNil)) dNil)) (dCons (dVar 8) dNil))))) (dNot (dB (dCall sp__law_like ED0 (dCons (dCall sp_least_common ED0 (dCons (dTupOf (dVar 12)) dNil)) (dCons (dVar 8) dNil))))))
      (dRet (dC (.bl false)))
      dNext) t18_law
def t16_law : DS := dSeq (dSet 8 (dCall sp__law_common ED0 (dCons (dVar 12) dNil))) t17_law
def t15_law : DS := dSeq (dSet 12 (dSl (dCall sp__law_mixed ED0 (dCons (dVar 1) (dCons (dVar 12) dNil))) dNoPart (dPart (dC (.int 6))))) t16_law
def t14_law : DS := dSeq (dIfS (dB (dOp (rEqv false) (dCall sp__law_draw ED0 (dCons (dVar 1) (dCons (dC (.int 2)) dNil))) (dC (.int 0))))
      (dSet 12 (dOp rAddD (dVar 12) (dSl (dLst (dCons (dOp rIxD (dVar 12) (dC (.int 0))) (dCons (dOp rMulD (dOp rIxD (dVar 12) (dC (.int 0))) (dC (.int 6))) (dCons (dC (.int 4)) (dCons (dC (.int 6)) dNil))))) dNoPart (dPart (dOp rAddD (dC (.int 1)) (dCall sp__law_draw ED0 (dCons (dVar 1) (dCons (dC (.int 4)) dNil))))))))
      dNext) t15_law
def t13_law : DS := dSeq (dSet 12 (dLcL 10 (dVar 7) dTYes (dOp rIxD (dVar 10) (dC (.int 1))))) t14_law
def t12_law : DS := dSeq (dForL (dSl (dVar 7) (dPart (dC (.int 1))) dNoPart) (dgName 10) (dSeq (dSet 11 (dIf (dB (dOp rGtD (dOp rIxD (dVar 10) (dC (.int 0))) (dC (.int 0)))) (dVar 10) (dTup (dCons (dC (.int 3)) (dCons (dC (.int 7)) dNil)))))
      (dSeq (dSet 8 (dCall sp__law_pair ED0 (dCons (dOp rMulD (dOp rIxD (dVar 8) (dC (.int 0))) (dOp rIxD (dVar 11) (dC (.int 1)))) (dCons (dOp rMulD (dOp rIxD (dVar 8) (dC (.int 1))) (dOp rIxD (dVar 11) (dC (.int 0)))) dNil))))
      (dSeq (dSet 9 (dCall sp_quotient ED0 (dCons (dVar 9) (dCons (dCall sp__law_dress ED0 (dCons (dVar 1) (dCons (dVar 11) dNil))) dNil))))
      (dIfS (dNot (dB (dCall sp__law_like ED0 (dCons (dVar 9) (dCons (dVar 8) dNil)))))
      (dRet (dC (.bl false)))
      dNext))))) t13_law
def t11_law : DS := dSeq (dSet 9 (dCall sp__law_dress ED0 (dCons (dVar 1) (dCons (dOp rIxD (dVar 7) (dC (.int 0))) dNil)))) t12_law
def t10_law : DS := dSeq (dSet 8 (dOp rIxD (dVar 7) (dC (.int 0)))) t11_law
def t9_law : DS := dSeq (dSet 7 (dLcR 14 (dCons (dOp rAddD (dC (.int 2)) (dCall sp__law_draw ED0 (dCons (dVar 1) (dCons (dC (.int 4)) dNil)))) dNil) dTYes (dCall sp__law_right ED0 (dCons (dVar 1) dNil)))) t10_law
def t8_law : DS := dSeq (dIfS (dOr (dNot (dB (dCall sp__law_like ED0 (dCons (dCall sp_raised ED0 (dCons (dC (.int 0)) (dCons (dC (.int 0)) dNil))) (dCons (dTup (dCons (dC (.int 1)) (dCons (dC (.int 1)) dNil))) dNil))))) (dNot (dB (dCall sp__law_like ED0 (dCons (dCall sp_raised ED0 (dCons (dTup (dCons (dC (.int 0)) (dCons (dC (.int 3)) dNil))) (dCons (dOp rAddD (dC (.int 1)) (dVar 3)) dNil))) (dCons (dTup (dCons (dC (.int 0)) (dCons (dC (.int 1)) dNil))) dNil))))))
      (dRet (dC (.bl false)))
      dNext) t9_law
def t7_law : DS := dSeq (dIfS (dNot (dB (dCall sp__law_like ED0 (dCons (dCall sp_raised ED0 (dCons (dCall sp_raised ED0 (dCons (dVar 2) (dCons (dOp rModD (dCB rIntD (dCons (dVar 4) dNil)) (dC (.int 9))) dNil))) (dCons (dVar 5) dNil))) (dCons (dCall sp__law_power ED0 (dCons (dVar 2) (dCons (dOp rMulD (dOp rModD (dCB rIntD (dCons (dVar 4) dNil)) (dC (.int 9))) (dVar 5)) dNil))) dNil)))))
      (dRet (dC (.bl false)))
      dNext) t8_law
def t6_law : DS := dSeq (dIfS (dNot (dB (dCall sp__law_like ED0 (dCons (dCall sp_times ED0 (dCons (dCall sp_raised ED0 (dCons (dVar 2) (dCons (dVar 3) dNil))) (dCons (dCall sp_raised ED0 (dCons (dVar 2) (dCons (dVar 4) dNil))) dNil))) (dCons (dCall sp__law_power ED0 (dCons (dVar 2) (dCons (dOp rAddD (dVar 3) (dVar 4)) dNil))) dNil)))))
      (dRet (dC (.bl false)))
      dNext) t7_law
def t5_law : DS := dSeq (dForT (dTup (dCons (dVar 3) (dCons (dVar 4) (dCons (dOp rAddD (dVar 3) (dVar 4)) dNil)))) (dgName 6) (dIfS (dNot (dB (dCall sp__law_like ED0 (dCons (dCall sp_raised ED0 (dCons (dCall sp__law_dress ED0 (dCons (dVar 1) (dCons (dVar 2) dNil))) (dCons (dVar 6) dNil))) (dCons (dCall sp__law_power ED0 (dCons (dVar 2) (dCons (dVar 6) dNil))) dNil)))))
      (dRet (dC (.bl false)))
      dNext)) t6_law
def t4_law : DS := dSeq (dSet 5 (dCall sp__law_of ED0 (dCons (dVar 1) (dCons (dLst (dCons (dC (.int 0)) (dCons (dC (.int 1)) (dCons (dC (.int 2)) (dCons (dC (.int 3)) (dCons (dC (.int 1)) dNil)))))) dNil)))) t5_law
def t3_law : DS := dSeq (dSet 4 (dCall sp__law_draw ED0 (dCons (dVar 1) (dCons (dOp rSubD (dC (.int 61)) (dVar 3)) dNil)))) t4_law
def t2_law : DS := dSeq (dSet 3 (dCall sp__law_draw ED0 (dCons (dVar 1) (dCons (dC (.int 41)) dNil)))) t3_law
def t1_law : DS := dSeq (dSet 2 (dCall sp__law_right ED0 (dCons (dVar 1) dNil))) t2_law
def t0_law : DS := dSeq (dSet 1 (dCall sp__law_bag ED0 (dCons (dVar 0) dNil))) t1_law
theorem e_law : d_law = t0_law := rfl

theorem lw20 {L : LHp} {b c : Addr} {Q : DK} {y0 y2 y3 y4 y5 y6 y7 y8 y9 y10 y11 y12 y13 y14 : Option D} (ok : BagOk L b c) (hQ : ∀ L', Q (.bl true) L') : t20_law (nx0 Q) [y0, some (.ref b), y2, y3, y4, y5, y6, y7, y8, y9, y10, y11, y12, y13, y14] L := by
  unfold t20_law
  walk_at "dv"
  exact ⟨b, c, rfl, ok, fun L' _ => hQ L'⟩
theorem lw19 {L : LHp} {b c : Addr} {Q : DK} {y0 y2 y3 y4 y5 y6 y7 y8 y9 y10 y11 y12 y13 y14 : Option D} (ok : BagOk L b c) (hQ : ∀ L', Q (.bl true) L') : t19_law (nx0 Q) [y0, some (.ref b), y2, y3, y4, y5, y6, y7, y8, y9, y10, y11, y12, y13, y14] L := by
  unfold t19_law dForT
  walk_at "dv"
  refine ⟨by decide, fun i τ L' => BagOk L' b c ∧ ∃ y, τ = [y0, some (.ref b), y2, y3, y4, y5, y6, y7, y8, y9, y10, y11, y12, y, y14], ⟨ok, _, rfl⟩, fun i d τ' L' hd ⟨ok', y, ey⟩ => ?_, fun τ' L' ⟨ok', y, ey⟩ => ?_⟩
  · subst ey
    have hm := List.mem_of_getElem? hd
    simp only [List.mem_cons, List.not_mem_nil, or_false] at hm
    have key : ∃ w : Int, d = .int w ∧ w ∈ [(0 : Int), 1, 2, 3, 4, 5, 7, 8] := by
      rcases hm with rfl | rfl | rfl | rfl | rfl | rfl | rfl | rfl <;> exact ⟨_, rfl, by decide⟩
    obtain ⟨w, rfl, hw⟩ := key
    walk_at "dv"
    refine ⟨b, c, w, rfl, hw, ok', fun L2 d2 => ⟨true, rfl, iteF d2.ok⟩⟩
  · subst ey
    exact lw20 ok' hQ
theorem lw18 {L : LHp} {b c : Addr} {Q : DK} {y0 y2 y3 y4 y5 y6 y7 y8 y9 y10 y11 y12 y13 y14 : Option D} (ok : BagOk L b c) (hQ : ∀ L', Q (.bl true) L') : t18_law (nx0 Q) [y0, some (.ref b), y2, y3, y4, y5, y6, y7, y8, y9, y10, y11, y12, y13, y14] L := by
  unfold t18_law
  walk_at "dv"
  have g0 : ∀ {p xs}, L p = none → Gr L (lupd L p (.lst xs)) := fun h => Gr.new h
  refine ⟨by decide, fun p hp => ⟨[], 1, ⟨by simp, by decide, by decide⟩, .inr ⟨p, rfl, .inl lupd_same⟩, ⟨.int 1, b, rfl, .sc (.int _), fun L1 g1 => ⟨true, rfl, iteF ⟨by decide, fun p2 hp2 => ?_⟩⟩⟩⟩⟩
  have ok1 := ok.gr ((g0 hp).trans g1)
  have e : lcmL [4, 6, 4, 1] = 12 := by decide +kernel
  refine ⟨[4, 6, 4, 1], 3, ⟨by decide, by decide, by decide⟩, .inr ⟨p2, rfl, .inl lupd_same⟩, ?_⟩
  rw [e]
  exact ⟨.int 12, b, rfl, .sc (.int _), fun L2 g2 => ⟨true, rfl, iteF (lw19 (ok1.gr ((Gr.new hp2).trans g2)) hQ)⟩⟩
theorem lw17 {L : LHp} {b c t : Addr} {ns : List Nat} {B : Nat} {Q : DK} {y0 y2 y3 y4 y5 y6 y7 y9 y10 y11 y13 y14 : Option D} (ok : BagOk L b c) (ht : LRd L t (nI ns)) (lo : LcmOk ns B) (hQ : ∀ L', Q (.bl true) L') : t17_law (nx0 Q) [y0, some (.ref b), y2, y3, y4, y5, y6, y7, some (.int (lcmL ns)), y9, y10, y11, some (.ref t), y13, y14] L := by
  unfold t17_law
  walk_at "dv"
  show ∃ ds, LRd L t ds ∧ ∀ p, L p = none → _
  refine ⟨_, ht, fun p hp => ⟨ns, B, lo, .inr ⟨p, rfl, .inl lupd_same⟩, ⟨_, b, rfl, .sc (.int _), fun L1 g1 => ⟨true, rfl, iteF ?_⟩⟩⟩⟩
  have gg : Gr L L1 := (Gr.new hp).trans g1
  unfold dTupOf
  walk_at "dv"
  refine .inl ⟨_, ht.imp (gg _ _) (gg _ _), ns, B, lo, .inl rfl, ⟨_, b, rfl, .sc (.int _), fun L2 g2 => ⟨true, rfl, iteF (lw18 (ok.gr (gg.trans g2)) hQ)⟩⟩⟩
theorem lw16 {L : LHp} {b c t : Addr} {ns : List Nat} {B : Nat} {Q : DK} {y0 y2 y3 y4 y5 y6 y7 y8 y9 y10 y11 y13 y14 : Option D} (ok : BagOk L b c) (ht : LRd L t (nI ns)) (lo : LcmOk ns B) (hQ : ∀ L', Q (.bl true) L') : t16_law (nx0 Q) [y0, some (.ref b), y2, y3, y4, y5, y6, y7, y8, y9, y10, y11, some (.ref t), y13, y14] L := by
  unfold t16_law
  walk_at "dv"
  exact ⟨ns, B, t, lo, rfl, ht, lw17 ok ht lo hQ⟩
theorem nI_of {ns : List Nat} : ∀ {ys : List D}, (∀ y ∈ ys, ∃ n ∈ ns, y = .int (n : Nat)) → ∃ ms, ys = nI ms ∧ ∀ n ∈ ms, n ∈ ns
  | [], _ => ⟨[], rfl, by simp⟩
  | y :: ys, h => by
    obtain ⟨n, hn, e⟩ := h y (by simp)
    obtain ⟨ms, e2, h2⟩ := nI_of (ys := ys) fun z hz => h z (by simp [hz])
    refine ⟨n :: ms, by rw [e, e2]; rfl, fun k hk => ?_⟩
    rcases List.mem_cons.mp hk with rfl | hk
    · exact hn
    · exact h2 k hk
theorem cut_nI (ms : List Nat) : ∃ ks, DV.cutD (nI ms) none (some 6) = nI ks ∧ (∀ n ∈ ks, n ∈ ms) ∧ ks.length ≤ 6 := by
  refine ⟨(ms.drop 0).take (HT.sIx ms.length ms.length (some 6) - 0), ?_, fun n hn => List.mem_of_mem_drop (List.mem_of_mem_take hn), ?_⟩
  · unfold DV.cutD
    rw [nI_len, HT.sIx_none]
    unfold nI
    rw [List.map_take, List.map_drop]
  · rw [List.length_take, show (6 : Int) = ((6 : Nat) : Int) from rfl, HT.sIx_nat]
    omega
theorem lw15 {L : LHp} {b c t : Addr} {ns : List Nat} {Q : DK} {y0 y2 y3 y4 y5 y6 y7 y8 y9 y10 y11 y13 y14 : Option D} (ok : BagOk L b c) (nt : t ≠ b) (ht : LRd L t (nI ns)) (hn : ∀ n ∈ ns, 0 < n ∧ n < 2 ^ 104) (hl : ns.length ≤ 100) (hQ : ∀ L', Q (.bl true) L') : t15_law (nx0 Q) [y0, some (.ref b), y2, y3, y4, y5, y6, y7, y8, y9, y10, y11, some (.ref t), y13, y14] L := by
  unfold t15_law
  walk_at "dv"
  refine ⟨b, c, t, nI ns, rfl, ok, nt, ht, by rw [nI_len]; omega, fun p ys L1 hp pm hl1 d1 => ?_⟩
  obtain ⟨ms, rfl, hms⟩ := nI_of (ys := ys) fun y hy => by
    obtain ⟨n, hn, e⟩ := List.mem_map.mp (pm.mem_iff.mp hy)
    exact ⟨n, hn, e.symm⟩
  show ∃ ds, LRd L1 p ds ∧ ∀ p2, L1 p2 = none → _
  refine ⟨_, .inl hl1, fun p2 hp2 => ?_⟩
  obtain ⟨ks, ek, hk, lk⟩ := cut_nI ms
  rw [ek]
  exact lw16 (d1.ok.gr (Gr.new hp2)) (.inl lupd_same) (B := 104) ⟨fun n h => hn n (hms n (hk n h)), by omega, by decide⟩ hQ
theorem cut_nI2 (ms : List Nat) (k : Nat) : ∃ ks, DV.cutD (nI ms) none (some (k : Int)) = nI ks ∧ (∀ n ∈ ks, n ∈ ms) ∧ ks.length ≤ ms.length := by
  refine ⟨(ms.drop 0).take (HT.sIx ms.length ms.length (some (k : Int)) - 0), ?_, fun n hn => List.mem_of_mem_drop (List.mem_of_mem_take hn), ?_⟩
  · unfold DV.cutD
    rw [nI_len, HT.sIx_none]
    unfold nI
    rw [List.map_take, List.map_drop]
  · rw [List.length_take, List.drop_zero]
    omega
theorem lw14 {L : LHp} {b c t : Addr} {ns : List Nat} {Q : DK} {y0 y2 y3 y4 y5 y6 y7 y8 y9 y10 y11 y13 y14 : Option D} (ok : BagOk L b c) (nt : t ≠ b) (ht : L t = some (.lst (nI ns))) (hn : ∀ n ∈ ns, 0 < n ∧ n < 2 ^ 101) (h0 : 0 < ns.length) (hl : ns.length ≤ 10) (hQ : ∀ L', Q (.bl true) L') : t14_law (nx0 Q) [y0, some (.ref b), y2, y3, y4, y5, y6, y7, y8, y9, y10, y11, some (.ref t), y13, y14] L := by
  have e104 : (2 : Nat) ^ 104 = 2 ^ 101 * 8 := by rw [show (8 : Nat) = 2 ^ 3 by decide, ← Nat.pow_add]
  have hn' : ∀ n ∈ ns, 0 < n ∧ n < 2 ^ 104 := fun n h => ⟨(hn n h).1, by have := (hn n h).2; omega⟩
  unfold t14_law
  walk_at "dv"
  refine ⟨b, c, 2, rfl, ok, ⟨by decide, by decide⟩, fun d L1 hd d1 => ?_⟩
  have e1 := d1.kp _ _ nt ht
  show ∃ c_1, D.bl (decide (d = 0)) = D.bl c_1 ∧ _
  by_cases h00 : d = 0
  · rw [decide_eq_true h00]
    match ns, h0, e1, hn, hn', hl with
    | n0 :: ns, _, e1, hn, hn', hl =>
      refine ⟨true, rfl, iteT ⟨_, .inl e1, .int (n0 : Nat), at_gen (j := 0) rfl rfl, _, .inl e1, .int (n0 : Nat), at_gen (j := 0) rfl rfl, ?_⟩⟩
      show _ ∧ _
      refine ⟨cmulR (by decide), by decide, fun p hp => ?_⟩
      have e4 : ([D.int (n0 : Nat), D.int ((n0 : Int) * 6), D.int 4, D.int 6] : List D) = nI [n0, n0 * 6, 4, 6] := by unfold nI; simp
      rw [e4]
      have np := d1.ok.ne hp
      refine ⟨b, c, 4, rfl, d1.ok.gr (Gr.new hp), ⟨by decide, by decide⟩, fun u L2 hu d2 => ?_⟩
      obtain ⟨u, rfl⟩ := Int.eq_ofNat_of_zero_le hu.1
      obtain ⟨ks, ek, hk, lk⟩ := cut_nI2 [n0, n0 * 6, 4, 6] (1 + u)
      have eu : (1 : Int) + (u : Int) = ((1 + u : Nat) : Int) := by omega
      show ∃ i, D.int (1 + (u : Int)) = D.int i ∧ _
      rw [eu]
      refine ⟨_, rfl, _, .inl (d2.kp _ _ np lupd_same), fun p2 hp2 => ?_⟩
      rw [ek]
      have e2 := (Gr.new (o := .lst (nI ks)) hp2) _ _ (d2.kp _ _ nt ((Gr.new (o := .lst (nI [n0, n0 * 6, 4, 6])) hp) _ _ e1))
      have lk' : ks.length ≤ 4 := lk
      refine ⟨_, e2, _, lupd_same, ?_, fun r hr => ?_⟩
      · rw [nI_len, nI_len]; exact sz (by omega)
      · have er : nI (n0 :: ns) ++ nI ks = nI ((n0 :: ns) ++ ks) := by unfold nI; rw [List.map_append]
        rw [er]
        have ok2 := d2.ok.gr (Gr.new (o := .lst (nI ks)) hp2)
        refine lw15 (ok2.gr (Gr.new hr)) (ok2.ne hr) (.inl lupd_same) (fun n h => ?_) (by rw [List.length_append]; omega) hQ
        rcases List.mem_append.mp h with h | h
        · exact hn' n h
        · have z := hk n h
          have b0 := hn n0 (by simp)
          simp only [List.mem_cons, List.not_mem_nil, or_false] at z
          have p8 : (8 : Nat) ≤ 2 ^ 104 := by decide +kernel
          rcases z with rfl | rfl | rfl | rfl <;> omega
  · rw [decide_eq_false h00]
    exact ⟨false, rfl, iteF (lw15 d1.ok nt (.inl e1) hn' (by omega) hQ)⟩
theorem lw13 {L : LHp} {b c t : Addr} {qs : List Rat} {Q : DK} {y0 y2 y3 y4 y5 y6 y8 y9 y10 y11 y12 y13 y14 : Option D} (ok : BagOk L b c) (nt : t ≠ b) (ht : L t = some (.lst (qs.map fr))) (hq : ∀ q ∈ qs, Bd 100 q) (h0 : 0 < qs.length) (hl : qs.length ≤ 10) (hQ : ∀ L', Q (.bl true) L') : t13_law (nx0 Q) [y0, some (.ref b), y2, y3, y4, y5, y6, some (.ref t), y8, y9, y10, y11, y12, y13, y14] L := by
  unfold t13_law dLcL
  walk_at "dv"
  refine ⟨_, .inl ht, fun E hE => ?_⟩
  refine ⟨fun i L' => L' = lupd L E (.lst (nI ((qs.take i).map (·.den)))), rfl, fun i L' hi e => ?_, fun i d L' hd e => ?_, fun L' e => ?_⟩
  · rw [e]; exact .inl ((Gr.new hE) _ _ ht)
  · subst e
    rw [List.getElem?_map] at hd
    obtain ⟨q, gq, rfl⟩ := Option.map_eq_some_iff.mp hd
    unfold lcTurn dTYes fr
    walk_at "dv"
    refine ⟨_, at1 _ _, _, lupd_same, ?_, ?_⟩
    · rw [nI_len, List.length_map, List.length_take]
      have h1 : i < qs.length := (List.getElem?_eq_some_iff.mp gq).1
      exact sz (by omega)
    · rw [lupd_lupd, take_snoc gq, List.map_append]
      unfold nI
      rw [List.map_append]
      rfl
  · subst e
    rw [List.length_map, List.take_length]
    have p8 : (2 : Nat) ^ 101 = 2 ^ 100 * 2 := Nat.pow_succ _ _
    refine lw14 (ok.gr (Gr.new hE)) (ok.ne hE) lupd_same (fun n h => ?_) (by rw [List.length_map]; exact h0) (by rw [List.length_map]; exact hl) hQ
    obtain ⟨q, hm, rfl⟩ := List.mem_map.mp h
    have := (hq q hm).bot
    exact ⟨q.den_pos, by show q.den < 2 ^ 101; omega⟩
def lb_law : DS := (dSeq (dSet 8 (dCall sp__law_pair ED0 (dCons (dOp rMulD (dOp rIxD (dVar 8) (dC (.int 0))) (dOp rIxD (dVar 11) (dC (.int 1)))) (dCons (dOp rMulD (dOp rIxD (dVar 8) (dC (.int 1))) (dOp rIxD (dVar 11) (dC (.int 0)))) dNil))))
      (dSeq (dSet 9 (dCall sp_quotient ED0 (dCons (dVar 9) (dCons (dCall sp__law_dress ED0 (dCons (dVar 1) (dCons (dVar 11) dNil))) dNil))))
      (dIfS (dNot (dB (dCall sp__law_like ED0 (dCons (dVar 9) (dCons (dVar 8) dNil)))))
      (dRet (dC (.bl false)))
      dNext)))
theorem e12_law : t12_law = dSeq (dForL (dSl (dVar 7) (dPart (dC (.int 1))) dNoPart) (dgName 10) (dSeq (dSet 11 (dIf (dB (dOp rGtD (dOp rIxD (dVar 10) (dC (.int 0))) (dC (.int 0)))) (dVar 10) (dTup (dCons (dC (.int 3)) (dCons (dC (.int 7)) dNil))))) lb_law)) t13_law := rfl
theorem told_fr {L : LHp} {b : Addr} {n : Nat} (q : Rat) : Told L b (n + 1) (fr q) := .tup (by simp) (all2 (.sc (.int _)) (.sc (.int _)))
theorem quo_eq {r q : Rat} (hq : 0 < q.num) : ((r.num * (q.den : Int) : Int) : Rat) / (((r.den : Int) * q.num : Int) : Rat) = r / q := div_cross hq
theorem lwb {L : LHp} {b c : Addr} {r q : Rat} {e : D} {B : Nat} {N : DSt → LHp → Prop} {X : DEnds} {y0 y2 y3 y4 y5 y6 y7 y10 y12 y13 y14 : Option D} (ok : BagOk L b c) (re : Raw B e r) (hB : B + 200 ≤ 8000) (hq : 0 < q.num) (bq : Bd 100 q) (hX : X.nx = N)
    (k : ∀ L', Dr b c L L' → Raw (B + 103) (fr (r / q)) (r / q) → N [y0, some (.ref b), y2, y3, y4, y5, y6, y7, some (fr (r / q)), some (fr (r / q)), y10, some (fr q), y12, y13, y14] L') :
    lb_law X [y0, some (.ref b), y2, y3, y4, y5, y6, y7, some (fr r), some e, y10, some (fr q), y12, y13, y14] L := by
  have br := re.bd
  have q0 : q ≠ 0 := fun h => by rw [h] at hq; exact absurd hq (by decide)
  unfold lb_law
  walk_at "dv"
  unfold fr
  walk_at "dv"
  have bt := mul_lt br.top bq.botI
  have bb := mul_lt br.botI bq.top
  have raw : Raw (B + 103) (fr (r / q)) (r / q) := by
    have z := bd_of (B + 100) (r.num * (q.den : Int)) ((r.den : Int) * q.num) (Int.mul_nonneg br.num0 (by omega)) (Int.mul_pos (den_pos r) hq) bt bb
    rw [quo_eq hq] at z
    exact (z.mono (by omega)).raw
  refine ⟨_, at0 _ _, _, at1 _ _, ?_⟩
  show _ ∧ _
  refine ⟨mulW br.top bq.botI (by omega), _, at1 _ _, _, at0 _ _, ?_⟩
  show _ ∧ _
  refine ⟨mulW br.botI bq.top (by omega), ?_⟩
  refine ⟨_, _, rfl, Int.mul_nonneg br.num0 (by omega), Int.mul_pos (den_pos r) hq, Nat.lt_of_lt_of_le bb (Nat.pow_le_pow_right (by decide) (by omega)), ?_⟩
  rw [quo_eq hq]
  refine ⟨b, c, q, 100, rfl, ok, bq, by decide, fun x L1 d1 rx => ?_⟩
  refine .inr (.inr ⟨e, x, B, 103, r, q, rfl, re, rx, by omega, q0, ?_⟩)
  refine ⟨_, b, rfl, told_fr _, fun L2 g2 => ⟨true, rfl, iteF ?_⟩⟩
  rw [hX]
  exact k L2 (d1.gr g2) raw
theorem fr37 : fr (3 / 7) = D.tup [D.int 3, D.int 7] := by
  unfold fr
  rw [show ((3 / 7 : Rat)).num = 3 by decide +kernel, show ((3 / 7 : Rat)).den = 7 by decide +kernel]
  rfl
theorem cut_tl (d : D) (ds : List D) : DV.cutD (d :: ds) (some 1) none = ds := by
  unfold DV.cutD
  rw [HT.sIx_none, show (1 : Int) = ((1 : Nat) : Int) from rfl, HT.sIx_nat, List.length_cons, Nat.min_eq_left (by omega), List.drop_one, List.tail_cons]
  exact List.take_of_length_le (by omega)
def I12 (b c t p : Addr) (q0 : Rat) (qs : List Rat) (y0 y2 y3 y4 y5 y6 y12 y13 y14 : Option D) (i : Nat) (τ : DSt) (L' : LHp) : Prop := BagOk L' b c ∧ L' t = some (.lst ((q0 :: qs).map fr)) ∧ L' p = some (.lst (qs.map fr)) ∧ ∃ r e y10 y11, τ = [y0, some (.ref b), y2, y3, y4, y5, y6, some (.ref t), some (fr r), some e, y10, y11, y12, y13, y14] ∧ Raw (103 * (i + 1)) e r
theorem lw12 {L : LHp} {b c t : Addr} {q0 : Rat} {qs : List Rat} {d : D} {Q : DK} {y0 y2 y3 y4 y5 y6 y10 y11 y12 y13 y14 : Option D} (ok : BagOk L b c) (nt : t ≠ b) (ht : L t = some (.lst ((q0 :: qs).map fr))) (hq : ∀ q ∈ q0 :: qs, Bd 100 q) (hl : qs.length ≤ 9) (rd : Raw 103 d q0) (hQ : ∀ L', Q (.bl true) L') : t12_law (nx0 Q) [y0, some (.ref b), y2, y3, y4, y5, y6, some (.ref t), some (fr q0), some d, y10, y11, y12, y13, y14] L := by
  rw [e12_law]
  unfold dForL
  walk_at "dv"
  refine ⟨_, .inl ht, fun p hp => ?_⟩
  have ec : DV.cutD (List.map fr (q0 :: qs)) (some 1) none = qs.map fr := by rw [List.map_cons]; exact cut_tl _ _
  rw [ec]
  have np := ok.ne hp
  have gp := Gr.new (o := .lst (qs.map fr)) hp
  refine ⟨_, .inl lupd_same, I12 b c t p q0 qs y0 y2 y3 y4 y5 y6 y12 y13 y14,
    ⟨ok.gr gp, gp _ _ ht, lupd_same, q0, d, y10, y11, rfl, rd⟩, fun i τ' L' hi ⟨_, _, e, _⟩ => .inl e, fun i x τ' L' hx ⟨ok', et, ep, r, e, y10, y11, eτ, re⟩ => ?_, fun τ' L' ⟨ok', et, ep, r, e, y10, y11, eτ, re⟩ => ?_⟩
  · subst eτ
    rw [List.getElem?_map] at hx
    obtain ⟨q, gq, rfl⟩ := Option.map_eq_some_iff.mp hx
    have bq := hq q (by simp [List.mem_of_getElem? gq])
    have h1 : i < qs.length := (List.getElem?_eq_some_iff.mp gq).1
    have e103 : 103 * (i + 1 + 1) = 103 * (i + 1) + 103 := by omega
    have fin : ∀ q', 0 < q'.num → Bd 100 q' → ∀ X : DEnds, X.nx = I12 b c t p q0 qs y0 y2 y3 y4 y5 y6 y12 y13 y14 (i + 1) →
        lb_law X [y0, some (.ref b), y2, y3, y4, y5, y6, some (.ref t), some (fr r), some e, some (fr q), some (fr q'), y12, y13, y14] L' := fun q' hp' bq' X hX =>
      lwb ok' re (by omega) hp' bq' hX fun L2 d2 rw' => ⟨d2.ok, d2.kp _ _ nt et, d2.kp _ _ np ep, _, _, _, _, rfl, by rw [e103]; exact rw'⟩
    walk_at "dv"
    show ∃ d, atI [D.int q.num, D.int (q.den : Int)] 0 = some d ∧ _
    refine ⟨_, at0 _ _, ?_⟩
    show _ ∧ ∃ c, D.bl (decide (0 < q.num)) = D.bl c ∧ _
    refine ⟨trivial, _, rfl, ?_⟩
    by_cases hn : 0 < q.num
    · rw [decide_eq_true hn]
      exact iteT (fin q hn bq _ rfl)
    · rw [decide_eq_false hn]
      refine iteF ⟨by decide, ?_⟩
      rw [← fr37]
      exact fin (3 / 7) (by decide +kernel) ⟨by decide +kernel, by decide +kernel, by decide +kernel⟩ _ rfl
  · subst eτ
    exact lw13 ok' nt et hq (by simp) (by simp; omega) hQ
theorem lw10 {L : LHp} {b c t : Addr} {qs : List Rat} {Q : DK} {y0 y2 y3 y4 y5 y6 y8 y9 y10 y11 y12 y13 y14 : Option D} (ok : BagOk L b c) (nt : t ≠ b) (ht : L t = some (.lst (qs.map fr))) (hq : ∀ q ∈ qs, Bd 100 q) (h0 : 2 ≤ qs.length) (hl : qs.length ≤ 5) (hQ : ∀ L', Q (.bl true) L') : t10_law (nx0 Q) [y0, some (.ref b), y2, y3, y4, y5, y6, some (.ref t), y8, y9, y10, y11, y12, y13, y14] L := by
  unfold t10_law t11_law
  walk_at "dv"
  match qs, h0, hl, ht, hq with
  | q0 :: qs, h0, hl, ht, hq =>
    refine ⟨_, .inl ht, fr q0, at_gen (j := 0) rfl rfl, _, .inl ht, fr q0, at_gen (j := 0) rfl rfl, b, c, q0, 100, rfl, ok, hq q0 (by simp), by decide, fun d L1 d1 rd => ?_⟩
    exact lw12 d1.ok nt (d1.kp _ _ nt ht) hq (by simp at hl; omega) rd hQ
theorem lw9 {L : LHp} {b c : Addr} {Q : DK} {y0 y2 y3 y4 y5 y6 y7 y8 y9 y10 y11 y12 y13 y14 : Option D} (ok : BagOk L b c) (hQ : ∀ L', Q (.bl true) L') : t9_law (nx0 Q) [y0, some (.ref b), y2, y3, y4, y5, y6, y7, y8, y9, y10, y11, y12, y13, y14] L := by
  unfold t9_law dLcR
  walk_at "dv"
  refine ⟨b, c, 4, rfl, ok, ⟨by decide, by decide⟩, fun u L1 hu d1 => ?_⟩
  obtain ⟨u, rfl⟩ := Int.eq_ofNat_of_zero_le hu.1
  show ∃ n, D.int (2 + (u : Int)) = D.int n ∧ _
  refine ⟨_, rfl, by omega, by omega, fun E hE => ?_⟩
  have nE := d1.ok.ne hE
  have eu : ((2 : Int) + (u : Int)).toNat = 2 + u := by omega
  refine ⟨fun i L' => ∃ qs : List Rat, qs.length = i ∧ (∀ q ∈ qs, Bd 100 q) ∧ L' E = some (.lst (qs.map fr)) ∧ Dr b c L1 L', ⟨[], rfl, by simp, lupd_same, .gr (.refl d1.ok) (Gr.new hE)⟩, fun i L' hi ⟨qs, hl, hq, e, d⟩ => ?_, fun L' ⟨qs, hl, hq, e, d⟩ => ?_⟩
  · unfold lcTurn dTYes
    walk_at "dv"
    refine ⟨b, c, rfl, d.ok, fun q L2 d2 bq => ?_⟩
    refine ⟨_, d2.kp _ _ nE e, ?_, qs ++ [q], by simp [hl], ?_, by rw [List.map_append]; exact lupd_same, dr_put d1.ok hE (d.trans d2)⟩
    · rw [List.length_map, hl]
      exact sz (by omega)
    · intro x hx
      rcases List.mem_append.mp hx with h | h
      · exact hq x h
      · rw [List.mem_singleton.mp h]; exact bq
  · exact lw10 d.ok nE e hq (by omega) (by omega) hQ
theorem raised_k {B n : Nat} {a : D} {q : Rat} {L : LHp} {Q : DK} {E : XD} (r : Raw B a q) (hn : n ≤ 100) (hB : B ≤ 8000) (hs : B * n ≤ 8000) (h : Q (fr (q ^ n)) L) : sp_raised [a, .int (n : Int)] L Q E := ⟨a, _, rfl, raw_kn r, .inr (.inr ⟨B, n, q, r, rfl, hn, hB, hs, h⟩)⟩
theorem like_fr {q : Rat} {L : LHp} {b : Addr} {Q : DK} (h : ∀ L', Gr L L' → Q (.bl true) L') : sp__law_like [fr q, fr q] L Q ED0 := ⟨_, b, rfl, told_fr _, h⟩
theorem rpow_add (q : Rat) (a : Nat) : ∀ b : Nat, q ^ (a + b) = q ^ a * q ^ b := fun b => by
  induction b with
  | zero => rw [Nat.add_zero, Rat.pow_zero, Rat.mul_one]
  | succ b ih => rw [← Nat.add_assoc, Rat.pow_succ, ih, Rat.pow_succ, Rat.mul_assoc]
theorem rpow_mul (q : Rat) (a : Nat) : ∀ b : Nat, q ^ (a * b) = (q ^ a) ^ b := fun b => by
  induction b with
  | zero => rw [Nat.mul_zero, Rat.pow_zero, Rat.pow_zero]
  | succ b ih => rw [Nat.mul_succ, rpow_add, ih, Rat.pow_succ]
theorem bdp {q : Rat} {B n : Nat} (h : Bd B q) (hs : B * n ≤ 7999) : Bd (B * n + 1) (q ^ n) := by
  obtain ⟨a1, a2, a3⟩ := bd_pow h n (Nat.le_refl n) hs
  refine ⟨?_, by rw [(rat_pow_num q n).1]; exact a1, ?_⟩
  · refine Rat.num_nonneg.mp ?_
    rw [(rat_pow_num q n).1]
    exact Int.pow_nonneg h.num0
  · rw [(rat_pow_num q n).2]
    rw [← Int.natCast_pow] at a2
    simpa using a2
theorem power_k {B n : Nat} {q : Rat} {L : LHp} {Q : DK} {E : XD} (h : Bd B q) (hn : n ≤ 100) (hs : B * n ≤ 7999) (k : Q (fr (q ^ n)) L) : sp__law_power [fr q, .int (n : Int)] L Q E := ⟨q, n, B, rfl, hn, h, hs, k⟩
theorem lw8 {L : LHp} {b c : Addr} {f : Nat} {Q : DK} {y0 y2 y4 y5 y6 y7 y8 y9 y10 y11 y12 y13 y14 : Option D} (ok : BagOk L b c) (hf : f ≤ 40) (hQ : ∀ L', Q (.bl true) L') : t8_law (nx0 Q) [y0, some (.ref b), y2, some (.int (f : Int)), y4, y5, y6, y7, y8, y9, y10, y11, y12, y13, y14] L := by
  unfold t8_law
  walk_at "dv"
  have r0 : Raw 1 (.int 0) 0 := Raw.int 0 (by decide) (by decide) (by decide)
  have e0 : fr ((0 : Rat) ^ 0) = .tup [.int 1, .int 1] := by rw [Rat.pow_zero]; rfl
  have r3 : Raw 3 (.tup [.int 0, .int 3]) 0 := by
    have := Raw.pair (B := 3) 0 3 (by decide) (by decide) (by decide) (by decide)
    rw [Rat.intCast_zero, Rat.div_def, Rat.zero_mul] at this
    exact this
  have e3 : fr ((0 : Rat) ^ (1 + f)) = .tup [.int 0, .int 1] := by rw [Nat.add_comm, Rat.pow_succ, Rat.mul_zero]; rfl
  have ef : (1 : Int) + (f : Int) = ((1 + f : Nat) : Int) := by omega
  refine raised_k (n := 0) r0 (by decide) (by decide) (by decide) ?_
  rw [e0]
  refine ⟨by decide, _, b, rfl, .tup (by simp) (all2 (.sc (.int _)) (.sc (.int _))), fun L1 g1 => ⟨true, rfl, iteF ⟨by decide, ?_⟩⟩⟩
  rw [ef]
  refine raised_k (n := 1 + f) r3 (by omega) (by decide) (by omega) ?_
  rw [e3]
  refine ⟨by decide, _, b, rfl, .tup (by simp) (all2 (.sc (.int _)) (.sc (.int _))), fun L2 g2 => ⟨true, rfl, iteF (lw9 (ok.gr (g1.trans g2)) hQ)⟩⟩
theorem lw7 {L : LHp} {b c : Addr} {f s u : Nat} {q : Rat} {Q : DK} {y0 y6 y7 y8 y9 y10 y11 y12 y13 y14 : Option D} (ok : BagOk L b c) (bq : Bd 100 q) (hf : f ≤ 40) (hs : s ≤ 60) (hu : u ≤ 3) (hQ : ∀ L', Q (.bl true) L') : t7_law (nx0 Q) [y0, some (.ref b), some (fr q), some (.int (f : Int)), some (.int (s : Int)), some (.int (u : Int)), y6, y7, y8, y9, y10, y11, y12, y13, y14] L := by
  unfold t7_law
  walk_at "dv"
  have e9 : (s : Int) % 9 = ((s % 9 : Nat) : Int) := by omega
  rw [e9]
  have h8 : s % 9 ≤ 8 := by omega
  have hm : s % 9 * u ≤ 24 := Nat.le_trans (Nat.mul_le_mul h8 hu) (by decide)
  refine ⟨by decide, raised_k (n := s % 9) bq.raw (by omega) (by decide) (by omega) ?_⟩
  have b2 : Bd 801 (q ^ (s % 9)) := (bdp (n := s % 9) bq (by omega)).mono (by omega)
  refine raised_k (n := u) b2.raw (by omega) (by decide) (by omega) ⟨by decide, cmulR (by omega), ?_⟩
  rw [← rpow_mul, ← Int.natCast_mul]
  refine power_k (n := s % 9 * u) bq (by omega) (by omega) ?_
  exact like_fr (b := b) fun L1 g1 => ⟨true, rfl, iteF (lw8 (ok.gr g1) hf hQ)⟩
theorem lw6 {L : LHp} {b c : Addr} {f s u : Nat} {q : Rat} {Q : DK} {y0 y6 y7 y8 y9 y10 y11 y12 y13 y14 : Option D} (ok : BagOk L b c) (bq : Bd 100 q) (hf : f ≤ 40) (hs : f + s ≤ 60) (hu : u ≤ 3) (hQ : ∀ L', Q (.bl true) L') : t6_law (nx0 Q) [y0, some (.ref b), some (fr q), some (.int (f : Int)), some (.int (s : Int)), some (.int (u : Int)), y6, y7, y8, y9, y10, y11, y12, y13, y14] L := by
  unfold t6_law
  walk_at "dv"
  refine raised_k (n := f) bq.raw (by omega) (by decide) (by omega) ?_
  refine raised_k (n := s) bq.raw (by omega) (by decide) (by omega) ?_
  have b1 := bdp (n := f) bq (by omega)
  have b2 := bdp (n := s) bq (by omega)
  refine ⟨sz (by simp), .inr ⟨_, _, _, _, q ^ f, q ^ s, rfl, b1.raw, b2.raw, by omega, ?_⟩⟩
  show sp__law_power [fr q, .int ((f : Int) + (s : Int))] L (fun x_1 L1 => sp__law_like [fr (q ^ f * q ^ s), x_1] L1 _ ED0) ED0
  rw [← rpow_add, ← Int.natCast_add]
  refine power_k (n := f + s) bq (by omega) (by omega) ?_
  exact like_fr (b := b) fun L1 g1 => ⟨true, rfl, iteF (lw7 (ok.gr g1) bq hf (by omega) hu hQ)⟩
def I5 (b c : Addr) (q : Rat) (f s u : Nat) (y0 y7 y8 y9 y10 y11 y12 y13 y14 : Option D) (_ : Nat) (τ : DSt) (L' : LHp) : Prop := BagOk L' b c ∧ ∃ y, τ = [y0, some (.ref b), some (fr q), some (.int (f : Int)), some (.int (s : Int)), some (.int (u : Int)), y, y7, y8, y9, y10, y11, y12, y13, y14]
theorem lw5 {L : LHp} {b c : Addr} {f s u : Nat} {q : Rat} {Q : DK} {y0 y6 y7 y8 y9 y10 y11 y12 y13 y14 : Option D} (ok : BagOk L b c) (bq : Bd 100 q) (hf : f ≤ 40) (hs : f + s ≤ 60) (hu : u ≤ 3) (hQ : ∀ L', Q (.bl true) L') : t5_law (nx0 Q) [y0, some (.ref b), some (fr q), some (.int (f : Int)), some (.int (s : Int)), some (.int (u : Int)), y6, y7, y8, y9, y10, y11, y12, y13, y14] L := by
  unfold t5_law dForT
  walk_at "dv"
  refine ⟨sz (by simp), I5 b c q f s u y0 y7 y8 y9 y10 y11 y12 y13 y14, ⟨ok, _, rfl⟩, fun i d τ' L' hd ⟨ok', y, ey⟩ => ?_, fun τ' L' ⟨ok', y, ey⟩ => ?_⟩
  · subst ey
    have hm := List.mem_of_getElem? hd
    simp only [List.mem_cons, List.not_mem_nil, or_false] at hm
    have key : ∃ n : Nat, d = .int (n : Int) ∧ n ≤ 60 := by
      rcases hm with rfl | rfl | rfl
      · exact ⟨f, rfl, by omega⟩
      · exact ⟨s, rfl, by omega⟩
      · exact ⟨f + s, rfl, hs⟩
    obtain ⟨n, rfl, hn⟩ := key
    walk_at "dv"
    refine ⟨b, c, q, 100, rfl, ok', bq, by decide, fun x L1 d1 rx => ?_⟩
    refine raised_k (n := n) rx (by omega) (by decide) (by omega) ?_
    refine power_k (n := n) bq (by omega) (by omega) ?_
    exact like_fr (b := b) fun L2 g2 => ⟨true, rfl, iteF ⟨d1.ok.gr g2, _, rfl⟩⟩
  · subst ey
    exact lw6 ok' bq hf hs hu hQ
theorem lw3 {L : LHp} {b c : Addr} {f : Nat} {q : Rat} {Q : DK} {y0 y4 y5 y6 y7 y8 y9 y10 y11 y12 y13 y14 : Option D} (ok : BagOk L b c) (bq : Bd 100 q) (hf : f ≤ 40) (hQ : ∀ L', Q (.bl true) L') : t3_law (nx0 Q) [y0, some (.ref b), some (fr q), some (.int (f : Int)), y4, y5, y6, y7, y8, y9, y10, y11, y12, y13, y14] L := by
  unfold t3_law t4_law
  walk_at "dv"
  have hb : ((61 : Int) - (f : Int)).natAbs < 2 ^ 8000 := Nat.lt_of_lt_of_le (show ((61 : Int) - (f : Int)).natAbs < 2 ^ 8 by omega) (Nat.pow_le_pow_right (by decide) (by decide))
  refine ⟨b, c, _, rfl, ok, ⟨by omega, hb⟩, fun s L1 hs d1 => ?_⟩
  obtain ⟨s, rfl⟩ := Int.eq_ofNat_of_zero_le hs.1
  refine ⟨by decide, fun p hp => ⟨b, c, p, _, rfl, d1.ok.gr (Gr.new hp), d1.ok.ne hp, .inl lupd_same, ⟨by simp, by simp⟩, fun d L2 hd d2 => ?_⟩⟩
  have key : ∃ u : Nat, d = .int (u : Int) ∧ u ≤ 3 := by
    simp only [List.mem_cons, List.not_mem_nil, or_false] at hd
    rcases hd with rfl | rfl | rfl | rfl | rfl
    · exact ⟨0, rfl, by decide⟩
    · exact ⟨1, rfl, by decide⟩
    · exact ⟨2, rfl, by decide⟩
    · exact ⟨3, rfl, by decide⟩
    · exact ⟨1, rfl, by decide⟩
  obtain ⟨u, rfl, hu⟩ := key
  exact lw5 d2.ok bq hf (by omega) hu hQ
theorem rd_law (ds : List D) (L : LHp) (Q : DK) (E' : XD) (h : sp_law ds L Q E') : d_law { nx := fun _ L' => Q .non L', rt := Q } (dstart ["script", "bag", "one", "first", "second", "small", "n", "row", "due", "told", "other", "by", "numbers", "way", "k"] ds) L := by
  obtain ⟨ns, rfl, hl, hQ⟩ := h
  rw [e_law]
  unfold t0_law t1_law t2_law
  walk_at "dv"
  refine ⟨ns, rfl, hl, fun b c L1 hb ok g => ⟨b, c, rfl, ok, fun q L2 d2 bq => ⟨b, c, 41, rfl, d2.ok, ⟨by decide, by decide⟩, fun f L3 hf d3 => ?_⟩⟩⟩
  obtain ⟨f, rfl⟩ := Int.eq_ofNat_of_zero_le hf.1
  exact lw3 d3.ok bq (by omega) hQ
theorem len_law (ds : List D) (L : LHp) (Q : DK) (E' : XD) (h : sp_law ds L Q E') : ds.length = 1 := by obtain ⟨B, rfl, _⟩ := h; rfl
end K01
namespace K01
open PySem PySem.Spec PyProof.Rows L2 DV FR ExS
structure CalP (P : Program) (w : World) (K : PySem.W.Frag) (mg : Str → Option Value) (base : Heap) (x : Str) (k : Nat) (sp : DSp) (f : Addr) : Prop where
  F : FnL P w K mg base CX0 k f sp
  m : mg x = some (.ref f)
  kp : PySem.W.keepIn K (.ref f) = true
structure CalX (P : Program) (w : World) (K : PySem.W.Frag) (mg : Str → Option Value) (base : Heap) (x : Str) (k : Nat) (sp : DSp) (f : Addr) : Prop where
  F : FnR P w K mg base (L2.CX P w) k f (spL K sp)
  m : mg x = some (.ref f)
  kp : PySem.W.keepIn K (.ref f) = true
structure CalW (P : Program) (w : World) (K : PySem.W.Frag) (mg : Str → Option Value) (base : Heap) (x : Str) (k : Nat) (sp : DSp) (f : Addr) : Prop where
  F : FnW P w K mg base CX0 k f (spL K sp)
  m : mg x = some (.ref f)
  kp : PySem.W.keepIn K (.ref f) = true
structure Glb (mg : Str → Option Value) : Prop where
  abs : mg "abs" = none
  all : mg "all" = none
  bool : mg "bool" = none
  dict : mg "dict" = none
  int : mg "int" = none
  isinstance : mg "isinstance" = none
  len : mg "len" = none
  list : mg "list" = none
  max : mg "max" = none
  min : mg "min" = none
  range : mg "range" = none
  str : mg "str" = none
  tuple : mg "tuple" = none
  gcd : mg "gcd" = some (.builtin "math.gcd")
  lcm : mg "lcm" = some (.builtin "math.lcm")
structure Cst (mg : Str → Option Value) : Prop where
  MOST_DIGITS : ∃ t, mg "MOST_DIGITS" = some (.int 60 t)
structure Rsn (P : Program) (K : PySem.W.Frag) (mg : Str → Option Value) (iBadFraction iBadNumber : Addr) : Prop where
  super : mg "super" = none
  BadFraction : OwnT P K (He.ga K "BadFraction") iBadFraction t_BadFraction "BadFraction.__init__" (defArgs i_BadFraction) (defScope i_BadFraction).names
  BadNumber : OwnT P K (He.ga K "BadNumber") iBadNumber t_BadNumber "BadNumber.__init__" (defArgs i_BadNumber) (defScope i_BadNumber).names
structure Cls (K : PySem.W.Frag) (mg : Str → Option Value) : Prop where
  BadFraction : mg "BadFraction" = some (.ref (He.ga K "BadFraction"))
  BadNumber : mg "BadNumber" = some (.ref (He.ga K "BadNumber"))
  ModelError : mg "ModelError" = some (.ref (He.ga K "ModelError"))
  Missing : mg "Missing" = some (.ref (He.ga K "Missing"))
  Ended : mg "Ended" = some (.ref (He.ga K "Ended"))
  NoSuch : mg "NoSuch" = some (.ref (He.ga K "NoSuch"))
  BadName : mg "BadName" = some (.ref (He.ga K "BadName"))
  BadGround : mg "BadGround" = some (.ref (He.ga K "BadGround"))
  BadBook : mg "BadBook" = some (.ref (He.ga K "BadBook"))
  BadRecipe : mg "BadRecipe" = some (.ref (He.ga K "BadRecipe"))
  BadLook : mg "BadLook" = some (.ref (He.ga K "BadLook"))
  BadTerm : mg "BadTerm" = some (.ref (He.ga K "BadTerm"))
  BadQuestion : mg "BadQuestion" = some (.ref (He.ga K "BadQuestion"))
  BadReading : mg "BadReading" = some (.ref (He.ga K "BadReading"))
  BadScript : mg "BadScript" = some (.ref (He.ga K "BadScript"))
  NotBare : mg "NotBare" = some (.ref (He.ga K "NotBare"))
  NotOne : mg "NotOne" = some (.ref (He.ga K "NotOne"))
  NotScorer : mg "NotScorer" = some (.ref (He.ga K "NotScorer"))
  NoChance : mg "NoChance" = some (.ref (He.ga K "NoChance"))
  Unlike : mg "Unlike" = some (.ref (He.ga K "Unlike"))
  TooFew : mg "TooFew" = some (.ref (He.ga K "TooFew"))
  TooMany : mg "TooMany" = some (.ref (He.ga K "TooMany"))
structure Ins1 (K : PySem.W.Frag) : Prop where
  code : ∀ nm, okE nm → L2.XfC K (He.ga K nm) ∧ PySem.W.findIn K (.ref (He.ga K nm)) "code" = some none
  value : ∀ nm, okE nm → L2.XfC K (He.ga K nm) ∧ PySem.W.findIn K (.ref (He.ga K nm)) "value" = some none
  isx : ∀ nm c b, ibT nm c = some b → L2.ExcC K (He.ga K nm) ∧ PySem.W.kitOne K (.ref (He.ga K nm)) (.ref (He.ga K c)) = some b
  caught : ∀ nm, okE nm → PySem.W.exmAny K (.ref (He.ga K nm)) [.ref (He.ga K "ModelError"), .ref (He.ga K "Missing"), .ref (He.ga K "Ended")] = some true
theorem sc_is_number : FnScope ["value"] ["value"] (defScope s_is_number) := ⟨rfl, rfl, rfl, by decide +kernel, rfl, by decide +kernel, by decide +kernel⟩
theorem ok_is_number {P : Program} {w : World} {K : PySem.W.Frag} {mg : Str → Option Value} {base : Heap} {f : Addr} {fd : FuncData} (F : FunD K "is_number" "is_number" (defArgs s_is_number) (defBody s_is_number) (defScope s_is_number) [] [] f fd) (m : mg "is_number" = some (.ref f)) (G : Glb mg) (C : Cst mg) : CalP P w K mg base "is_number" 1 sp_is_number f := by
  have sc := sc_is_number
  refine ⟨fnL_mk (N := ["value"]) (ps := ["value"]) F (fun _ _ _ _ _ _ us hl => match us, hl with | [_], _ => rfl) sc_is_number len_is_number fun cdv A outer s H E ds L Q E' hr h => ⟨d_is_number, ?der, rd_is_number ds L Q E' h⟩, m, F.kp⟩
  case der =>
    exact (pdss_one (pds_ret (pd_and (pd_cb call_isi sim_isi rfl G.isinstance (by decide +kernel) (pda_cons (pdv 0) (pda_cons (pd_bltn rfl G.int boot_int) pda_nil))) (pd_one (pd_not (pd_cb call_isi sim_isi rfl G.isinstance (by decide +kernel) (pda_cons (pdv 0) (pda_cons (pd_bltn rfl G.bool boot_bool) pda_nil))))))))
theorem sc_is_fraction : FnScope ["value", "top", "bottom"] ["value"] (defScope s_is_fraction) := ⟨rfl, rfl, rfl, by decide +kernel, rfl, by decide +kernel, by decide +kernel⟩
theorem ok_is_fraction {P : Program} {w : World} {K : PySem.W.Frag} {mg : Str → Option Value} {base : Heap} {f : Addr} {fd : FuncData} {f_is_number : Addr} (F : FunD K "is_fraction" "is_fraction" (defArgs s_is_fraction) (defBody s_is_fraction) (defScope s_is_fraction) [] [] f fd) (m : mg "is_fraction" = some (.ref f)) (G : Glb mg) (C : Cst mg) (c_is_number : CalP P w K mg base "is_number" 1 sp_is_number f_is_number) : CalP P w K mg base "is_fraction" 2 sp_is_fraction f := by
  have sc := sc_is_fraction
  refine ⟨fnL_mk (N := ["value", "top", "bottom"]) (ps := ["value"]) F (fun _ _ _ _ _ _ us hl => match us, hl with | [_], _ => rfl) sc_is_fraction len_is_fraction fun cdv A outer s H E ds L Q E' hr h => ⟨d_is_fraction, ?der, rd_is_fraction ds L Q E' h⟩, m, F.kp⟩
  case der =>
    exact (pdss_cons (pds_if (pdt_val (pd_call (c_is_number.F.mono (by decide)) hr c_is_number.kp c_is_number.m pass0 xrel0 (pda_cons (pdv 0) pda_nil)))
      (pdss_one (pds_ret (pd_ge (pdv 0) pd_int)))
      pdss_nil)
      (pdss_cons (pds_if (PDW.pt (pdw_or (pdt_not (pdt_val (pd_cb call_isi sim_isi rfl G.isinstance (by decide +kernel) (pda_cons (pdv 0) (pda_cons (pd_bltn rfl G.tuple boot_tuple) pda_nil))))) (pdw_or1 (pdt_ne hr.units (pd_cb call_len sim_len rfl G.len (by decide +kernel) (pda_cons (pdv 0) pda_nil)) pd_int))))
      (pdss_one (pds_ret pd_bl))
      pdss_nil)
      (pdss_cons (pds_asg (pdv 0) (pdg_tup rfl (pdgs_cons (pdg_name (i := 1) sc.nd) (pdgs_cons (pdg_name (i := 2) sc.nd) pdgs_nil))))
      (pdss_one (pds_ret (pd_and (pd_call (c_is_number.F.mono (by decide)) hr c_is_number.kp c_is_number.m pass0 xrel0 (pda_cons (pdv 1) pda_nil)) (pd_and (pd_call (c_is_number.F.mono (by decide)) hr c_is_number.kp c_is_number.m pass0 xrel0 (pda_cons (pdv 2) pda_nil)) (pd_and (pd_ge (pdv 1) pd_int) (pd_one (pd_ge (pdv 2) pd_int))))))))))
theorem sc__check : FnScope ["values", "value"] ["values"] (defScope s__check) := ⟨rfl, rfl, rfl, by decide +kernel, rfl, by decide +kernel, by decide +kernel⟩
theorem ok__check {P : Program} {w : World} {K : PySem.W.Frag} {mg : Str → Option Value} {base : Heap} {f : Addr} {fd : FuncData} {f_is_fraction : Addr} (F : FunD K "_check" "_check" (defArgs s__check) (defBody s__check) (defScope s__check) [] [] f fd) (m : mg "_check" = some (.ref f)) (G : Glb mg) (C : Cst mg) (N : Cls K mg) {iBadFraction iBadNumber : Addr} (XX : Rsn P K mg iBadFraction iBadNumber) (c_is_fraction : CalP P w K mg base "is_fraction" 2 sp_is_fraction f_is_fraction) : CalX P w K mg base "_check" 3 sp__check f := by
  have sc := sc__check
  refine ⟨fnX_mk (N := ["values", "value"]) (ps := ["values"]) F (fun _ _ _ _ _ _ us hl => match us, hl with | [_], _ => rfl) sc__check len__check fun cdv A outer s H E ds L Q E' hr hX h => ⟨d__check E', ?der, rd__check ds L Q E' h⟩, m, F.kp⟩
  case der =>
    have hW := wok_def (P := P) (w := w) (K := K) (mg := mg) (base := base) (N := ["values", "value"]) (qual := "_check") (scope := defScope s__check) (f := f) (A := A) (outer := outer) (cdv := cdv) (s := s) hX
    exact (pdss_one (pds_forT (L2.passes_of rfl) rfl (pdv 0) (pdg_name (i := 1) sc.nd) (pdss_one (pds_if (pdt_not (pdt_val (pd_call (c_is_fraction.F.mono (by decide)) hr c_is_fraction.kp c_is_fraction.m pass0 xrel0 (pda_cons (pdv 1) pda_nil))))
      (pdss_one (pds_raise rfl hW XX.BadFraction XX.super hr (pda_cons (pdv 1) pda_nil) N.BadFraction rfl rfl))
      pdss_nil))))
theorem sc__reduced : FnScope ["value", "top", "bottom", "common"] ["value"] (defScope s__reduced) := ⟨rfl, rfl, rfl, by decide +kernel, rfl, by decide +kernel, by decide +kernel⟩
theorem ok__reduced {P : Program} {w : World} {K : PySem.W.Frag} {mg : Str → Option Value} {base : Heap} {f : Addr} {fd : FuncData} (F : FunD K "_reduced" "_reduced" (defArgs s__reduced) (defBody s__reduced) (defScope s__reduced) [] [] f fd) (m : mg "_reduced" = some (.ref f)) (G : Glb mg) (C : Cst mg) : CalP P w K mg base "_reduced" 1 sp__reduced f := by
  have sc := sc__reduced
  refine ⟨fnL_mk (N := ["value", "top", "bottom", "common"]) (ps := ["value"]) F (fun _ _ _ _ _ _ us hl => match us, hl with | [_], _ => rfl) sc__reduced len__reduced fun cdv A outer s H E ds L Q E' hr h => ⟨d__reduced, ?der, rd__reduced ds L Q E' h⟩, m, F.kp⟩
  case der =>
    exact (pdss_cons (pds_if (pdt_not (pdt_val (pd_cb call_isi sim_isi rfl G.isinstance (by decide +kernel) (pda_cons (pdv 0) (pda_cons (pd_bltn rfl G.tuple boot_tuple) pda_nil)))))
      (pdss_one (pds_ret (pd_tup (pda_cons (pdv 0) (pda_cons pd_int pda_nil)))))
      pdss_nil)
      (pdss_cons (pds_asg (pdv 0) (pdg_tup rfl (pdgs_cons (pdg_name (i := 1) sc.nd) (pdgs_cons (pdg_name (i := 2) sc.nd) pdgs_nil))))
      (pdss_cons (pds_set (i := 3) sc.nd (pd_gcd rfl G.gcd (pda_cons (pdv 1) (pda_cons (pdv 2) pda_nil))))
      (pdss_one (pds_ret (pd_tup (pda_cons (pd_div (pdv 1) (pdv 3)) (pda_cons (pd_div (pdv 2) (pdv 3)) pda_nil))))))))
theorem sc__is_count : FnScope ["text", "zero", "sign"] ["text", "zero"] (defScope s__is_count) := ⟨rfl, rfl, rfl, by decide +kernel, rfl, by decide +kernel, by decide +kernel⟩
theorem ok__is_count {P : Program} {w : World} {K : PySem.W.Frag} {mg : Str → Option Value} {base : Heap} {f : Addr} {fd : FuncData} (F : FunD K "_is_count" "_is_count" (defArgs s__is_count) (defBody s__is_count) (defScope s__is_count) [] [] f fd) (m : mg "_is_count" = some (.ref f)) (G : Glb mg) (C : Cst mg) : CalP P w K mg base "_is_count" 1 sp__is_count f := by
  have sc := sc__is_count
  refine ⟨fnL_mk (N := ["text", "zero", "sign"]) (ps := ["text", "zero"]) F (fun _ _ _ _ _ _ us hl => match us, hl with | [_, _], _ => rfl) sc__is_count len__is_count fun cdv A outer s H E ds L Q E' hr h => ⟨d__is_count, ?der, rd__is_count ds L Q E' h⟩, m, F.kp⟩
  case der =>
    exact (pdss_cons (pds_if (pdt_eq hr.units (pdv 0) pd_str)
      (pdss_one (pds_ret (pdv 1)))
      pdss_nil)
      (pdss_cons (pds_if (PDW.pt (pdw_or (pdt_eq hr.units (pdv 0) pd_str) (pdw_or (pdt_gt (pd_cb call_len sim_len rfl G.len (by decide +kernel) (pda_cons (pdv 0) pda_nil)) (pd_glI rfl (C.MOST_DIGITS).choose_spec ⟨_, rfl⟩)) (pdw_or1 (pdt_eq hr.units (pd_ix (pdv 0) pd_int) pd_str)))))
      (pdss_one (pds_ret pd_bl))
      pdss_nil)
      (pdss_one (pds_ret (pd_cb (cr_all rfl) sim_all rfl G.all (by decide +kernel) (pda_cons (pd_lcS (j := 2) rfl sc.nd (pdv 0) (show blkC ["text", "zero", "sign"] (defScope s__is_count) _ _ = true by decide +kernel) (fun _ _ _ _ _ => pdts_nil) (fun _ _ _ _ _ => (pd_inS (pdv 2) pd_str)) (hg := fun _ _ _ _ _ => pg_name (i := 2) sc.nd rfl (Or.inl rfl))) pda_nil))))))
theorem sc_fraction_or_none : FnScope ["text", "cut", "top", "bottom"] ["text"] (defScope s_fraction_or_none) := ⟨rfl, rfl, rfl, by decide +kernel, rfl, by decide +kernel, by decide +kernel⟩
theorem ok_fraction_or_none {P : Program} {w : World} {K : PySem.W.Frag} {mg : Str → Option Value} {base : Heap} {f : Addr} {fd : FuncData} {f__is_count f__reduced : Addr} (F : FunD K "fraction_or_none" "fraction_or_none" (defArgs s_fraction_or_none) (defBody s_fraction_or_none) (defScope s_fraction_or_none) [] [] f fd) (m : mg "fraction_or_none" = some (.ref f)) (G : Glb mg) (C : Cst mg) (c__is_count : CalP P w K mg base "_is_count" 1 sp__is_count f__is_count) (c__reduced : CalP P w K mg base "_reduced" 1 sp__reduced f__reduced) : CalP P w K mg base "fraction_or_none" 2 sp_fraction_or_none f := by
  have sc := sc_fraction_or_none
  refine ⟨fnL_mk (N := ["text", "cut", "top", "bottom"]) (ps := ["text"]) F (fun _ _ _ _ _ _ us hl => match us, hl with | [_], _ => rfl) sc_fraction_or_none len_fraction_or_none fun cdv A outer s H E ds L Q E' hr h => ⟨d_fraction_or_none, ?der, rd_fraction_or_none ds L Q E' h⟩, m, F.kp⟩
  case der =>
    exact (pdss_cons (pds_set (i := 1) sc.nd (pd_find (pdv 0) (pda_cons pd_str pda_nil)))
      (pdss_cons (pds_if (pdt_lt (pdv 1) pd_int)
      (pdss_one (pds_ret (pd_if (pdt_val (pd_call (c__is_count.F.mono (by decide)) hr c__is_count.kp c__is_count.m pass0 xrel0 (pda_cons (pdv 0) (pda_cons pd_bl pda_nil)))) (pd_tup (pda_cons (pd_cty call_intU sim_int rfl G.int (by decide +kernel) (pda_cons (pdv 0) pda_nil)) (pda_cons pd_int pda_nil))) pd_non)))
      pdss_nil)
      (pdss_cons (pds_set (i := 2) sc.nd (pd_slice (pdv 0) pdo_none (pdo_some (pdv 1))))
      (pdss_cons (pds_set (i := 3) sc.nd (pd_slice (pdv 0) (pdo_some (pd_add (pdv 1) pd_int)) pdo_none))
      (pdss_cons (pds_if (PDW.pt (pdw_or (pdt_not (pdt_val (pd_call (c__is_count.F.mono (by decide)) hr c__is_count.kp c__is_count.m pass0 xrel0 (pda_cons (pdv 2) (pda_cons pd_bl pda_nil))))) (pdw_or1 (pdt_not (pdt_val (pd_call (c__is_count.F.mono (by decide)) hr c__is_count.kp c__is_count.m pass0 xrel0 (pda_cons (pdv 3) (pda_cons pd_bl pda_nil))))))))
      (pdss_one (pds_ret pd_non))
      pdss_nil)
      (pdss_one (pds_ret (pd_call (c__reduced.F.mono (by decide)) hr c__reduced.kp c__reduced.m pass0 xrel0 (pda_cons (pd_tup (pda_cons (pd_cty call_intU sim_int rfl G.int (by decide +kernel) (pda_cons (pdv 2) pda_nil)) (pda_cons (pd_cty call_intU sim_int rfl G.int (by decide +kernel) (pda_cons (pdv 3) pda_nil)) pda_nil))) pda_nil)))))))))
theorem sc_read_fraction : FnScope ["text", "value"] ["text"] (defScope s_read_fraction) := ⟨rfl, rfl, rfl, by decide +kernel, rfl, by decide +kernel, by decide +kernel⟩
theorem ok_read_fraction {P : Program} {w : World} {K : PySem.W.Frag} {mg : Str → Option Value} {base : Heap} {f : Addr} {fd : FuncData} {f_fraction_or_none : Addr} (F : FunD K "read_fraction" "read_fraction" (defArgs s_read_fraction) (defBody s_read_fraction) (defScope s_read_fraction) [] [] f fd) (m : mg "read_fraction" = some (.ref f)) (G : Glb mg) (C : Cst mg) (N : Cls K mg) {iBadFraction iBadNumber : Addr} (XX : Rsn P K mg iBadFraction iBadNumber) (c_fraction_or_none : CalP P w K mg base "fraction_or_none" 2 sp_fraction_or_none f_fraction_or_none) : CalX P w K mg base "read_fraction" 3 sp_read_fraction f := by
  have sc := sc_read_fraction
  refine ⟨fnX_mk (N := ["text", "value"]) (ps := ["text"]) F (fun _ _ _ _ _ _ us hl => match us, hl with | [_], _ => rfl) sc_read_fraction len_read_fraction fun cdv A outer s H E ds L Q E' hr hX h => ⟨d_read_fraction E', ?der, rd_read_fraction ds L Q E' h⟩, m, F.kp⟩
  case der =>
    have hW := wok_def (P := P) (w := w) (K := K) (mg := mg) (base := base) (N := ["text", "value"]) (qual := "read_fraction") (scope := defScope s_read_fraction) (f := f) (A := A) (outer := outer) (cdv := cdv) (s := s) hX
    exact (pdss_cons (pds_if (pdt_not (pdt_val (pd_cb call_isi sim_isi rfl G.isinstance (by decide +kernel) (pda_cons (pdv 0) (pda_cons (pd_bltn rfl G.str boot_str) pda_nil)))))
      (pdss_one (pds_raise rfl hW XX.BadFraction XX.super hr (pda_cons (pdv 0) pda_nil) N.BadFraction rfl rfl))
      pdss_nil)
      (pdss_cons (pds_set (i := 1) sc.nd (pd_call (c_fraction_or_none.F.mono (by decide)) hr c_fraction_or_none.kp c_fraction_or_none.m pass0 xrel0 (pda_cons (pdv 0) pda_nil)))
      (pdss_cons (pds_if (pdt_isN (pdv 1) pd_non)
      (pdss_one (pds_raise rfl hW XX.BadFraction XX.super hr (pda_cons (pdv 0) pda_nil) N.BadFraction rfl rfl))
      pdss_nil)
      (pdss_one (pds_ret (pdv 1))))))
theorem sc_lowest : FnScope ["value"] ["value"] (defScope s_lowest) := ⟨rfl, rfl, rfl, by decide +kernel, rfl, by decide +kernel, by decide +kernel⟩
theorem ok_lowest {P : Program} {w : World} {K : PySem.W.Frag} {mg : Str → Option Value} {base : Heap} {f : Addr} {fd : FuncData} {f__check f__reduced : Addr} (F : FunD K "lowest" "lowest" (defArgs s_lowest) (defBody s_lowest) (defScope s_lowest) [] [] f fd) (m : mg "lowest" = some (.ref f)) (G : Glb mg) (C : Cst mg) (c__check : CalX P w K mg base "_check" 3 sp__check f__check) (c__reduced : CalP P w K mg base "_reduced" 1 sp__reduced f__reduced) : CalX P w K mg base "lowest" 4 sp_lowest f := by
  have sc := sc_lowest
  refine ⟨fnX_mk (N := ["value"]) (ps := ["value"]) F (fun _ _ _ _ _ _ us hl => match us, hl with | [_], _ => rfl) sc_lowest len_lowest fun cdv A outer s H E ds L Q E' hr hX h => ⟨d_lowest E', ?der, rd_lowest ds L Q E' h⟩, m, F.kp⟩
  case der =>
    have hW := wok_def (P := P) (w := w) (K := K) (mg := mg) (base := base) (N := ["value"]) (qual := "lowest") (scope := defScope s_lowest) (f := f) (A := A) (outer := outer) (cdv := cdv) (s := s) hX
    exact (pdss_cons (pds_expr (pd_callX (c__check.F.mono (by decide)) hr c__check.kp c__check.m hW (pda_cons (pd_tup (pda_cons (pdv 0) pda_nil)) pda_nil)))
      (pdss_one (pds_ret (pd_call (c__reduced.F.mono (by decide)) hr c__reduced.kp c__reduced.m pass0 xrel0 (pda_cons (pdv 0) pda_nil)))))
theorem sc_fraction_text : FnScope ["value", "top", "bottom", "bits"] ["value"] (defScope s_fraction_text) := ⟨rfl, rfl, rfl, by decide +kernel, rfl, by decide +kernel, by decide +kernel⟩
theorem ok_fraction_text {P : Program} {w : World} {K : PySem.W.Frag} {mg : Str → Option Value} {base : Heap} {f : Addr} {fd : FuncData} {f__check f__reduced : Addr} (F : FunD K "fraction_text" "fraction_text" (defArgs s_fraction_text) (defBody s_fraction_text) (defScope s_fraction_text) [] [] f fd) (m : mg "fraction_text" = some (.ref f)) (G : Glb mg) (C : Cst mg) (c__check : CalX P w K mg base "_check" 3 sp__check f__check) (c__reduced : CalP P w K mg base "_reduced" 1 sp__reduced f__reduced) : CalX P w K mg base "fraction_text" 4 sp_fraction_text f := by
  have sc := sc_fraction_text
  refine ⟨fnX_mk (N := ["value", "top", "bottom", "bits"]) (ps := ["value"]) F (fun _ _ _ _ _ _ us hl => match us, hl with | [_], _ => rfl) sc_fraction_text len_fraction_text fun cdv A outer s H E ds L Q E' hr hX h => ⟨d_fraction_text E', ?der, rd_fraction_text ds L Q E' h⟩, m, F.kp⟩
  case der =>
    have hW := wok_def (P := P) (w := w) (K := K) (mg := mg) (base := base) (N := ["value", "top", "bottom", "bits"]) (qual := "fraction_text") (scope := defScope s_fraction_text) (f := f) (A := A) (outer := outer) (cdv := cdv) (s := s) hX
    exact (pdss_cons (pds_expr (pd_callX (c__check.F.mono (by decide)) hr c__check.kp c__check.m hW (pda_cons (pd_tup (pda_cons (pdv 0) pda_nil)) pda_nil)))
      (pdss_cons (pds_asg (pd_call (c__reduced.F.mono (by decide)) hr c__reduced.kp c__reduced.m pass0 xrel0 (pda_cons (pdv 0) pda_nil)) (pdg_tup rfl (pdgs_cons (pdg_name (i := 1) sc.nd) (pdgs_cons (pdg_name (i := 2) sc.nd) pdgs_nil))))
      (pdss_cons (pds_set (i := 3) sc.nd (pd_cb (call_max2 rfl) sim_I2C rfl G.max (by decide +kernel) (pda_cons (pd_bits (pdv 1)) (pda_cons (pd_bits (pdv 2)) pda_nil))))
      (pdss_cons pds_never
      (pdss_one (pds_ret (pd_if (pdt_eq hr.units (pdv 2) pd_int) (pd_cty call_str_int sim_str rfl G.str (by decide +kernel) (pda_cons (pdv 1) pda_nil)) (pd_joined (pdj_cons (pd_fmt (pdv 1)) (pdj_cons pd_str (pdj_cons (pd_fmt (pdv 2)) pdj_nil)))))))))))
theorem sc_plus : FnScope ["fractions", "top", "bottom", "value", "over", "under", "common"] ["fractions"] (defScope s_plus) := ⟨rfl, rfl, rfl, by decide +kernel, rfl, by decide +kernel, by decide +kernel⟩
theorem ok_plus {P : Program} {w : World} {K : PySem.W.Frag} {mg : Str → Option Value} {base : Heap} {f : Addr} {fd : FuncData} {f__check f__reduced : Addr} (F : FunD K "plus" "plus" (defArgs s_plus) (defBody s_plus) (defScope s_plus) [] [] f fd) (m : mg "plus" = some (.ref f)) (G : Glb mg) (C : Cst mg) (c__check : CalX P w K mg base "_check" 3 sp__check f__check) (c__reduced : CalP P w K mg base "_reduced" 1 sp__reduced f__reduced) : CalX P w K mg base "plus" 4 sp_plus f := by
  have sc := sc_plus
  refine ⟨fnX_star (N := ["fractions", "top", "bottom", "value", "over", "under", "common"]) (pv := "fractions") F sc_plus (fun _ _ _ _ _ _ rest => match rest with | [] => rfl | _ :: _ => rfl) fun cdv A outer s H E ds L Q E' hr hX h => ⟨d_plus E', ?der, rd_plus ds L Q E' h⟩, m, F.kp⟩
  case der =>
    have hW := wok_def (P := P) (w := w) (K := K) (mg := mg) (base := base) (N := ["fractions", "top", "bottom", "value", "over", "under", "common"]) (qual := "plus") (scope := defScope s_plus) (f := f) (A := A) (outer := outer) (cdv := cdv) (s := s) hX
    exact (pdss_cons (pds_expr (pd_callX (c__check.F.mono (by decide)) hr c__check.kp c__check.m hW (pda_cons (pdv 0) pda_nil)))
      (pdss_cons (pds_set (i := 1) sc.nd pd_int)
      (pdss_cons (pds_set (i := 2) sc.nd pd_int)
      (pdss_cons (pds_forT (L2.passes_of rfl) rfl (pdv 0) (pdg_name (i := 3) sc.nd) (pdss_cons (pds_asg (pd_call (c__reduced.F.mono (by decide)) hr c__reduced.kp c__reduced.m pass0 xrel0 (pda_cons (pdv 3) pda_nil)) (pdg_tup rfl (pdgs_cons (pdg_name (i := 4) sc.nd) (pdgs_cons (pdg_name (i := 5) sc.nd) pdgs_nil))))
      (pdss_cons (pds_set (i := 6) sc.nd (pd_gcd rfl G.gcd (pda_cons (pdv 2) (pda_cons (pdv 5) pda_nil))))
      (pdss_cons (pds_set (i := 1) sc.nd (pd_add (pd_mul (pdv 1) (pd_div (pdv 5) (pdv 6))) (pd_mul (pdv 4) (pd_div (pdv 2) (pdv 6)))))
      (pdss_one (pds_set (i := 2) sc.nd (pd_mul (pd_div (pdv 2) (pdv 6)) (pdv 5))))))))
      (pdss_one (pds_ret (pd_call (c__reduced.F.mono (by decide)) hr c__reduced.kp c__reduced.m pass0 xrel0 (pda_cons (pd_tup (pda_cons (pdv 1) (pda_cons (pdv 2) pda_nil))) pda_nil))))))))
theorem sc_times : FnScope ["fractions", "product", "value", "over", "under"] ["fractions"] (defScope s_times) := ⟨rfl, rfl, rfl, by decide +kernel, rfl, by decide +kernel, by decide +kernel⟩
theorem ok_times {P : Program} {w : World} {K : PySem.W.Frag} {mg : Str → Option Value} {base : Heap} {f : Addr} {fd : FuncData} {f__check f__reduced : Addr} (F : FunD K "times" "times" (defArgs s_times) (defBody s_times) (defScope s_times) [] [] f fd) (m : mg "times" = some (.ref f)) (G : Glb mg) (C : Cst mg) (c__check : CalX P w K mg base "_check" 3 sp__check f__check) (c__reduced : CalP P w K mg base "_reduced" 1 sp__reduced f__reduced) : CalX P w K mg base "times" 4 sp_times f := by
  have sc := sc_times
  refine ⟨fnX_star (N := ["fractions", "product", "value", "over", "under"]) (pv := "fractions") F sc_times (fun _ _ _ _ _ _ rest => match rest with | [] => rfl | _ :: _ => rfl) fun cdv A outer s H E ds L Q E' hr hX h => ⟨d_times E', ?der, rd_times ds L Q E' h⟩, m, F.kp⟩
  case der =>
    have hW := wok_def (P := P) (w := w) (K := K) (mg := mg) (base := base) (N := ["fractions", "product", "value", "over", "under"]) (qual := "times") (scope := defScope s_times) (f := f) (A := A) (outer := outer) (cdv := cdv) (s := s) hX
    exact (pdss_cons (pds_expr (pd_callX (c__check.F.mono (by decide)) hr c__check.kp c__check.m hW (pda_cons (pdv 0) pda_nil)))
      (pdss_cons (pds_set (i := 1) sc.nd (pd_tup (pda_cons pd_int (pda_cons pd_int pda_nil))))
      (pdss_cons (pds_forT (L2.passes_of rfl) rfl (pdv 0) (pdg_name (i := 2) sc.nd) (pdss_cons (pds_asg (pd_call (c__reduced.F.mono (by decide)) hr c__reduced.kp c__reduced.m pass0 xrel0 (pda_cons (pdv 2) pda_nil)) (pdg_tup rfl (pdgs_cons (pdg_name (i := 3) sc.nd) (pdgs_cons (pdg_name (i := 4) sc.nd) pdgs_nil))))
      (pdss_one (pds_set (i := 1) sc.nd (pd_call (c__reduced.F.mono (by decide)) hr c__reduced.kp c__reduced.m pass0 xrel0 (pda_cons (pd_tup (pda_cons (pd_mul (pd_ix (pdv 1) pd_int) (pdv 3)) (pda_cons (pd_mul (pd_ix (pdv 1) pd_int) (pdv 4)) pda_nil))) pda_nil))))))
      (pdss_one (pds_ret (pdv 1))))))
theorem sc_quotient : FnScope ["one", "other", "top", "bottom", "over", "under"] ["one", "other"] (defScope s_quotient) := ⟨rfl, rfl, rfl, by decide +kernel, rfl, by decide +kernel, by decide +kernel⟩
theorem ok_quotient {P : Program} {w : World} {K : PySem.W.Frag} {mg : Str → Option Value} {base : Heap} {f : Addr} {fd : FuncData} {f__check f__reduced : Addr} (F : FunD K "quotient" "quotient" (defArgs s_quotient) (defBody s_quotient) (defScope s_quotient) [] [] f fd) (m : mg "quotient" = some (.ref f)) (G : Glb mg) (C : Cst mg) (N : Cls K mg) {iBadFraction iBadNumber : Addr} (XX : Rsn P K mg iBadFraction iBadNumber) (c__check : CalX P w K mg base "_check" 3 sp__check f__check) (c__reduced : CalP P w K mg base "_reduced" 1 sp__reduced f__reduced) : CalX P w K mg base "quotient" 4 sp_quotient f := by
  have sc := sc_quotient
  refine ⟨fnX_mk (N := ["one", "other", "top", "bottom", "over", "under"]) (ps := ["one", "other"]) F (fun _ _ _ _ _ _ us hl => match us, hl with | [_, _], _ => rfl) sc_quotient len_quotient fun cdv A outer s H E ds L Q E' hr hX h => ⟨d_quotient E', ?der, rd_quotient ds L Q E' h⟩, m, F.kp⟩
  case der =>
    have hW := wok_def (P := P) (w := w) (K := K) (mg := mg) (base := base) (N := ["one", "other", "top", "bottom", "over", "under"]) (qual := "quotient") (scope := defScope s_quotient) (f := f) (A := A) (outer := outer) (cdv := cdv) (s := s) hX
    exact (pdss_cons (pds_expr (pd_callX (c__check.F.mono (by decide)) hr c__check.kp c__check.m hW (pda_cons (pd_tup (pda_cons (pdv 0) (pda_cons (pdv 1) pda_nil))) pda_nil)))
      (pdss_cons (pds_asg (pd_call (c__reduced.F.mono (by decide)) hr c__reduced.kp c__reduced.m pass0 xrel0 (pda_cons (pdv 0) pda_nil)) (pdg_tup rfl (pdgs_cons (pdg_name (i := 2) sc.nd) (pdgs_cons (pdg_name (i := 3) sc.nd) pdgs_nil))))
      (pdss_cons (pds_asg (pd_call (c__reduced.F.mono (by decide)) hr c__reduced.kp c__reduced.m pass0 xrel0 (pda_cons (pdv 1) pda_nil)) (pdg_tup rfl (pdgs_cons (pdg_name (i := 4) sc.nd) (pdgs_cons (pdg_name (i := 5) sc.nd) pdgs_nil))))
      (pdss_cons (pds_if (pdt_eq hr.units (pdv 4) pd_int)
      (pdss_one (pds_raise rfl hW XX.BadFraction XX.super hr (pda_cons (pdv 1) pda_nil) N.BadFraction rfl rfl))
      pdss_nil)
      (pdss_one (pds_ret (pd_call (c__reduced.F.mono (by decide)) hr c__reduced.kp c__reduced.m pass0 xrel0 (pda_cons (pd_tup (pda_cons (pd_mul (pdv 2) (pdv 5)) (pda_cons (pd_mul (pdv 3) (pdv 4)) pda_nil))) pda_nil))))))))
theorem sc_apart : FnScope ["one", "other", "top", "bottom", "over", "under"] ["one", "other"] (defScope s_apart) := ⟨rfl, rfl, rfl, by decide +kernel, rfl, by decide +kernel, by decide +kernel⟩
theorem ok_apart {P : Program} {w : World} {K : PySem.W.Frag} {mg : Str → Option Value} {base : Heap} {f : Addr} {fd : FuncData} {f__check f__reduced : Addr} (F : FunD K "apart" "apart" (defArgs s_apart) (defBody s_apart) (defScope s_apart) [] [] f fd) (m : mg "apart" = some (.ref f)) (G : Glb mg) (C : Cst mg) (c__check : CalX P w K mg base "_check" 3 sp__check f__check) (c__reduced : CalP P w K mg base "_reduced" 1 sp__reduced f__reduced) : CalX P w K mg base "apart" 4 sp_apart f := by
  have sc := sc_apart
  refine ⟨fnX_mk (N := ["one", "other", "top", "bottom", "over", "under"]) (ps := ["one", "other"]) F (fun _ _ _ _ _ _ us hl => match us, hl with | [_, _], _ => rfl) sc_apart len_apart fun cdv A outer s H E ds L Q E' hr hX h => ⟨d_apart E', ?der, rd_apart ds L Q E' h⟩, m, F.kp⟩
  case der =>
    have hW := wok_def (P := P) (w := w) (K := K) (mg := mg) (base := base) (N := ["one", "other", "top", "bottom", "over", "under"]) (qual := "apart") (scope := defScope s_apart) (f := f) (A := A) (outer := outer) (cdv := cdv) (s := s) hX
    exact (pdss_cons (pds_expr (pd_callX (c__check.F.mono (by decide)) hr c__check.kp c__check.m hW (pda_cons (pd_tup (pda_cons (pdv 0) (pda_cons (pdv 1) pda_nil))) pda_nil)))
      (pdss_cons (pds_asg (pd_call (c__reduced.F.mono (by decide)) hr c__reduced.kp c__reduced.m pass0 xrel0 (pda_cons (pdv 0) pda_nil)) (pdg_tup rfl (pdgs_cons (pdg_name (i := 2) sc.nd) (pdgs_cons (pdg_name (i := 3) sc.nd) pdgs_nil))))
      (pdss_cons (pds_asg (pd_call (c__reduced.F.mono (by decide)) hr c__reduced.kp c__reduced.m pass0 xrel0 (pda_cons (pdv 1) pda_nil)) (pdg_tup rfl (pdgs_cons (pdg_name (i := 4) sc.nd) (pdgs_cons (pdg_name (i := 5) sc.nd) pdgs_nil))))
      (pdss_one (pds_ret (pd_call (c__reduced.F.mono (by decide)) hr c__reduced.kp c__reduced.m pass0 xrel0 (pda_cons (pd_tup (pda_cons (pd_cb call_abs sim_abs rfl G.abs (by decide +kernel) (pda_cons (pd_sub (pd_mul (pdv 2) (pdv 5)) (pd_mul (pdv 4) (pdv 3))) pda_nil)) (pda_cons (pd_mul (pdv 3) (pdv 5)) pda_nil))) pda_nil)))))))
theorem sc__power : FnScope ["base", "n", "result", "square", "left"] ["base", "n"] (defScope s__power) := ⟨rfl, rfl, rfl, by decide +kernel, rfl, by decide +kernel, by decide +kernel⟩
theorem ok__power {P : Program} {w : World} {K : PySem.W.Frag} {mg : Str → Option Value} {base : Heap} {f : Addr} {fd : FuncData} (F : FunD K "_power" "_power" (defArgs s__power) (defBody s__power) (defScope s__power) [] [] f fd) (m : mg "_power" = some (.ref f)) (G : Glb mg) (C : Cst mg) : CalP P w K mg base "_power" 1 sp__power f := by
  have sc := sc__power
  refine ⟨fnL_mk (N := ["base", "n", "result", "square", "left"]) (ps := ["base", "n"]) F (fun _ _ _ _ _ _ us hl => match us, hl with | [_, _], _ => rfl) sc__power len__power fun cdv A outer s H E ds L Q E' hr h => ⟨d__power, ?der, rd__power ds L Q E' h⟩, m, F.kp⟩
  case der =>
    exact (pdss_cons (pds_if (pdt_lt (pdv 0) pd_int)
      (pdss_one (pds_ret (pd_if (pdt_gt (pdv 1) pd_int) (pdv 0) pd_int)))
      pdss_nil)
      (pdss_cons (pds_set (i := 2) sc.nd pd_int)
      (pdss_cons (pds_set (i := 3) sc.nd (pdv 0))
      (pdss_cons (pds_set (i := 4) sc.nd (pdv 1))
      (pdss_cons (pds_while PassesOwn.never (pdt_gt (pdv 4) pd_int) (pdss_cons (pds_if (pdt_eq hr.units (pd_andb (pdv 4) pd_int) pd_int)
      (pdss_one (pds_set (i := 2) sc.nd (pd_mul (pdv 2) (pdv 3))))
      pdss_nil)
      (pdss_cons (pds_set (i := 4) sc.nd (pd_shr (pdv 4) pd_int))
      (pdss_one (pds_if (pdt_gt (pdv 4) pd_int)
      (pdss_one (pds_set (i := 3) sc.nd (pd_mul (pdv 3) (pdv 3))))
      pdss_nil)))))
      (pdss_one (pds_ret (pdv 2))))))))
theorem sc_raised : FnScope ["one", "n", "top", "bottom"] ["one", "n"] (defScope s_raised) := ⟨rfl, rfl, rfl, by decide +kernel, rfl, by decide +kernel, by decide +kernel⟩
theorem ok_raised {P : Program} {w : World} {K : PySem.W.Frag} {mg : Str → Option Value} {base : Heap} {f : Addr} {fd : FuncData} {f__check f_is_number f__reduced f__power : Addr} (F : FunD K "raised" "raised" (defArgs s_raised) (defBody s_raised) (defScope s_raised) [] [] f fd) (m : mg "raised" = some (.ref f)) (G : Glb mg) (C : Cst mg) (N : Cls K mg) {iBadFraction iBadNumber : Addr} (XX : Rsn P K mg iBadFraction iBadNumber) (c__check : CalX P w K mg base "_check" 3 sp__check f__check) (c_is_number : CalP P w K mg base "is_number" 1 sp_is_number f_is_number) (c__reduced : CalP P w K mg base "_reduced" 1 sp__reduced f__reduced) (c__power : CalP P w K mg base "_power" 1 sp__power f__power) : CalX P w K mg base "raised" 4 sp_raised f := by
  have sc := sc_raised
  refine ⟨fnX_mk (N := ["one", "n", "top", "bottom"]) (ps := ["one", "n"]) F (fun _ _ _ _ _ _ us hl => match us, hl with | [_, _], _ => rfl) sc_raised len_raised fun cdv A outer s H E ds L Q E' hr hX h => ⟨d_raised E', ?der, rd_raised ds L Q E' h⟩, m, F.kp⟩
  case der =>
    have hW := wok_def (P := P) (w := w) (K := K) (mg := mg) (base := base) (N := ["one", "n", "top", "bottom"]) (qual := "raised") (scope := defScope s_raised) (f := f) (A := A) (outer := outer) (cdv := cdv) (s := s) hX
    exact (pdss_cons (pds_expr (pd_callX (c__check.F.mono (by decide)) hr c__check.kp c__check.m hW (pda_cons (pd_tup (pda_cons (pdv 0) pda_nil)) pda_nil)))
      (pdss_cons (pds_if (PDW.pt (pdw_or (pdt_not (pdt_val (pd_call (c_is_number.F.mono (by decide)) hr c_is_number.kp c_is_number.m pass0 xrel0 (pda_cons (pdv 1) pda_nil)))) (pdw_or1 (pdt_lt (pdv 1) pd_int))))
      (pdss_one (pds_raise rfl hW XX.BadNumber XX.super hr (pda_cons (pdv 1) pda_nil) N.BadNumber rfl rfl))
      pdss_nil)
      (pdss_cons (pds_asg (pd_call (c__reduced.F.mono (by decide)) hr c__reduced.kp c__reduced.m pass0 xrel0 (pda_cons (pdv 0) pda_nil)) (pdg_tup rfl (pdgs_cons (pdg_name (i := 2) sc.nd) (pdgs_cons (pdg_name (i := 3) sc.nd) pdgs_nil))))
      (pdss_one (pds_ret (pd_tup (pda_cons (pd_call (c__power.F.mono (by decide)) hr c__power.kp c__power.m pass0 xrel0 (pda_cons (pdv 2) (pda_cons (pdv 1) pda_nil))) (pda_cons (pd_call (c__power.F.mono (by decide)) hr c__power.kp c__power.m pass0 xrel0 (pda_cons (pdv 3) (pda_cons (pdv 1) pda_nil))) pda_nil))))))))
theorem sc_is_less : FnScope ["one", "other", "top", "bottom", "over", "under"] ["one", "other"] (defScope s_is_less) := ⟨rfl, rfl, rfl, by decide +kernel, rfl, by decide +kernel, by decide +kernel⟩
theorem ok_is_less {P : Program} {w : World} {K : PySem.W.Frag} {mg : Str → Option Value} {base : Heap} {f : Addr} {fd : FuncData} {f__check f__reduced : Addr} (F : FunD K "is_less" "is_less" (defArgs s_is_less) (defBody s_is_less) (defScope s_is_less) [] [] f fd) (m : mg "is_less" = some (.ref f)) (G : Glb mg) (C : Cst mg) (c__check : CalX P w K mg base "_check" 3 sp__check f__check) (c__reduced : CalP P w K mg base "_reduced" 1 sp__reduced f__reduced) : CalX P w K mg base "is_less" 4 sp_is_less f := by
  have sc := sc_is_less
  refine ⟨fnX_mk (N := ["one", "other", "top", "bottom", "over", "under"]) (ps := ["one", "other"]) F (fun _ _ _ _ _ _ us hl => match us, hl with | [_, _], _ => rfl) sc_is_less len_is_less fun cdv A outer s H E ds L Q E' hr hX h => ⟨d_is_less E', ?der, rd_is_less ds L Q E' h⟩, m, F.kp⟩
  case der =>
    have hW := wok_def (P := P) (w := w) (K := K) (mg := mg) (base := base) (N := ["one", "other", "top", "bottom", "over", "under"]) (qual := "is_less") (scope := defScope s_is_less) (f := f) (A := A) (outer := outer) (cdv := cdv) (s := s) hX
    exact (pdss_cons (pds_expr (pd_callX (c__check.F.mono (by decide)) hr c__check.kp c__check.m hW (pda_cons (pd_tup (pda_cons (pdv 0) (pda_cons (pdv 1) pda_nil))) pda_nil)))
      (pdss_cons (pds_asg (pd_call (c__reduced.F.mono (by decide)) hr c__reduced.kp c__reduced.m pass0 xrel0 (pda_cons (pdv 0) pda_nil)) (pdg_tup rfl (pdgs_cons (pdg_name (i := 2) sc.nd) (pdgs_cons (pdg_name (i := 3) sc.nd) pdgs_nil))))
      (pdss_cons (pds_asg (pd_call (c__reduced.F.mono (by decide)) hr c__reduced.kp c__reduced.m pass0 xrel0 (pda_cons (pdv 1) pda_nil)) (pdg_tup rfl (pdgs_cons (pdg_name (i := 4) sc.nd) (pdgs_cons (pdg_name (i := 5) sc.nd) pdgs_nil))))
      (pdss_one (pds_ret (pd_lt (pd_mul (pdv 2) (pdv 5)) (pd_mul (pdv 4) (pdv 3))))))))
theorem sc_least_common : FnScope ["numbers", "least", "number"] ["numbers"] (defScope s_least_common) := ⟨rfl, rfl, rfl, by decide +kernel, rfl, by decide +kernel, by decide +kernel⟩
theorem ok_least_common {P : Program} {w : World} {K : PySem.W.Frag} {mg : Str → Option Value} {base : Heap} {f : Addr} {fd : FuncData} (F : FunD K "least_common" "least_common" (defArgs s_least_common) (defBody s_least_common) (defScope s_least_common) [] [] f fd) (m : mg "least_common" = some (.ref f)) (G : Glb mg) (C : Cst mg) : CalP P w K mg base "least_common" 1 sp_least_common f := by
  have sc := sc_least_common
  refine ⟨fnL_mk (N := ["numbers", "least", "number"]) (ps := ["numbers"]) F (fun _ _ _ _ _ _ us hl => match us, hl with | [_], _ => rfl) sc_least_common len_least_common fun cdv A outer s H E ds L Q E' hr h => ⟨d_least_common, ?der, rd_least_common ds L Q E' h⟩, m, F.kp⟩
  case der =>
    exact (pdss_cons (pds_set (i := 1) sc.nd pd_int)
      (pdss_cons (pds_or (pds_forL PassesOwn.never rfl (pdv 0) (pdg_name (i := 2) sc.nd) (pdss_one (pds_set (i := 1) sc.nd (pd_lcm rfl G.lcm (pda_cons (pdv 1) (pda_cons (pdv 2) pda_nil)))))) (pds_forT PassesOwn.never rfl (pdv 0) (pdg_name (i := 2) sc.nd) (pdss_one (pds_set (i := 1) sc.nd (pd_lcm rfl G.lcm (pda_cons (pdv 1) (pda_cons (pdv 2) pda_nil)))))))
      (pdss_one (pds_ret (pdv 1)))))
theorem sc__law_bag : FnScope ["script", "mixed", "at"] ["script"] (defScope s__law_bag) := ⟨rfl, rfl, rfl, by decide +kernel, rfl, by decide +kernel, by decide +kernel⟩
theorem ok__law_bag {P : Program} {w : World} {K : PySem.W.Frag} {mg : Str → Option Value} {base : Heap} {f : Addr} {fd : FuncData} (F : FunD K "_law_bag" "_law_bag" (defArgs s__law_bag) (defBody s__law_bag) (defScope s__law_bag) [] [] f fd) (m : mg "_law_bag" = some (.ref f)) (G : Glb mg) (C : Cst mg) : CalP P w K mg base "_law_bag" 1 sp__law_bag f := by
  have sc := sc__law_bag
  refine ⟨fnL_mk (N := ["script", "mixed", "at"]) (ps := ["script"]) F (fun _ _ _ _ _ _ us hl => match us, hl with | [_], _ => rfl) sc__law_bag len__law_bag fun cdv A outer s H E ds L Q E' hr h => ⟨d__law_bag, ?der, rd__law_bag ds L Q E' h⟩, m, F.kp⟩
  case der =>
    exact (pdss_cons (pds_set (i := 1) sc.nd pd_int)
      (pdss_cons (pds_forR PassesOwn.never rfl G.range (pda_cons (pd_cb (call_min2 rfl) sim_I2C rfl G.min (by decide +kernel) (pda_cons pd_int (pda_cons (pd_cb call_len sim_len rfl G.len (by decide +kernel) (pda_cons (pdv 0) pda_nil)) pda_nil))) pda_nil) (pdg_name (i := 2) sc.nd) (pdss_one (pds_set (i := 1) sc.nd (pd_mod (pd_cty call_intU sim_int rfl G.int (by decide +kernel) (pda_cons (pd_add (pd_add (pd_add (pd_mul (pdv 1) pd_int) (pd_mod (pd_cty call_intU sim_int rfl G.int (by decide +kernel) (pda_cons (pd_ix (pdv 0) (pdv 2)) pda_nil)) pd_int)) (pd_mul pd_int (pdv 2))) pd_int) pda_nil)) pd_int))))
      (pdss_one (pds_ret (pd_lst (pda_cons (pd_lcR (j := 2) rfl sc.nd G.range (pda_cons (pd_cb (call_min2 rfl) sim_I2C rfl G.min (by decide +kernel) (pda_cons pd_int (pda_cons (pd_cb call_len sim_len rfl G.len (by decide +kernel) (pda_cons (pdv 0) pda_nil)) pda_nil))) pda_nil) (show blkC ["script", "mixed", "at"] (defScope s__law_bag) _ _ = true by decide +kernel) (fun _ _ _ _ _ => pdts_nil) (fun _ _ _ _ _ => (pd_cty call_intU sim_int rfl G.int (by decide +kernel) (pda_cons (pd_ix (pdv 0) (pdv 2)) pda_nil))) (hg := fun _ _ _ _ _ => pg_name (i := 2) sc.nd rfl (Or.inl rfl))) (pda_cons pd_int (pda_cons pd_int (pda_cons pd_int (pda_cons (pdv 1) (pda_cons pd_int pda_nil)))))))))))
theorem sc__law_draw : FnScope ["bag", "many", "cell", "digit"] ["bag", "many"] (defScope s__law_draw) := ⟨rfl, rfl, rfl, by decide +kernel, rfl, by decide +kernel, by decide +kernel⟩
theorem ok__law_draw {P : Program} {w : World} {K : PySem.W.Frag} {mg : Str → Option Value} {base : Heap} {f : Addr} {fd : FuncData} (F : FunD K "_law_draw" "_law_draw" (defArgs s__law_draw) (defBody s__law_draw) (defScope s__law_draw) [] [] f fd) (m : mg "_law_draw" = some (.ref f)) (G : Glb mg) (C : Cst mg) : CalP P w K mg base "_law_draw" 1 sp__law_draw f := by
  have sc := sc__law_draw
  refine ⟨fnL_mk (N := ["bag", "many", "cell", "digit"]) (ps := ["bag", "many"]) F (fun _ _ _ _ _ _ us hl => match us, hl with | [_, _], _ => rfl) sc__law_draw len__law_draw fun cdv A outer s H E ds L Q E' hr h => ⟨d__law_draw, ?der, rd__law_draw ds L Q E' h⟩, m, F.kp⟩
  case der =>
    exact (pdss_cons (pds_asg (pd_add (pd_ix (pdv 0) pd_int) pd_int) (pdg_sub (pdv 0) pd_int))
      (pdss_cons (pds_if (PDW.pt (pdw_and (pdt_eq hr.units (pd_ix (pdv 0) pd_int) pd_int) (pdw_and1 (pdt_lt (pd_ix (pdv 0) pd_int) (pd_cb call_len sim_len rfl G.len (by decide +kernel) (pda_cons (pd_ix (pdv 0) pd_int) pda_nil))))))
      (pdss_cons (pds_set (i := 2) sc.nd (pd_ix (pd_ix (pdv 0) pd_int) (pd_ix (pdv 0) pd_int)))
      (pdss_cons (pds_asg (pd_add (pd_ix (pdv 0) pd_int) pd_int) (pdg_sub (pdv 0) pd_int))
      (pdss_one (pds_if (pdt_ge (pdv 2) (pd_pow pd_int pd_int))
      (pdss_cons (pds_asg (pdv 2) (pdg_sub (pdv 0) pd_int))
      (pdss_one (pds_asg pd_int (pdg_sub (pdv 0) pd_int))))
      (pdss_one (pds_asg (pd_mod (pd_cty call_intU sim_int rfl G.int (by decide +kernel) (pda_cons (pd_add (pd_add (pd_mul (pd_ix (pdv 0) pd_int) pd_int) (pd_mod (pd_cty call_intU sim_int rfl G.int (by decide +kernel) (pda_cons (pdv 2) pda_nil)) pd_int)) pd_int) pda_nil)) pd_int) (pdg_sub (pdv 0) pd_int)))))))
      pdss_nil)
      (pdss_cons (pds_if (pdt_gt (pd_ix (pdv 0) pd_int) pd_int)
      (pdss_cons (pds_set (i := 3) sc.nd (pd_mod (pd_cty call_intU sim_int rfl G.int (by decide +kernel) (pda_cons (pd_ix (pdv 0) pd_int) pda_nil)) (pdv 1)))
      (pdss_cons (pds_asg (pd_sub (pd_ix (pdv 0) pd_int) pd_int) (pdg_sub (pdv 0) pd_int))
      (pdss_cons (pds_asg (pd_if (pdt_gt (pd_ix (pdv 0) pd_int) pd_int) (pd_div (pd_ix (pdv 0) pd_int) (pdv 1)) pd_int) (pdg_sub (pdv 0) pd_int))
      (pdss_one (pds_ret (pdv 3))))))
      pdss_nil)
      (pdss_cons (pds_asg (pd_mod (pd_cty call_intU sim_int rfl G.int (by decide +kernel) (pda_cons (pd_add (pd_add (pd_pow (pd_ix (pdv 0) pd_int) pd_int) (pd_mul (pd_ix (pdv 0) pd_int) pd_int)) pd_int) pda_nil)) pd_int) (pdg_sub (pdv 0) pd_int))
      (pdss_one (pds_ret (pd_mod (pd_cty call_intU sim_int rfl G.int (by decide +kernel) (pda_cons (pd_add (pd_div (pd_ix (pdv 0) pd_int) pd_int) (pd_mul (pd_mod (pd_cty call_intU sim_int rfl G.int (by decide +kernel) (pda_cons (pd_ix (pdv 0) pd_int) pda_nil)) pd_int) pd_int)) pda_nil)) (pdv 1))))))))
theorem sc__law_of : FnScope ["bag", "things"] ["bag", "things"] (defScope s__law_of) := ⟨rfl, rfl, rfl, by decide +kernel, rfl, by decide +kernel, by decide +kernel⟩
theorem ok__law_of {P : Program} {w : World} {K : PySem.W.Frag} {mg : Str → Option Value} {base : Heap} {f : Addr} {fd : FuncData} {f__law_draw : Addr} (F : FunD K "_law_of" "_law_of" (defArgs s__law_of) (defBody s__law_of) (defScope s__law_of) [] [] f fd) (m : mg "_law_of" = some (.ref f)) (G : Glb mg) (C : Cst mg) (c__law_draw : CalP P w K mg base "_law_draw" 1 sp__law_draw f__law_draw) : CalP P w K mg base "_law_of" 2 sp__law_of f := by
  have sc := sc__law_of
  refine ⟨fnL_mk (N := ["bag", "things"]) (ps := ["bag", "things"]) F (fun _ _ _ _ _ _ us hl => match us, hl with | [_, _], _ => rfl) sc__law_of len__law_of fun cdv A outer s H E ds L Q E' hr h => ⟨d__law_of, ?der, rd__law_of ds L Q E' h⟩, m, F.kp⟩
  case der =>
    exact (pdss_one (pds_ret (pd_ix (pdv 1) (pd_call (c__law_draw.F.mono (by decide)) hr c__law_draw.kp c__law_draw.m pass0 xrel0 (pda_cons (pdv 0) (pda_cons (pd_cb call_len sim_len rfl G.len (by decide +kernel) (pda_cons (pdv 1) pda_nil)) pda_nil))))))
theorem sc__law_mixed : FnScope ["bag", "things", "left", "found", "turn"] ["bag", "things"] (defScope s__law_mixed) := ⟨rfl, rfl, rfl, by decide +kernel, rfl, by decide +kernel, by decide +kernel⟩
theorem ok__law_mixed {P : Program} {w : World} {K : PySem.W.Frag} {mg : Str → Option Value} {base : Heap} {f : Addr} {fd : FuncData} {f__law_draw : Addr} (F : FunD K "_law_mixed" "_law_mixed" (defArgs s__law_mixed) (defBody s__law_mixed) (defScope s__law_mixed) [] [] f fd) (m : mg "_law_mixed" = some (.ref f)) (G : Glb mg) (C : Cst mg) (c__law_draw : CalP P w K mg base "_law_draw" 1 sp__law_draw f__law_draw) : CalP P w K mg base "_law_mixed" 2 sp__law_mixed f := by
  have sc := sc__law_mixed
  refine ⟨fnL_mk (N := ["bag", "things", "left", "found", "turn"]) (ps := ["bag", "things"]) F (fun _ _ _ _ _ _ us hl => match us, hl with | [_, _], _ => rfl) sc__law_mixed len__law_mixed fun cdv A outer s H E ds L Q E' hr h => ⟨d__law_mixed, ?der, rd__law_mixed ds L Q E' h⟩, m, F.kp⟩
  case der =>
    exact (pdss_cons (pds_set (i := 2) sc.nd (pd_cty call_list_of sim_list rfl G.list (by decide +kernel) (pda_cons (pdv 1) pda_nil)))
      (pdss_cons (pds_set (i := 3) sc.nd (pd_lst pda_nil))
      (pdss_cons (pds_forR PassesOwn.never rfl G.range (pda_cons (pd_cb call_len sim_len rfl G.len (by decide +kernel) (pda_cons (pdv 1) pda_nil)) pda_nil) (pdg_name (i := 4) sc.nd) (pdss_one (pds_expr (pd_append (pdv 3) (pda_cons (pd_popAt (pdv 2) (pda_cons (pd_call (c__law_draw.F.mono (by decide)) hr c__law_draw.kp c__law_draw.m pass0 xrel0 (pda_cons (pdv 0) (pda_cons (pd_cb call_len sim_len rfl G.len (by decide +kernel) (pda_cons (pdv 2) pda_nil)) pda_nil))) pda_nil)) pda_nil)))))
      (pdss_one (pds_ret (pdv 3))))))
theorem sc__law_like : FnScope ["told", "due", "k", "key"] ["told", "due"] (defScope s__law_like) := ⟨rfl, rfl, rfl, by decide +kernel, rfl, by decide +kernel, by decide +kernel⟩
theorem ok_w__law_like {P : Program} {w : World} {K : PySem.W.Frag} {mg : Str → Option Value} {base : Heap} {f : Addr} {fd : FuncData} (F : FunD K "_law_like" "_law_like" (defArgs s__law_like) (defBody s__law_like) (defScope s__law_like) [] [] f fd) (m : mg "_law_like" = some (.ref f)) (G : Glb mg) (C : Cst mg) : CalW P w K mg base "_law_like" 1 spw__law_like f := by
  have sc := sc__law_like
  refine ⟨fnW_mk (N := ["told", "due", "k", "key"]) (ps := ["told", "due"]) F (fun _ _ _ _ _ _ us hl => match us, hl with | [_, _], _ => rfl) sc__law_like len_w__law_like fun cdv A outer s H E p ds L Q E' hr h => ⟨d_w__law_like, ?der, rd_w__law_like ds L Q E' h⟩, m, F.kp⟩
  case der =>
    exact (pdss_cons (pds_if (PDW.pt (pdw_or (pdt_val (pd_cb call_isi sim_isi rfl G.isinstance (by decide +kernel) (pda_cons (pdv 1) (pda_cons (pd_bltn rfl G.list boot_list) pda_nil)))) (pdw_or1 (pdt_val (pd_cb call_isi sim_isi rfl G.isinstance (by decide +kernel) (pda_cons (pdv 1) (pda_cons (pd_bltn rfl G.tuple boot_tuple) pda_nil)))))))
      (pdss_cons (pds_if (PDW.pt (pdw_or (pdt_ne hr.units (pd_cb call_isi sim_isi rfl G.isinstance (by decide +kernel) (pda_cons (pdv 0) (pda_cons (pd_bltn rfl G.list boot_list) pda_nil))) (pd_cb call_isi sim_isi rfl G.isinstance (by decide +kernel) (pda_cons (pdv 1) (pda_cons (pd_bltn rfl G.list boot_list) pda_nil)))) (pdw_or1 (pdt_ne hr.units (pd_cb call_isi sim_isi rfl G.isinstance (by decide +kernel) (pda_cons (pdv 0) (pda_cons (pd_bltn rfl G.tuple boot_tuple) pda_nil))) (pd_cb call_isi sim_isi rfl G.isinstance (by decide +kernel) (pda_cons (pdv 1) (pda_cons (pd_bltn rfl G.tuple boot_tuple) pda_nil)))))))
      (pdss_one (pds_ret pd_bl))
      pdss_nil)
      (pdss_cons (pds_if (pdt_ne hr.units (pd_cb call_len sim_len rfl G.len (by decide +kernel) (pda_cons (pdv 0) pda_nil)) (pd_cb call_len sim_len rfl G.len (by decide +kernel) (pda_cons (pdv 1) pda_nil)))
      (pdss_one (pds_ret pd_bl))
      pdss_nil)
      (pdss_one pds_never)))
      pdss_nil)
      (pdss_cons (pds_if (pdt_val (pd_cb call_isi sim_isi rfl G.isinstance (by decide +kernel) (pda_cons (pdv 1) (pda_cons (pd_bltn rfl G.dict boot_dict) pda_nil))))
      (pdss_cons (pds_if (PDW.pt (pdw_or (pdt_not (pdt_val (pd_cb call_isi sim_isi rfl G.isinstance (by decide +kernel) (pda_cons (pdv 0) (pda_cons (pd_bltn rfl G.dict boot_dict) pda_nil))))) (pdw_or1 (pdt_ne hr.units (pd_cb call_lenK sim_lenK rfl G.len (by decide +kernel) (pda_cons (pdv 0) pda_nil)) (pd_cb call_lenK sim_lenK rfl G.len (by decide +kernel) (pda_cons (pdv 1) pda_nil))))))
      (pdss_one (pds_ret pd_bl))
      pdss_nil)
      (pdss_one pds_never))
      pdss_nil)
      (pdss_cons (pds_if (pdt_isN (pdv 1) pd_non)
      (pdss_one (pds_ret (pd_isN (pdv 0) pd_non)))
      pdss_nil)
      (pdss_cons (pds_if (PDW.pt (pdw_or (pdt_ne hr.units (pd_cb call_isi sim_isi rfl G.isinstance (by decide +kernel) (pda_cons (pdv 0) (pda_cons (pd_bltn rfl G.bool boot_bool) pda_nil))) (pd_cb call_isi sim_isi rfl G.isinstance (by decide +kernel) (pda_cons (pdv 1) (pda_cons (pd_bltn rfl G.bool boot_bool) pda_nil)))) (pdw_or1 (pdt_ne hr.units (pd_cb call_isi sim_isi rfl G.isinstance (by decide +kernel) (pda_cons (pdv 0) (pda_cons (pd_bltn rfl G.int boot_int) pda_nil))) (pd_cb call_isi sim_isi rfl G.isinstance (by decide +kernel) (pda_cons (pdv 1) (pda_cons (pd_bltn rfl G.int boot_int) pda_nil)))))))
      (pdss_one (pds_ret pd_bl))
      pdss_nil)
      (pdss_one (pds_ret (pd_and (pd_eq hr.units (pd_cb call_isi sim_isi rfl G.isinstance (by decide +kernel) (pda_cons (pdv 0) (pda_cons (pd_bltn rfl G.str boot_str) pda_nil))) (pd_cb call_isi sim_isi rfl G.isinstance (by decide +kernel) (pda_cons (pdv 1) (pda_cons (pd_bltn rfl G.str boot_str) pda_nil)))) (pd_one (pd_eq hr.units (pdv 0) (pdv 1))))))))))
theorem sc__law_gcd : FnScope ["one", "other"] ["one", "other"] (defScope s__law_gcd) := ⟨rfl, rfl, rfl, by decide +kernel, rfl, by decide +kernel, by decide +kernel⟩
theorem ok__law_gcd {P : Program} {w : World} {K : PySem.W.Frag} {mg : Str → Option Value} {base : Heap} {f : Addr} {fd : FuncData} (F : FunD K "_law_gcd" "_law_gcd" (defArgs s__law_gcd) (defBody s__law_gcd) (defScope s__law_gcd) [] [] f fd) (m : mg "_law_gcd" = some (.ref f)) (G : Glb mg) (C : Cst mg) : CalP P w K mg base "_law_gcd" 1 sp__law_gcd f := by
  have sc := sc__law_gcd
  refine ⟨fnL_mk (N := ["one", "other"]) (ps := ["one", "other"]) F (fun _ _ _ _ _ _ us hl => match us, hl with | [_, _], _ => rfl) sc__law_gcd len__law_gcd fun cdv A outer s H E ds L Q E' hr h => ⟨d__law_gcd, ?der, rd__law_gcd ds L Q E' h⟩, m, F.kp⟩
  case der =>
    exact (pdss_cons (pds_while PassesOwn.never (pdt_ne hr.units (pdv 1) pd_int) (pdss_one (pds_par (i := 0) (j := 1) rfl sc.nd (pda_cons (pdv 1) (pda_cons (pd_mod (pd_cty call_intU sim_int rfl G.int (by decide +kernel) (pda_cons (pdv 0) pda_nil)) (pdv 1)) pda_nil)))))
      (pdss_one (pds_ret (pdv 0))))
theorem sc__law_pair : FnScope ["top", "low", "by"] ["top", "low"] (defScope s__law_pair) := ⟨rfl, rfl, rfl, by decide +kernel, rfl, by decide +kernel, by decide +kernel⟩
theorem ok__law_pair {P : Program} {w : World} {K : PySem.W.Frag} {mg : Str → Option Value} {base : Heap} {f : Addr} {fd : FuncData} {f__law_gcd : Addr} (F : FunD K "_law_pair" "_law_pair" (defArgs s__law_pair) (defBody s__law_pair) (defScope s__law_pair) [] [] f fd) (m : mg "_law_pair" = some (.ref f)) (G : Glb mg) (C : Cst mg) (c__law_gcd : CalP P w K mg base "_law_gcd" 1 sp__law_gcd f__law_gcd) : CalP P w K mg base "_law_pair" 2 sp__law_pair f := by
  have sc := sc__law_pair
  refine ⟨fnL_mk (N := ["top", "low", "by"]) (ps := ["top", "low"]) F (fun _ _ _ _ _ _ us hl => match us, hl with | [_, _], _ => rfl) sc__law_pair len__law_pair fun cdv A outer s H E ds L Q E' hr h => ⟨d__law_pair, ?der, rd__law_pair ds L Q E' h⟩, m, F.kp⟩
  case der =>
    exact (pdss_cons (pds_set (i := 2) sc.nd (pd_call (c__law_gcd.F.mono (by decide)) hr c__law_gcd.kp c__law_gcd.m pass0 xrel0 (pda_cons (pdv 0) (pda_cons (pdv 1) pda_nil))))
      (pdss_one (pds_ret (pd_tup (pda_cons (pd_div (pdv 0) (pdv 2)) (pda_cons (pd_div (pdv 1) (pdv 2)) pda_nil))))))
theorem sc__law_power : FnScope ["one", "many", "found", "left", "base", "turn"] ["one", "many"] (defScope s__law_power) := ⟨rfl, rfl, rfl, by decide +kernel, rfl, by decide +kernel, by decide +kernel⟩
theorem ok__law_power {P : Program} {w : World} {K : PySem.W.Frag} {mg : Str → Option Value} {base : Heap} {f : Addr} {fd : FuncData} {f__law_pair : Addr} (F : FunD K "_law_power" "_law_power" (defArgs s__law_power) (defBody s__law_power) (defScope s__law_power) [] [] f fd) (m : mg "_law_power" = some (.ref f)) (G : Glb mg) (C : Cst mg) (c__law_pair : CalP P w K mg base "_law_pair" 2 sp__law_pair f__law_pair) : CalP P w K mg base "_law_power" 3 sp__law_power f := by
  have sc := sc__law_power
  refine ⟨fnL_mk (N := ["one", "many", "found", "left", "base", "turn"]) (ps := ["one", "many"]) F (fun _ _ _ _ _ _ us hl => match us, hl with | [_, _], _ => rfl) sc__law_power len__law_power fun cdv A outer s H E ds L Q E' hr h => ⟨d__law_power, ?der, rd__law_power ds L Q E' h⟩, m, F.kp⟩
  case der =>
    exact (pdss_cons (pds_set (i := 2) sc.nd (pd_tup (pda_cons pd_int (pda_cons pd_int pda_nil))))
      (pdss_cons (pds_par (i := 3) (j := 4) rfl sc.nd (pda_cons (pdv 1) (pda_cons (pdv 0) pda_nil)))
      (pdss_cons (pds_forR PassesOwn.never rfl G.range (pda_cons pd_int pda_nil) (pdg_name (i := 5) sc.nd) (pdss_cons (pds_if (pdt_eq hr.units (pd_mod (pdv 3) pd_int) pd_int)
      (pdss_one (pds_set (i := 2) sc.nd (pd_tup (pda_cons (pd_mul (pd_ix (pdv 2) pd_int) (pd_ix (pdv 4) pd_int)) (pda_cons (pd_mul (pd_ix (pdv 2) pd_int) (pd_ix (pdv 4) pd_int)) pda_nil)))))
      pdss_nil)
      (pdss_cons (pds_set (i := 3) sc.nd (pd_div (pdv 3) pd_int))
      (pdss_cons (pds_if (pdt_eq hr.units (pdv 3) pd_int)
      (pdss_one pds_break)
      pdss_nil)
      (pdss_one (pds_set (i := 4) sc.nd (pd_tup (pda_cons (pd_mul (pd_ix (pdv 4) pd_int) (pd_ix (pdv 4) pd_int)) (pda_cons (pd_mul (pd_ix (pdv 4) pd_int) (pd_ix (pdv 4) pd_int)) pda_nil)))))))))
      (pdss_one (pds_ret (pd_call (c__law_pair.F.mono (by decide)) hr c__law_pair.kp c__law_pair.m pass0 xrel0 (pda_cons (pd_ix (pdv 2) pd_int) (pda_cons (pd_ix (pdv 2) pd_int) pda_nil))))))))
theorem sc__law_dress : FnScope ["bag", "one", "by"] ["bag", "one"] (defScope s__law_dress) := ⟨rfl, rfl, rfl, by decide +kernel, rfl, by decide +kernel, by decide +kernel⟩
theorem ok__law_dress {P : Program} {w : World} {K : PySem.W.Frag} {mg : Str → Option Value} {base : Heap} {f : Addr} {fd : FuncData} {f__law_of f__law_draw : Addr} (F : FunD K "_law_dress" "_law_dress" (defArgs s__law_dress) (defBody s__law_dress) (defScope s__law_dress) [] [] f fd) (m : mg "_law_dress" = some (.ref f)) (G : Glb mg) (C : Cst mg) (c__law_of : CalP P w K mg base "_law_of" 2 sp__law_of f__law_of) (c__law_draw : CalP P w K mg base "_law_draw" 1 sp__law_draw f__law_draw) : CalP P w K mg base "_law_dress" 3 sp__law_dress f := by
  have sc := sc__law_dress
  refine ⟨fnL_mk (N := ["bag", "one", "by"]) (ps := ["bag", "one"]) F (fun _ _ _ _ _ _ us hl => match us, hl with | [_, _], _ => rfl) sc__law_dress len__law_dress fun cdv A outer s H E ds L Q E' hr h => ⟨d__law_dress, ?der, rd__law_dress ds L Q E' h⟩, m, F.kp⟩
  case der =>
    exact (pdss_cons (pds_set (i := 2) sc.nd (pd_call (c__law_of.F.mono (by decide)) hr c__law_of.kp c__law_of.m pass0 xrel0 (pda_cons (pdv 0) (pda_cons (pd_lst (pda_cons pd_int (pda_cons pd_int (pda_cons pd_int (pda_cons pd_int (pda_cons pd_int (pda_cons pd_int pda_nil))))))) pda_nil))))
      (pdss_cons (pds_if (PDW.pt (pdw_and (pdt_eq hr.units (pd_ix (pdv 1) pd_int) pd_int) (pdw_and1 (pdt_eq hr.units (pd_call (c__law_draw.F.mono (by decide)) hr c__law_draw.kp c__law_draw.m pass0 xrel0 (pda_cons (pdv 0) (pda_cons pd_int pda_nil))) pd_int))))
      (pdss_one (pds_ret (pd_ix (pdv 1) pd_int)))
      pdss_nil)
      (pdss_one (pds_ret (pd_tup (pda_cons (pd_mul (pd_ix (pdv 1) pd_int) (pdv 2)) (pda_cons (pd_mul (pd_ix (pdv 1) pd_int) (pdv 2)) pda_nil)))))))
theorem sc__law_called : FnScope ["e", "found"] ["e"] (defScope s__law_called) := ⟨rfl, rfl, rfl, by decide +kernel, rfl, by decide +kernel, by decide +kernel⟩
theorem ok_w__law_called {P : Program} {w : World} {K : PySem.W.Frag} {mg : Str → Option Value} {base : Heap} {f : Addr} {fd : FuncData} (F : FunD K "_law_called" "_law_called" (defArgs s__law_called) (defBody s__law_called) (defScope s__law_called) [] [] f fd) (m : mg "_law_called" = some (.ref f)) (G : Glb mg) (C : Cst mg) (N : Cls K mg) (I : Ins1 K) : CalW P w K mg base "_law_called" 1 spw__law_called f := by
  have sc := sc__law_called
  refine ⟨fnW_mk (N := ["e", "found"]) (ps := ["e"]) F (fun _ _ _ _ _ _ us hl => match us, hl with | [_], _ => rfl) sc__law_called len_w__law_called fun cdv A outer s H E p ds L Q E' hr h => ⟨d_w__law_called, ?der, rd_w__law_called ds L Q E' h⟩, m, F.kp⟩
  case der =>
    exact (pdss_cons (pds_set (i := 1) sc.nd (pd_lst pda_nil))
      (pdss_cons (pds_if (pdt_val (pd_cb call_isX (sim_isE I.isx) rfl G.isinstance (by decide +kernel) (pda_cons (pdv 0) (pda_cons (pd_cls N.ModelError) pda_nil))))
      (pdss_one (pds_expr (pd_append (pdv 1) (pda_cons pd_str pda_nil))))
      pdss_nil)
      (pdss_cons (pds_if (pdt_val (pd_cb call_isX (sim_isE I.isx) rfl G.isinstance (by decide +kernel) (pda_cons (pdv 0) (pda_cons (pd_cls N.Missing) pda_nil))))
      (pdss_one (pds_expr (pd_append (pdv 1) (pda_cons pd_str pda_nil))))
      pdss_nil)
      (pdss_cons (pds_if (pdt_val (pd_cb call_isX (sim_isE I.isx) rfl G.isinstance (by decide +kernel) (pda_cons (pdv 0) (pda_cons (pd_cls N.Ended) pda_nil))))
      (pdss_one (pds_expr (pd_append (pdv 1) (pda_cons pd_str pda_nil))))
      pdss_nil)
      (pdss_cons (pds_if (pdt_val (pd_cb call_isX (sim_isE I.isx) rfl G.isinstance (by decide +kernel) (pda_cons (pdv 0) (pda_cons (pd_cls N.NoSuch) pda_nil))))
      (pdss_one (pds_expr (pd_append (pdv 1) (pda_cons pd_str pda_nil))))
      pdss_nil)
      (pdss_cons (pds_if (pdt_val (pd_cb call_isX (sim_isE I.isx) rfl G.isinstance (by decide +kernel) (pda_cons (pdv 0) (pda_cons (pd_cls N.BadName) pda_nil))))
      (pdss_one (pds_expr (pd_append (pdv 1) (pda_cons pd_str pda_nil))))
      pdss_nil)
      (pdss_cons (pds_if (pdt_val (pd_cb call_isX (sim_isE I.isx) rfl G.isinstance (by decide +kernel) (pda_cons (pdv 0) (pda_cons (pd_cls N.BadFraction) pda_nil))))
      (pdss_one (pds_expr (pd_append (pdv 1) (pda_cons pd_str pda_nil))))
      pdss_nil)
      (pdss_cons (pds_if (pdt_val (pd_cb call_isX (sim_isE I.isx) rfl G.isinstance (by decide +kernel) (pda_cons (pdv 0) (pda_cons (pd_cls N.BadNumber) pda_nil))))
      (pdss_one (pds_expr (pd_append (pdv 1) (pda_cons pd_str pda_nil))))
      pdss_nil)
      (pdss_cons (pds_if (pdt_val (pd_cb call_isX (sim_isE I.isx) rfl G.isinstance (by decide +kernel) (pda_cons (pdv 0) (pda_cons (pd_cls N.BadGround) pda_nil))))
      (pdss_one (pds_expr (pd_append (pdv 1) (pda_cons pd_str pda_nil))))
      pdss_nil)
      (pdss_cons (pds_if (pdt_val (pd_cb call_isX (sim_isE I.isx) rfl G.isinstance (by decide +kernel) (pda_cons (pdv 0) (pda_cons (pd_cls N.BadBook) pda_nil))))
      (pdss_one (pds_expr (pd_append (pdv 1) (pda_cons pd_str pda_nil))))
      pdss_nil)
      (pdss_cons (pds_if (pdt_val (pd_cb call_isX (sim_isE I.isx) rfl G.isinstance (by decide +kernel) (pda_cons (pdv 0) (pda_cons (pd_cls N.BadRecipe) pda_nil))))
      (pdss_one (pds_expr (pd_append (pdv 1) (pda_cons pd_str pda_nil))))
      pdss_nil)
      (pdss_cons (pds_if (pdt_val (pd_cb call_isX (sim_isE I.isx) rfl G.isinstance (by decide +kernel) (pda_cons (pdv 0) (pda_cons (pd_cls N.BadLook) pda_nil))))
      (pdss_one (pds_expr (pd_append (pdv 1) (pda_cons pd_str pda_nil))))
      pdss_nil)
      (pdss_cons (pds_if (pdt_val (pd_cb call_isX (sim_isE I.isx) rfl G.isinstance (by decide +kernel) (pda_cons (pdv 0) (pda_cons (pd_cls N.BadTerm) pda_nil))))
      (pdss_one (pds_expr (pd_append (pdv 1) (pda_cons pd_str pda_nil))))
      pdss_nil)
      (pdss_cons (pds_if (pdt_val (pd_cb call_isX (sim_isE I.isx) rfl G.isinstance (by decide +kernel) (pda_cons (pdv 0) (pda_cons (pd_cls N.BadQuestion) pda_nil))))
      (pdss_one (pds_expr (pd_append (pdv 1) (pda_cons pd_str pda_nil))))
      pdss_nil)
      (pdss_cons (pds_if (pdt_val (pd_cb call_isX (sim_isE I.isx) rfl G.isinstance (by decide +kernel) (pda_cons (pdv 0) (pda_cons (pd_cls N.BadReading) pda_nil))))
      (pdss_one (pds_expr (pd_append (pdv 1) (pda_cons pd_str pda_nil))))
      pdss_nil)
      (pdss_cons (pds_if (pdt_val (pd_cb call_isX (sim_isE I.isx) rfl G.isinstance (by decide +kernel) (pda_cons (pdv 0) (pda_cons (pd_cls N.BadScript) pda_nil))))
      (pdss_one (pds_expr (pd_append (pdv 1) (pda_cons pd_str pda_nil))))
      pdss_nil)
      (pdss_cons (pds_if (pdt_val (pd_cb call_isX (sim_isE I.isx) rfl G.isinstance (by decide +kernel) (pda_cons (pdv 0) (pda_cons (pd_cls N.NotBare) pda_nil))))
      (pdss_one (pds_expr (pd_append (pdv 1) (pda_cons pd_str pda_nil))))
      pdss_nil)
      (pdss_cons (pds_if (pdt_val (pd_cb call_isX (sim_isE I.isx) rfl G.isinstance (by decide +kernel) (pda_cons (pdv 0) (pda_cons (pd_cls N.NotOne) pda_nil))))
      (pdss_one (pds_expr (pd_append (pdv 1) (pda_cons pd_str pda_nil))))
      pdss_nil)
      (pdss_cons (pds_if (pdt_val (pd_cb call_isX (sim_isE I.isx) rfl G.isinstance (by decide +kernel) (pda_cons (pdv 0) (pda_cons (pd_cls N.NotScorer) pda_nil))))
      (pdss_one (pds_expr (pd_append (pdv 1) (pda_cons pd_str pda_nil))))
      pdss_nil)
      (pdss_cons (pds_if (pdt_val (pd_cb call_isX (sim_isE I.isx) rfl G.isinstance (by decide +kernel) (pda_cons (pdv 0) (pda_cons (pd_cls N.NoChance) pda_nil))))
      (pdss_one (pds_expr (pd_append (pdv 1) (pda_cons pd_str pda_nil))))
      pdss_nil)
      (pdss_cons (pds_if (pdt_val (pd_cb call_isX (sim_isE I.isx) rfl G.isinstance (by decide +kernel) (pda_cons (pdv 0) (pda_cons (pd_cls N.Unlike) pda_nil))))
      (pdss_one (pds_expr (pd_append (pdv 1) (pda_cons pd_str pda_nil))))
      pdss_nil)
      (pdss_cons (pds_if (pdt_val (pd_cb call_isX (sim_isE I.isx) rfl G.isinstance (by decide +kernel) (pda_cons (pdv 0) (pda_cons (pd_cls N.TooFew) pda_nil))))
      (pdss_one (pds_expr (pd_append (pdv 1) (pda_cons pd_str pda_nil))))
      pdss_nil)
      (pdss_cons (pds_if (pdt_val (pd_cb call_isX (sim_isE I.isx) rfl G.isinstance (by decide +kernel) (pda_cons (pdv 0) (pda_cons (pd_cls N.TooMany) pda_nil))))
      (pdss_one (pds_expr (pd_append (pdv 1) (pda_cons pd_str pda_nil))))
      pdss_nil)
      (pdss_one (pds_ret (pdv 1))))))))))))))))))))))))))
theorem sc__law_told : FnScope ["e", "classes", "word", "good", "letter"] ["e"] (defScope s__law_told) := ⟨rfl, rfl, rfl, by decide +kernel, rfl, by decide +kernel, by decide +kernel⟩
theorem ok_w__law_told {P : Program} {w : World} {K : PySem.W.Frag} {mg : Str → Option Value} {base : Heap} {f : Addr} {fd : FuncData} {f_w__law_called f_w__law_like : Addr} (F : FunD K "_law_told" "_law_told" (defArgs s__law_told) (defBody s__law_told) (defScope s__law_told) [] [] f fd) (m : mg "_law_told" = some (.ref f)) (G : Glb mg) (C : Cst mg) (I : Ins1 K) (w__law_called : CalW P w K mg base "_law_called" 1 spw__law_called f_w__law_called) (w__law_like : CalW P w K mg base "_law_like" 1 spw__law_like f_w__law_like) : CalW P w K mg base "_law_told" 2 spw__law_told f := by
  have sc := sc__law_told
  refine ⟨fnW_mk (N := ["e", "classes", "word", "good", "letter"]) (ps := ["e"]) F (fun _ _ _ _ _ _ us hl => match us, hl with | [_], _ => rfl) sc__law_told len_w__law_told fun cdv A outer s H E p ds L Q E' hr h => ⟨d_w__law_told, ?der, rd_w__law_told ds L Q E' h⟩, m, F.kp⟩
  case der =>
    exact (pdss_cons (pds_set (i := 1) sc.nd (pd_callW (w__law_called.F.mono (by decide)) hr w__law_called.kp w__law_called.m (pda_cons (pdv 0) pda_nil)))
      (pdss_cons (pds_if (PDW.pt (pdw_or (pdt_ne hr.units (pd_cb call_len sim_len rfl G.len (by decide +kernel) (pda_cons (pdv 1) pda_nil)) (pd_if (pdt_eq hr.units (pdv 1) (pd_lst (pda_cons pd_str pda_nil))) pd_int pd_int)) (pdw_or1 (pdt_not (pdt_val (pd_callW (w__law_like.F.mono (by decide)) hr w__law_like.kp w__law_like.m (pda_cons (pd_fld I.code (pdv 0)) (pda_cons (pd_ix (pdv 1) (pd_sub (pd_cb call_len sim_len rfl G.len (by decide +kernel) (pda_cons (pdv 1) pda_nil)) pd_int)) pda_nil))))))))
      (pdss_one (pds_ret (pd_tup (pda_cons pd_str pda_nil))))
      pdss_nil)
      (pdss_cons (pds_set (i := 2) sc.nd (pd_ix (pdv 1) (pd_sub (pd_cb call_len sim_len rfl G.len (by decide +kernel) (pda_cons (pdv 1) pda_nil)) pd_int)))
      (pdss_cons (pds_if (pdt_eq hr.units (pd_ix (pdv 1) pd_int) pd_str)
      (pdss_one pds_never)
      pdss_nil)
      (pdss_cons (pds_if (pdt_inL (pdv 2) (pd_lst (pda_cons pd_str (pda_cons pd_str (pda_cons pd_str pda_nil)))))
      (pdss_one (pds_ret (pd_tup (pda_cons (pdv 2) (pda_cons (pd_fld I.value (pdv 0)) pda_nil)))))
      pdss_nil)
      (pdss_cons (pds_if (pdt_inL (pdv 2) (pd_lst (pda_cons pd_str (pda_cons pd_str (pda_cons pd_str (pda_cons pd_str (pda_cons pd_str (pda_cons pd_str pda_nil))))))))
      (pdss_cons pds_never
      (pdss_one pds_never))
      pdss_nil)
      (pdss_cons (pds_if (pdt_eq hr.units (pdv 2) pd_str)
      (pdss_one pds_never)
      pdss_nil)
      (pdss_cons (pds_if (pdt_eq hr.units (pdv 2) pd_str)
      (pdss_one pds_never)
      pdss_nil)
      (pdss_cons (pds_if (pdt_eq hr.units (pdv 2) pd_str)
      (pdss_one pds_never)
      pdss_nil)
      (pdss_cons (pds_if (pdt_eq hr.units (pdv 2) pd_str)
      (pdss_one pds_never)
      pdss_nil)
      (pdss_cons (pds_if (pdt_eq hr.units (pdv 2) pd_str)
      (pdss_one pds_never)
      pdss_nil)
      (pdss_cons (pds_if (pdt_eq hr.units (pdv 2) pd_str)
      (pdss_one pds_never)
      pdss_nil)
      (pdss_cons (pds_if (pdt_eq hr.units (pdv 2) pd_str)
      (pdss_one pds_never)
      pdss_nil)
      (pdss_one pds_never))))))))))))))
theorem sc__law_right : FnScope ["bag", "way"] ["bag"] (defScope s__law_right) := ⟨rfl, rfl, rfl, by decide +kernel, rfl, by decide +kernel, by decide +kernel⟩
theorem ok__law_right {P : Program} {w : World} {K : PySem.W.Frag} {mg : Str → Option Value} {base : Heap} {f : Addr} {fd : FuncData} {f__law_draw f__law_of f__law_pair : Addr} (F : FunD K "_law_right" "_law_right" (defArgs s__law_right) (defBody s__law_right) (defScope s__law_right) [] [] f fd) (m : mg "_law_right" = some (.ref f)) (G : Glb mg) (C : Cst mg) (c__law_draw : CalP P w K mg base "_law_draw" 1 sp__law_draw f__law_draw) (c__law_of : CalP P w K mg base "_law_of" 2 sp__law_of f__law_of) (c__law_pair : CalP P w K mg base "_law_pair" 2 sp__law_pair f__law_pair) : CalP P w K mg base "_law_right" 3 sp__law_right f := by
  have sc := sc__law_right
  refine ⟨fnL_mk (N := ["bag", "way"]) (ps := ["bag"]) F (fun _ _ _ _ _ _ us hl => match us, hl with | [_], _ => rfl) sc__law_right len__law_right fun cdv A outer s H E ds L Q E' hr h => ⟨d__law_right, ?der, rd__law_right ds L Q E' h⟩, m, F.kp⟩
  case der =>
    exact (pdss_cons (pds_set (i := 1) sc.nd (pd_call (c__law_draw.F.mono (by decide)) hr c__law_draw.kp c__law_draw.m pass0 xrel0 (pda_cons (pdv 0) (pda_cons pd_int pda_nil))))
      (pdss_cons (pds_if (pdt_eq hr.units (pdv 1) pd_int)
      (pdss_one (pds_ret (pd_call (c__law_of.F.mono (by decide)) hr c__law_of.kp c__law_of.m pass0 xrel0 (pda_cons (pdv 0) (pda_cons (pd_lst (pda_cons (pd_tup (pda_cons pd_int (pda_cons pd_int pda_nil))) (pda_cons (pd_tup (pda_cons pd_int (pda_cons pd_int pda_nil))) (pda_cons (pd_tup (pda_cons pd_int (pda_cons pd_int pda_nil))) (pda_cons (pd_tup (pda_cons pd_int (pda_cons pd_int pda_nil))) pda_nil))))) pda_nil)))))
      pdss_nil)
      (pdss_cons (pds_if (pdt_eq hr.units (pdv 1) pd_int)
      (pdss_one (pds_ret (pd_call (c__law_pair.F.mono (by decide)) hr c__law_pair.kp c__law_pair.m pass0 xrel0 (pda_cons (pd_call (c__law_draw.F.mono (by decide)) hr c__law_draw.kp c__law_draw.m pass0 xrel0 (pda_cons (pdv 0) (pda_cons (pd_pow pd_int pd_int) pda_nil))) (pda_cons (pd_add pd_int (pd_call (c__law_draw.F.mono (by decide)) hr c__law_draw.kp c__law_draw.m pass0 xrel0 (pda_cons (pdv 0) (pda_cons (pd_pow pd_int pd_int) pda_nil)))) pda_nil)))))
      pdss_nil)
      (pdss_one (pds_ret (pd_call (c__law_pair.F.mono (by decide)) hr c__law_pair.kp c__law_pair.m pass0 xrel0 (pda_cons (pd_call (c__law_draw.F.mono (by decide)) hr c__law_draw.kp c__law_draw.m pass0 xrel0 (pda_cons (pdv 0) (pda_cons pd_int pda_nil))) (pda_cons (pd_add pd_int (pd_call (c__law_draw.F.mono (by decide)) hr c__law_draw.kp c__law_draw.m pass0 xrel0 (pda_cons (pdv 0) (pda_cons pd_int pda_nil)))) pda_nil))))))))
theorem sc__law_wrong : FnScope ["bag", "way"] ["bag"] (defScope s__law_wrong) := ⟨rfl, rfl, rfl, by decide +kernel, rfl, by decide +kernel, by decide +kernel⟩
theorem ok__law_wrong {P : Program} {w : World} {K : PySem.W.Frag} {mg : Str → Option Value} {base : Heap} {f : Addr} {fd : FuncData} {f__law_draw f__law_of : Addr} (F : FunD K "_law_wrong" "_law_wrong" (defArgs s__law_wrong) (defBody s__law_wrong) (defScope s__law_wrong) [] [] f fd) (m : mg "_law_wrong" = some (.ref f)) (G : Glb mg) (C : Cst mg) (c__law_draw : CalP P w K mg base "_law_draw" 1 sp__law_draw f__law_draw) (c__law_of : CalP P w K mg base "_law_of" 2 sp__law_of f__law_of) : CalP P w K mg base "_law_wrong" 3 sp__law_wrong f := by
  have sc := sc__law_wrong
  refine ⟨fnL_mk (N := ["bag", "way"]) (ps := ["bag"]) F (fun _ _ _ _ _ _ us hl => match us, hl with | [_], _ => rfl) sc__law_wrong len__law_wrong fun cdv A outer s H E ds L Q E' hr h => ⟨d__law_wrong, ?der, rd__law_wrong ds L Q E' h⟩, m, F.kp⟩
  case der =>
    exact (pdss_cons (pds_set (i := 1) sc.nd (pd_call (c__law_draw.F.mono (by decide)) hr c__law_draw.kp c__law_draw.m pass0 xrel0 (pda_cons (pdv 0) (pda_cons pd_int pda_nil))))
      (pdss_cons (pds_if (pdt_eq hr.units (pdv 1) pd_int)
      (pdss_one (pds_ret (pd_call (c__law_of.F.mono (by decide)) hr c__law_of.kp c__law_of.m pass0 xrel0 (pda_cons (pdv 0) (pda_cons (pd_lst (pda_cons pd_bl (pda_cons pd_bl (pda_cons pd_non (pda_cons pd_negc (pda_cons pd_str (pda_cons pd_str (pda_cons pd_negc (pda_cons pd_str (pda_cons pd_dict0 pda_nil)))))))))) pda_nil)))))
      pdss_nil)
      (pdss_cons (pds_if (pdt_eq hr.units (pdv 1) pd_int)
      (pdss_one (pds_ret (pd_call (c__law_of.F.mono (by decide)) hr c__law_of.kp c__law_of.m pass0 xrel0 (pda_cons (pdv 0) (pda_cons (pd_lst (pda_cons (pd_lst (pda_cons pd_int (pda_cons pd_int pda_nil))) (pda_cons (pd_lst (pda_cons pd_int (pda_cons pd_int pda_nil))) (pda_cons (pd_lst pda_nil) (pda_cons (pd_tup (pda_cons pd_int (pda_cons pd_int (pda_cons pd_int pda_nil)))) (pda_cons (pd_tup (pda_cons pd_int pda_nil)) (pda_cons (pd_tup pda_nil) (pda_cons (pd_tup (pda_cons (pd_tup (pda_cons pd_int (pda_cons pd_int pda_nil))) (pda_cons pd_int pda_nil))) (pda_cons (pd_tup (pda_cons pd_int (pda_cons (pd_lst (pda_cons pd_int pda_nil)) pda_nil))) pda_nil))))))))) pda_nil)))))
      pdss_nil)
      (pdss_cons (pds_if (pdt_eq hr.units (pdv 1) pd_int)
      (pdss_one (pds_ret (pd_call (c__law_of.F.mono (by decide)) hr c__law_of.kp c__law_of.m pass0 xrel0 (pda_cons (pdv 0) (pda_cons (pd_lst (pda_cons (pd_tup (pda_cons pd_bl (pda_cons pd_int pda_nil))) (pda_cons (pd_tup (pda_cons pd_int (pda_cons pd_bl pda_nil))) (pda_cons (pd_tup (pda_cons pd_bl (pda_cons pd_int pda_nil))) (pda_cons (pd_tup (pda_cons pd_str (pda_cons pd_int pda_nil))) (pda_cons (pd_tup (pda_cons pd_int (pda_cons pd_non pda_nil))) (pda_cons (pd_tup (pda_cons pd_non (pda_cons pd_int pda_nil))) pda_nil))))))) pda_nil)))))
      pdss_nil)
      (pdss_one (pds_ret (pd_call (c__law_of.F.mono (by decide)) hr c__law_of.kp c__law_of.m pass0 xrel0 (pda_cons (pdv 0) (pda_cons (pd_lst (pda_cons (pd_tup (pda_cons (pd_add pd_int (pd_call (c__law_draw.F.mono (by decide)) hr c__law_draw.kp c__law_draw.m pass0 xrel0 (pda_cons (pdv 0) (pda_cons pd_int pda_nil)))) (pda_cons pd_int pda_nil))) (pda_cons (pd_tup (pda_cons pd_int (pda_cons pd_int pda_nil))) (pda_cons (pd_tup (pda_cons (pd_sub (pd_sub pd_int pd_int) (pd_call (c__law_draw.F.mono (by decide)) hr c__law_draw.kp c__law_draw.m pass0 xrel0 (pda_cons (pdv 0) (pda_cons pd_int pda_nil)))) (pda_cons pd_int pda_nil))) (pda_cons (pd_tup (pda_cons pd_int (pda_cons (pd_sub (pd_sub pd_int pd_int) (pd_call (c__law_draw.F.mono (by decide)) hr c__law_draw.kp c__law_draw.m pass0 xrel0 (pda_cons (pdv 0) (pda_cons pd_int pda_nil)))) pda_nil))) (pda_cons (pd_tup (pda_cons pd_negc (pda_cons pd_negc pda_nil))) pda_nil)))))) pda_nil)))))))))
theorem sc__law_call : FnScope ["way", "args"] ["way", "args"] (defScope s__law_call) := ⟨rfl, rfl, rfl, by decide +kernel, rfl, by decide +kernel, by decide +kernel⟩
theorem ok__law_call {P : Program} {w : World} {K : PySem.W.Frag} {mg : Str → Option Value} {base : Heap} {f : Addr} {fd : FuncData} {f_lowest f_fraction_text f_raised f_quotient f_apart f_is_less f_read_fraction f_plus f_times : Addr} (F : FunD K "_law_call" "_law_call" (defArgs s__law_call) (defBody s__law_call) (defScope s__law_call) [] [] f fd) (m : mg "_law_call" = some (.ref f)) (G : Glb mg) (C : Cst mg) (c_lowest : CalX P w K mg base "lowest" 4 sp_lowest f_lowest) (c_fraction_text : CalX P w K mg base "fraction_text" 4 sp_fraction_text f_fraction_text) (c_raised : CalX P w K mg base "raised" 4 sp_raised f_raised) (c_quotient : CalX P w K mg base "quotient" 4 sp_quotient f_quotient) (c_apart : CalX P w K mg base "apart" 4 sp_apart f_apart) (c_is_less : CalX P w K mg base "is_less" 4 sp_is_less f_is_less) (c_read_fraction : CalX P w K mg base "read_fraction" 3 sp_read_fraction f_read_fraction) (c_plus : CalX P w K mg base "plus" 4 sp_plus f_plus) (c_times : CalX P w K mg base "times" 4 sp_times f_times) : CalX P w K mg base "_law_call" 5 sp__law_call f := by
  have sc := sc__law_call
  refine ⟨fnX_mk (N := ["way", "args"]) (ps := ["way", "args"]) F (fun _ _ _ _ _ _ us hl => match us, hl with | [_, _], _ => rfl) sc__law_call len__law_call fun cdv A outer s H E ds L Q E' hr hX h => ⟨d__law_call E', ?der, rd__law_call ds L Q E' h⟩, m, F.kp⟩
  case der =>
    have hW := wok_def (P := P) (w := w) (K := K) (mg := mg) (base := base) (N := ["way", "args"]) (qual := "_law_call") (scope := defScope s__law_call) (f := f) (A := A) (outer := outer) (cdv := cdv) (s := s) hX
    exact (pdss_cons (pds_if (pdt_eq hr.units (pdv 0) pd_int)
      (pdss_one (pds_ret (pd_callX (c_lowest.F.mono (by decide)) hr c_lowest.kp c_lowest.m hW (pda_cons (pd_ix (pdv 1) pd_int) pda_nil))))
      pdss_nil)
      (pdss_cons (pds_if (pdt_eq hr.units (pdv 0) pd_int)
      (pdss_one (pds_ret (pd_callX (c_fraction_text.F.mono (by decide)) hr c_fraction_text.kp c_fraction_text.m hW (pda_cons (pd_ix (pdv 1) pd_int) pda_nil))))
      pdss_nil)
      (pdss_cons (pds_if (pdt_eq hr.units (pdv 0) pd_int)
      (pdss_one (pds_ret (pd_callX (c_raised.F.mono (by decide)) hr c_raised.kp c_raised.m hW (pda_cons (pd_ix (pdv 1) pd_int) (pda_cons (pd_ix (pdv 1) pd_int) pda_nil)))))
      pdss_nil)
      (pdss_cons (pds_if (pdt_eq hr.units (pdv 0) pd_int)
      (pdss_one (pds_ret (pd_callX (c_quotient.F.mono (by decide)) hr c_quotient.kp c_quotient.m hW (pda_cons (pd_ix (pdv 1) pd_int) (pda_cons (pd_ix (pdv 1) pd_int) pda_nil)))))
      pdss_nil)
      (pdss_cons (pds_if (pdt_eq hr.units (pdv 0) pd_int)
      (pdss_one (pds_ret (pd_callX (c_apart.F.mono (by decide)) hr c_apart.kp c_apart.m hW (pda_cons (pd_ix (pdv 1) pd_int) (pda_cons (pd_ix (pdv 1) pd_int) pda_nil)))))
      pdss_nil)
      (pdss_cons (pds_if (pdt_eq hr.units (pdv 0) pd_int)
      (pdss_one (pds_ret (pd_callX (c_is_less.F.mono (by decide)) hr c_is_less.kp c_is_less.m hW (pda_cons (pd_ix (pdv 1) pd_int) (pda_cons (pd_ix (pdv 1) pd_int) pda_nil)))))
      pdss_nil)
      (pdss_cons (pds_if (pdt_eq hr.units (pdv 0) pd_int)
      (pdss_one (pds_ret (pd_callX (c_read_fraction.F.mono (by decide)) hr c_read_fraction.kp c_read_fraction.m hW (pda_cons (pd_ix (pdv 1) pd_int) pda_nil))))
      pdss_nil)
      (pdss_cons (pds_if (pdt_eq hr.units (pd_cb call_len sim_len rfl G.len (by decide +kernel) (pda_cons (pdv 1) pda_nil)) pd_int)
      (pdss_one (pds_ret (pd_if (pdt_eq hr.units (pdv 0) pd_int) (pd_callX (c_plus.F.mono (by decide)) hr c_plus.kp c_plus.m hW (pda_cons (pd_ix (pdv 1) pd_int) (pda_cons (pd_ix (pdv 1) pd_int) pda_nil))) (pd_callX (c_times.F.mono (by decide)) hr c_times.kp c_times.m hW (pda_cons (pd_ix (pdv 1) pd_int) (pda_cons (pd_ix (pdv 1) pd_int) pda_nil))))))
      pdss_nil)
      (pdss_cons (pds_if (pdt_eq hr.units (pd_cb call_len sim_len rfl G.len (by decide +kernel) (pda_cons (pdv 1) pda_nil)) pd_int)
      (pdss_one (pds_ret (pd_if (pdt_eq hr.units (pdv 0) pd_int) (pd_callX (c_plus.F.mono (by decide)) hr c_plus.kp c_plus.m hW (pda_cons (pd_ix (pdv 1) pd_int) (pda_cons (pd_ix (pdv 1) pd_int) (pda_cons (pd_ix (pdv 1) pd_int) pda_nil)))) (pd_callX (c_times.F.mono (by decide)) hr c_times.kp c_times.m hW (pda_cons (pd_ix (pdv 1) pd_int) (pda_cons (pd_ix (pdv 1) pd_int) (pda_cons (pd_ix (pdv 1) pd_int) pda_nil)))))))
      pdss_nil)
      (pdss_one (pds_ret (pd_if (pdt_eq hr.units (pdv 0) pd_int) (pd_callX (c_plus.F.mono (by decide)) hr c_plus.kp c_plus.m hW (pda_cons (pd_ix (pdv 1) pd_int) (pda_cons (pd_ix (pdv 1) pd_int) (pda_cons (pd_ix (pdv 1) pd_int) (pda_cons (pd_ix (pdv 1) pd_int) pda_nil))))) (pd_callX (c_times.F.mono (by decide)) hr c_times.kp c_times.m hW (pda_cons (pd_ix (pdv 1) pd_int) (pda_cons (pd_ix (pdv 1) pd_int) (pda_cons (pd_ix (pdv 1) pd_int) (pda_cons (pd_ix (pdv 1) pd_int) pda_nil)))))))))))))))))
theorem sc__law_ask : FnScope ["way", "args", "e"] ["way", "args"] (defScope s__law_ask) := ⟨rfl, rfl, rfl, by decide +kernel, rfl, by decide +kernel, by decide +kernel⟩
theorem ok__law_ask {P : Program} {w : World} {K : PySem.W.Frag} {mg : Str → Option Value} {base : Heap} {f : Addr} {fd : FuncData} {f__law_call f_w__law_told : Addr} (F : FunD K "_law_ask" "_law_ask" (defArgs s__law_ask) (defBody s__law_ask) (defScope s__law_ask) [] [] f fd) (m : mg "_law_ask" = some (.ref f)) (G : Glb mg) (C : Cst mg) (N : Cls K mg) (I : Ins1 K) (c__law_call : CalX P w K mg base "_law_call" 5 sp__law_call f__law_call) (w__law_told : CalW P w K mg base "_law_told" 2 spw__law_told f_w__law_told) : CalP P w K mg base "_law_ask" 6 sp__law_ask f := by
  have sc := sc__law_ask
  refine ⟨fnL_mk (N := ["way", "args", "e"]) (ps := ["way", "args"]) F (fun _ _ _ _ _ _ us hl => match us, hl with | [_, _], _ => rfl) sc__law_ask len__law_ask fun cdv A outer s H E ds L Q E' hr h => ⟨d__law_ask, ?der, rd__law_ask ds L Q E' h⟩, m, F.kp⟩
  case der =>
    exact (pdss_one (pds_try (n := "e") (i := 2) (ok := okE) rfl rfl rfl sc.nd rfl rfl (test_tup3 (nm_cls N.ModelError) (nm_cls N.Missing) (nm_cls N.Ended)) (fun nm h => I.caught nm h) (fun H1 W1 pn xe hW1 po => (pdss_one (pds_ret (pd_tup (pda_cons pd_str (pda_cons (pd_callX (c__law_call.F.mono (by decide)) hr c__law_call.kp c__law_call.m hW1 (pda_cons (pdv 0) (pda_cons (pdv 1) pda_nil))) pda_nil))))))
      (fun a pn => (pdss_one (pds_ret (pd_callW (w__law_told.F.mono (by decide)) (room_mark hr) w__law_told.kp w__law_told.m (pda_cons (pdv 2) pda_nil)))))))
theorem sc__law_refusals : FnScope ["bag", "way", "many", "args", "at", "wrong", "handed", "k", "one"] ["bag", "way"] (defScope s__law_refusals) := ⟨rfl, rfl, rfl, by decide +kernel, rfl, by decide +kernel, by decide +kernel⟩
theorem ok__law_refusals {P : Program} {w : World} {K : PySem.W.Frag} {mg : Str → Option Value} {base : Heap} {f : Addr} {fd : FuncData} {f__law_draw f__law_right f__law_of f__law_like f__law_ask f__law_dress f__law_wrong : Addr} (F : FunD K "_law_refusals" "_law_refusals" (defArgs s__law_refusals) (defBody s__law_refusals) (defScope s__law_refusals) [] [] f fd) (m : mg "_law_refusals" = some (.ref f)) (G : Glb mg) (C : Cst mg) (c__law_draw : CalP P w K mg base "_law_draw" 1 sp__law_draw f__law_draw) (c__law_right : CalP P w K mg base "_law_right" 3 sp__law_right f__law_right) (c__law_of : CalP P w K mg base "_law_of" 2 sp__law_of f__law_of) (c__law_like : CalP P w K mg base "_law_like" 5 sp__law_like f__law_like) (c__law_ask : CalP P w K mg base "_law_ask" 6 sp__law_ask f__law_ask) (c__law_dress : CalP P w K mg base "_law_dress" 3 sp__law_dress f__law_dress) (c__law_wrong : CalP P w K mg base "_law_wrong" 3 sp__law_wrong f__law_wrong) : CalP P w K mg base "_law_refusals" 7 sp__law_refusals f := by
  have sc := sc__law_refusals
  refine ⟨fnL_mk (N := ["bag", "way", "many", "args", "at", "wrong", "handed", "k", "one"]) (ps := ["bag", "way"]) F (fun _ _ _ _ _ _ us hl => match us, hl with | [_, _], _ => rfl) sc__law_refusals len__law_refusals fun cdv A outer s H E ds L Q E' hr h => ⟨d__law_refusals, ?der, rd__law_refusals ds L Q E' h⟩, m, F.kp⟩
  case der =>
    exact (pdss_cons (pds_set (i := 2) sc.nd (pd_if (pdt_lt (pdv 1) pd_int) pd_int (pd_if (pdt_lt (pdv 1) pd_int) pd_int (pd_add pd_int (pd_call (c__law_draw.F.mono (by decide)) hr c__law_draw.kp c__law_draw.m pass0 xrel0 (pda_cons (pdv 0) (pda_cons pd_int pda_nil)))))))
      (pdss_cons (pds_setLcR (i := 3) (j := 7) rfl sc.nd G.range (pda_cons (pdv 2) pda_nil) (show blkC ["bag", "way", "many", "args", "at", "wrong", "handed", "k", "one"] (defScope s__law_refusals) _ _ = true by decide +kernel) (fun _ _ _ _ _ => pdts_nil) (fun _ _ _ _ _ => (pd_call (c__law_right.F.mono (by decide)) hr c__law_right.kp c__law_right.m pass0 xrel0 (pda_cons (pdv 0) pda_nil))) (sw_true rfl rfl rfl (by decide +kernel)) (hg := fun _ _ _ _ _ => pg_name (i := 7) sc.nd rfl (Or.inl rfl)))
      (pdss_cons (pds_if (pdt_eq hr.units (pdv 1) pd_int)
      (pdss_one (pds_asg (pd_call (c__law_draw.F.mono (by decide)) hr c__law_draw.kp c__law_draw.m pass0 xrel0 (pda_cons (pdv 0) (pda_cons pd_int pda_nil))) (pdg_sub (pdv 3) pd_int)))
      pdss_nil)
      (pdss_cons (pds_set (i := 4) sc.nd (pd_call (c__law_draw.F.mono (by decide)) hr c__law_draw.kp c__law_draw.m pass0 xrel0 (pda_cons (pdv 0) (pda_cons (pdv 2) pda_nil))))
      (pdss_cons (pds_if (PDW.pt (pdw_and (pdt_eq hr.units (pdv 1) pd_int) (pdw_and1 (pdt_eq hr.units (pdv 4) pd_int))))
      (pdss_cons (pds_asg (pd_call (c__law_of.F.mono (by decide)) hr c__law_of.kp c__law_of.m pass0 xrel0 (pda_cons (pdv 0) (pda_cons (pd_lst (pda_cons pd_bl (pda_cons pd_bl (pda_cons pd_non (pda_cons pd_negc (pda_cons pd_str (pda_cons (pd_tup (pda_cons pd_int (pda_cons pd_int pda_nil))) (pda_cons (pd_lst (pda_cons pd_int pda_nil)) (pda_cons pd_negc pda_nil))))))))) pda_nil))) (pdg_sub (pdv 3) pd_int))
      (pdss_one (pds_ret (pd_call (c__law_like.F.mono (by decide)) hr c__law_like.kp c__law_like.m pass0 xrel0 (pda_cons (pd_call (c__law_ask.F.mono (by decide)) hr c__law_ask.kp c__law_ask.m pass0 xrel0 (pda_cons (pdv 1) (pda_cons (pd_lst (pda_cons (pd_call (c__law_dress.F.mono (by decide)) hr c__law_dress.kp c__law_dress.m pass0 xrel0 (pda_cons (pdv 0) (pda_cons (pd_ix (pdv 3) pd_int) pda_nil))) (pda_cons (pd_ix (pdv 3) pd_int) pda_nil))) pda_nil))) (pda_cons (pd_tup (pda_cons pd_str (pda_cons (pd_ix (pdv 3) pd_int) pda_nil))) pda_nil))))))
      pdss_nil)
      (pdss_cons (pds_set (i := 5) sc.nd (pd_call (c__law_wrong.F.mono (by decide)) hr c__law_wrong.kp c__law_wrong.m pass0 xrel0 (pda_cons (pdv 0) pda_nil)))
      (pdss_cons (pds_if (PDW.pt (pdw_and (pdt_eq hr.units (pdv 1) pd_int) (pdw_and (pdt_eq hr.units (pdv 4) pd_int) (pdw_and1 (pdt_eq hr.units (pd_call (c__law_draw.F.mono (by decide)) hr c__law_draw.kp c__law_draw.m pass0 xrel0 (pda_cons (pdv 0) (pda_cons pd_int pda_nil))) pd_int)))))
      (pdss_one (pds_set (i := 5) sc.nd (pd_call (c__law_of.F.mono (by decide)) hr c__law_of.kp c__law_of.m pass0 xrel0 (pda_cons (pdv 0) (pda_cons (pd_lst (pda_cons pd_int (pda_cons (pd_tup (pda_cons pd_int (pda_cons pd_int pda_nil))) (pda_cons (pd_tup (pda_cons pd_int (pda_cons pd_int pda_nil))) pda_nil)))) pda_nil)))))
      pdss_nil)
      (pdss_cons (pds_set (i := 6) sc.nd (pd_if (pdt_ne hr.units (pdv 1) pd_int) (pd_lcL (j := 8) rfl sc.nd (pdv 3) (show blkC ["bag", "way", "many", "args", "at", "wrong", "handed", "k", "one"] (defScope s__law_refusals) _ _ = true by decide +kernel) (fun _ _ _ _ _ => pdts_nil) (fun _ _ _ _ _ => (pd_call (c__law_dress.F.mono (by decide)) hr c__law_dress.kp c__law_dress.m pass0 xrel0 (pda_cons (pdv 0) (pda_cons (pdv 8) pda_nil)))) (hg := fun _ _ _ _ _ => pg_name (i := 8) sc.nd rfl (Or.inl rfl))) (pd_lst (pda_cons (pd_call (c__law_dress.F.mono (by decide)) hr c__law_dress.kp c__law_dress.m pass0 xrel0 (pda_cons (pdv 0) (pda_cons (pd_ix (pdv 3) pd_int) pda_nil))) (pda_cons (pd_ix (pdv 3) pd_int) pda_nil)))))
      (pdss_cons (pds_asg (pdv 5) (pdg_sub (pdv 6) (pdv 4)))
      (pdss_cons (pds_if (PDW.pt (pdw_and (pdt_lt (pd_add (pdv 4) pd_int) (pdv 2)) (pdw_and1 (pdt_eq hr.units (pd_call (c__law_draw.F.mono (by decide)) hr c__law_draw.kp c__law_draw.m pass0 xrel0 (pda_cons (pdv 0) (pda_cons pd_int pda_nil))) pd_int))))
      (pdss_one (pds_asg (pd_if (pdt_ne hr.units (pdv 1) pd_int) (pd_call (c__law_wrong.F.mono (by decide)) hr c__law_wrong.kp c__law_wrong.m pass0 xrel0 (pda_cons (pdv 0) pda_nil)) (pd_call (c__law_of.F.mono (by decide)) hr c__law_of.kp c__law_of.m pass0 xrel0 (pda_cons (pdv 0) (pda_cons (pd_lst (pda_cons pd_bl (pda_cons pd_non (pda_cons pd_negc pda_nil)))) pda_nil)))) (pdg_sub (pdv 6) (pd_add (pdv 4) pd_int))))
      pdss_nil)
      (pdss_one (pds_ret (pd_call (c__law_like.F.mono (by decide)) hr c__law_like.kp c__law_like.m pass0 xrel0 (pda_cons (pd_call (c__law_ask.F.mono (by decide)) hr c__law_ask.kp c__law_ask.m pass0 xrel0 (pda_cons (pdv 1) (pda_cons (pdv 6) pda_nil))) (pda_cons (pd_tup (pda_cons pd_str (pda_cons (pdv 5) pda_nil))) pda_nil)))))))))))))))
theorem sc__law_texts : FnScope ["bag", "figures", "text", "value"] ["bag"] (defScope s__law_texts) := ⟨rfl, rfl, rfl, by decide +kernel, rfl, by decide +kernel, by decide +kernel⟩
theorem ok__law_texts {P : Program} {w : World} {K : PySem.W.Frag} {mg : Str → Option Value} {base : Heap} {f : Addr} {fd : FuncData} {f__law_draw f__law_of f__law_like f__law_ask : Addr} (F : FunD K "_law_texts" "_law_texts" (defArgs s__law_texts) (defBody s__law_texts) (defScope s__law_texts) [] [] f fd) (m : mg "_law_texts" = some (.ref f)) (G : Glb mg) (C : Cst mg) (c__law_draw : CalP P w K mg base "_law_draw" 1 sp__law_draw f__law_draw) (c__law_of : CalP P w K mg base "_law_of" 2 sp__law_of f__law_of) (c__law_like : CalP P w K mg base "_law_like" 5 sp__law_like f__law_like) (c__law_ask : CalP P w K mg base "_law_ask" 6 sp__law_ask f__law_ask) : CalP P w K mg base "_law_texts" 7 sp__law_texts f := by
  have sc := sc__law_texts
  refine ⟨fnL_mk (N := ["bag", "figures", "text", "value"]) (ps := ["bag"]) F (fun _ _ _ _ _ _ us hl => match us, hl with | [_], _ => rfl) sc__law_texts len__law_texts fun cdv A outer s H E ds L Q E' hr h => ⟨d__law_texts, ?der, rd__law_texts ds L Q E' h⟩, m, F.kp⟩
  case der =>
    exact (pdss_cons (pds_set (i := 1) sc.nd (pd_add (pd_add pd_str (pd_smul pd_str pd_int)) (pd_cty call_str_int sim_str rfl G.str (by decide +kernel) (pda_cons (pd_add pd_int (pd_call (c__law_draw.F.mono (by decide)) hr c__law_draw.kp c__law_draw.m pass0 xrel0 (pda_cons (pdv 0) (pda_cons pd_int pda_nil)))) pda_nil))))
      (pdss_cons (pds_set (i := 2) sc.nd (pd_call (c__law_of.F.mono (by decide)) hr c__law_of.kp c__law_of.m pass0 xrel0 (pda_cons (pdv 0) (pda_cons (pd_lst (pda_cons pd_str (pda_cons pd_str (pda_cons pd_str (pda_cons pd_str (pda_cons pd_str (pda_cons pd_str (pda_cons pd_str (pda_cons pd_str (pda_cons pd_str (pda_cons pd_str (pda_cons pd_str (pda_cons pd_str (pda_cons pd_str (pda_cons pd_str (pda_cons pd_str (pda_cons pd_str (pda_cons pd_str (pda_cons (pdv 1) (pda_cons (pd_add pd_str (pdv 1)) pda_nil)))))))))))))))))))) pda_nil))))
      (pdss_cons (pds_set (i := 3) sc.nd (pd_call (c__law_of.F.mono (by decide)) hr c__law_of.kp c__law_of.m pass0 xrel0 (pda_cons (pdv 0) (pda_cons (pd_lst (pda_cons (pdv 2) (pda_cons (pdv 2) (pda_cons (pdv 2) (pda_cons pd_non (pda_cons pd_int (pda_cons (pd_tup (pda_cons pd_int (pda_cons pd_int pda_nil))) (pda_cons pd_bl (pda_cons (pd_lst (pda_cons pd_str pda_nil)) pda_nil))))))))) pda_nil))))
      (pdss_one (pds_ret (pd_and (pd_call (c__law_like.F.mono (by decide)) hr c__law_like.kp c__law_like.m pass0 xrel0 (pda_cons (pd_call (c__law_ask.F.mono (by decide)) hr c__law_ask.kp c__law_ask.m pass0 xrel0 (pda_cons pd_int (pda_cons (pd_lst (pda_cons (pdv 3) pda_nil)) pda_nil))) (pda_cons (pd_tup (pda_cons pd_str (pda_cons (pdv 3) pda_nil))) pda_nil))) (pd_one (pd_call (c__law_like.F.mono (by decide)) hr c__law_like.kp c__law_like.m pass0 xrel0 (pda_cons (pd_call (c__law_ask.F.mono (by decide)) hr c__law_ask.kp c__law_ask.m pass0 xrel0 (pda_cons pd_int (pda_cons (pd_lst (pda_cons (pd_slice (pdv 1) pdo_none (pdo_some pd_int)) pda_nil)) pda_nil))) (pda_cons (pd_tup (pda_cons pd_str (pda_cons (pd_tup (pda_cons (pd_cty call_intU sim_int rfl G.int (by decide +kernel) (pda_cons (pd_slice (pdv 1) pdo_none (pdo_some pd_int)) pda_nil)) (pda_cons pd_int pda_nil))) pda_nil))) pda_nil))))))))))
theorem sc__law_common : FnScope ["numbers", "found", "one"] ["numbers"] (defScope s__law_common) := ⟨rfl, rfl, rfl, by decide +kernel, rfl, by decide +kernel, by decide +kernel⟩
theorem ok__law_common {P : Program} {w : World} {K : PySem.W.Frag} {mg : Str → Option Value} {base : Heap} {f : Addr} {fd : FuncData} {f__law_gcd : Addr} (F : FunD K "_law_common" "_law_common" (defArgs s__law_common) (defBody s__law_common) (defScope s__law_common) [] [] f fd) (m : mg "_law_common" = some (.ref f)) (G : Glb mg) (C : Cst mg) (c__law_gcd : CalP P w K mg base "_law_gcd" 1 sp__law_gcd f__law_gcd) : CalP P w K mg base "_law_common" 2 sp__law_common f := by
  have sc := sc__law_common
  refine ⟨fnL_mk (N := ["numbers", "found", "one"]) (ps := ["numbers"]) F (fun _ _ _ _ _ _ us hl => match us, hl with | [_], _ => rfl) sc__law_common len__law_common fun cdv A outer s H E ds L Q E' hr h => ⟨d__law_common, ?der, rd__law_common ds L Q E' h⟩, m, F.kp⟩
  case der =>
    exact (pdss_cons (pds_set (i := 1) sc.nd pd_int)
      (pdss_cons (pds_forL PassesOwn.never rfl (pdv 0) (pdg_name (i := 2) sc.nd) (pdss_one (pds_set (i := 1) sc.nd (pd_div (pd_mul (pdv 1) (pdv 2)) (pd_call (c__law_gcd.F.mono (by decide)) hr c__law_gcd.kp c__law_gcd.m pass0 xrel0 (pda_cons (pdv 1) (pda_cons (pdv 2) pda_nil)))))))
      (pdss_one (pds_ret (pdv 1)))))
theorem sc_law : FnScope ["script", "bag", "one", "first", "second", "small", "n", "row", "due", "told", "other", "by", "numbers", "way", "k"] ["script"] (defScope s_law) := ⟨rfl, rfl, rfl, by decide +kernel, rfl, by decide +kernel, by decide +kernel⟩
theorem ok_law {P : Program} {w : World} {K : PySem.W.Frag} {mg : Str → Option Value} {base : Heap} {f : Addr} {fd : FuncData} {f__law_bag f__law_right f__law_draw f__law_of f__law_like f__law_power f_raised f__law_dress f_times f__law_pair f_quotient f__law_mixed f__law_common f_least_common f__law_refusals f__law_texts : Addr} (F : FunD K "law" "law" (defArgs s_law) (defBody s_law) (defScope s_law) [] [] f fd) (m : mg "law" = some (.ref f)) (G : Glb mg) (C : Cst mg) (c__law_bag : CalP P w K mg base "_law_bag" 1 sp__law_bag f__law_bag) (c__law_right : CalP P w K mg base "_law_right" 3 sp__law_right f__law_right) (c__law_draw : CalP P w K mg base "_law_draw" 1 sp__law_draw f__law_draw) (c__law_of : CalP P w K mg base "_law_of" 2 sp__law_of f__law_of) (c__law_like : CalP P w K mg base "_law_like" 5 sp__law_like f__law_like) (c__law_power : CalP P w K mg base "_law_power" 3 sp__law_power f__law_power) (c_raised : CalX P w K mg base "raised" 4 sp_raised f_raised) (c__law_dress : CalP P w K mg base "_law_dress" 3 sp__law_dress f__law_dress) (c_times : CalX P w K mg base "times" 4 sp_times f_times) (c__law_pair : CalP P w K mg base "_law_pair" 2 sp__law_pair f__law_pair) (c_quotient : CalX P w K mg base "quotient" 4 sp_quotient f_quotient) (c__law_mixed : CalP P w K mg base "_law_mixed" 2 sp__law_mixed f__law_mixed) (c__law_common : CalP P w K mg base "_law_common" 2 sp__law_common f__law_common) (c_least_common : CalP P w K mg base "least_common" 1 sp_least_common f_least_common) (c__law_refusals : CalP P w K mg base "_law_refusals" 7 sp__law_refusals f__law_refusals) (c__law_texts : CalP P w K mg base "_law_texts" 7 sp__law_texts f__law_texts) : FnOk P w K mg base CX0 8 f fd ["script"] (spL K sp_law) := by
  have sc := sc_law
  refine fnOk_mk (N := ["script", "bag", "one", "first", "second", "small", "n", "row", "due", "told", "other", "by", "numbers", "way", "k"]) (ps := ["script"]) F sc_law len_law fun cdv A outer s H E ds L Q E' hr h => ⟨d_law, ?der, rd_law ds L Q E' h⟩
  case der =>
    exact (pdss_cons (pds_set (i := 1) sc.nd (pd_call (c__law_bag.F.mono (by decide)) hr c__law_bag.kp c__law_bag.m pass0 xrel0 (pda_cons (pdv 0) pda_nil)))
      (pdss_cons (pds_set (i := 2) sc.nd (pd_call (c__law_right.F.mono (by decide)) hr c__law_right.kp c__law_right.m pass0 xrel0 (pda_cons (pdv 1) pda_nil)))
      (pdss_cons (pds_set (i := 3) sc.nd (pd_call (c__law_draw.F.mono (by decide)) hr c__law_draw.kp c__law_draw.m pass0 xrel0 (pda_cons (pdv 1) (pda_cons pd_int pda_nil))))
      (pdss_cons (pds_set (i := 4) sc.nd (pd_call (c__law_draw.F.mono (by decide)) hr c__law_draw.kp c__law_draw.m pass0 xrel0 (pda_cons (pdv 1) (pda_cons (pd_sub pd_int (pdv 3)) pda_nil))))
      (pdss_cons (pds_set (i := 5) sc.nd (pd_call (c__law_of.F.mono (by decide)) hr c__law_of.kp c__law_of.m pass0 xrel0 (pda_cons (pdv 1) (pda_cons (pd_lst (pda_cons pd_int (pda_cons pd_int (pda_cons pd_int (pda_cons pd_int (pda_cons pd_int pda_nil)))))) pda_nil))))
      (pdss_cons (pds_forT PassesOwn.never rfl (pd_tup (pda_cons (pdv 3) (pda_cons (pdv 4) (pda_cons (pd_add (pdv 3) (pdv 4)) pda_nil)))) (pdg_name (i := 6) sc.nd) (pdss_one (pds_if (pdt_not (pdt_val (pd_call (c__law_like.F.mono (by decide)) hr c__law_like.kp c__law_like.m pass0 xrel0 (pda_cons (pd_call (c_raised.F.mono (by decide)) hr c_raised.kp c_raised.m passL xrel0 (pda_cons (pd_call (c__law_dress.F.mono (by decide)) hr c__law_dress.kp c__law_dress.m pass0 xrel0 (pda_cons (pdv 1) (pda_cons (pdv 2) pda_nil))) (pda_cons (pdv 6) pda_nil))) (pda_cons (pd_call (c__law_power.F.mono (by decide)) hr c__law_power.kp c__law_power.m pass0 xrel0 (pda_cons (pdv 2) (pda_cons (pdv 6) pda_nil))) pda_nil)))))
      (pdss_one (pds_ret pd_bl))
      pdss_nil)))
      (pdss_cons (pds_if (pdt_not (pdt_val (pd_call (c__law_like.F.mono (by decide)) hr c__law_like.kp c__law_like.m pass0 xrel0 (pda_cons (pd_call (c_times.F.mono (by decide)) hr c_times.kp c_times.m passL xrel0 (pda_cons (pd_call (c_raised.F.mono (by decide)) hr c_raised.kp c_raised.m passL xrel0 (pda_cons (pdv 2) (pda_cons (pdv 3) pda_nil))) (pda_cons (pd_call (c_raised.F.mono (by decide)) hr c_raised.kp c_raised.m passL xrel0 (pda_cons (pdv 2) (pda_cons (pdv 4) pda_nil))) pda_nil))) (pda_cons (pd_call (c__law_power.F.mono (by decide)) hr c__law_power.kp c__law_power.m pass0 xrel0 (pda_cons (pdv 2) (pda_cons (pd_add (pdv 3) (pdv 4)) pda_nil))) pda_nil)))))
      (pdss_one (pds_ret pd_bl))
      pdss_nil)
      (pdss_cons (pds_if (pdt_not (pdt_val (pd_call (c__law_like.F.mono (by decide)) hr c__law_like.kp c__law_like.m pass0 xrel0 (pda_cons (pd_call (c_raised.F.mono (by decide)) hr c_raised.kp c_raised.m passL xrel0 (pda_cons (pd_call (c_raised.F.mono (by decide)) hr c_raised.kp c_raised.m passL xrel0 (pda_cons (pdv 2) (pda_cons (pd_mod (pd_cty call_intU sim_int rfl G.int (by decide +kernel) (pda_cons (pdv 4) pda_nil)) pd_int) pda_nil))) (pda_cons (pdv 5) pda_nil))) (pda_cons (pd_call (c__law_power.F.mono (by decide)) hr c__law_power.kp c__law_power.m pass0 xrel0 (pda_cons (pdv 2) (pda_cons (pd_mul (pd_mod (pd_cty call_intU sim_int rfl G.int (by decide +kernel) (pda_cons (pdv 4) pda_nil)) pd_int) (pdv 5)) pda_nil))) pda_nil)))))
      (pdss_one (pds_ret pd_bl))
      pdss_nil)
      (pdss_cons (pds_if (PDW.pt (pdw_or (pdt_not (pdt_val (pd_call (c__law_like.F.mono (by decide)) hr c__law_like.kp c__law_like.m pass0 xrel0 (pda_cons (pd_call (c_raised.F.mono (by decide)) hr c_raised.kp c_raised.m passL xrel0 (pda_cons pd_int (pda_cons pd_int pda_nil))) (pda_cons (pd_tup (pda_cons pd_int (pda_cons pd_int pda_nil))) pda_nil))))) (pdw_or1 (pdt_not (pdt_val (pd_call (c__law_like.F.mono (by decide)) hr c__law_like.kp c__law_like.m pass0 xrel0 (pda_cons (pd_call (c_raised.F.mono (by decide)) hr c_raised.kp c_raised.m passL xrel0 (pda_cons (pd_tup (pda_cons pd_int (pda_cons pd_int pda_nil))) (pda_cons (pd_add pd_int (pdv 3)) pda_nil))) (pda_cons (pd_tup (pda_cons pd_int (pda_cons pd_int pda_nil))) pda_nil))))))))
      (pdss_one (pds_ret pd_bl))
      pdss_nil)
      (pdss_cons (pds_setLcR (i := 7) (j := 14) rfl sc.nd G.range (pda_cons (pd_add pd_int (pd_call (c__law_draw.F.mono (by decide)) hr c__law_draw.kp c__law_draw.m pass0 xrel0 (pda_cons (pdv 1) (pda_cons pd_int pda_nil)))) pda_nil) (show blkC ["script", "bag", "one", "first", "second", "small", "n", "row", "due", "told", "other", "by", "numbers", "way", "k"] (defScope s_law) _ _ = true by decide +kernel) (fun _ _ _ _ _ => pdts_nil) (fun _ _ _ _ _ => (pd_call (c__law_right.F.mono (by decide)) hr c__law_right.kp c__law_right.m pass0 xrel0 (pda_cons (pdv 1) pda_nil))) (sw_true rfl rfl rfl (by decide +kernel)) (hg := fun _ _ _ _ _ => pg_name (i := 14) sc.nd rfl (Or.inl rfl)))
      (pdss_cons (pds_set (i := 8) sc.nd (pd_ix (pdv 7) pd_int))
      (pdss_cons (pds_set (i := 9) sc.nd (pd_call (c__law_dress.F.mono (by decide)) hr c__law_dress.kp c__law_dress.m pass0 xrel0 (pda_cons (pdv 1) (pda_cons (pd_ix (pdv 7) pd_int) pda_nil))))
      (pdss_cons (pds_forL PassesOwn.never rfl (pd_slice (pdv 7) (pdo_some pd_int) pdo_none) (pdg_name (i := 10) sc.nd) (pdss_cons (pds_set (i := 11) sc.nd (pd_if (pdt_gt (pd_ix (pdv 10) pd_int) pd_int) (pdv 10) (pd_tup (pda_cons pd_int (pda_cons pd_int pda_nil)))))
      (pdss_cons (pds_set (i := 8) sc.nd (pd_call (c__law_pair.F.mono (by decide)) hr c__law_pair.kp c__law_pair.m pass0 xrel0 (pda_cons (pd_mul (pd_ix (pdv 8) pd_int) (pd_ix (pdv 11) pd_int)) (pda_cons (pd_mul (pd_ix (pdv 8) pd_int) (pd_ix (pdv 11) pd_int)) pda_nil))))
      (pdss_cons (pds_set (i := 9) sc.nd (pd_call (c_quotient.F.mono (by decide)) hr c_quotient.kp c_quotient.m passL xrel0 (pda_cons (pdv 9) (pda_cons (pd_call (c__law_dress.F.mono (by decide)) hr c__law_dress.kp c__law_dress.m pass0 xrel0 (pda_cons (pdv 1) (pda_cons (pdv 11) pda_nil))) pda_nil))))
      (pdss_one (pds_if (pdt_not (pdt_val (pd_call (c__law_like.F.mono (by decide)) hr c__law_like.kp c__law_like.m pass0 xrel0 (pda_cons (pdv 9) (pda_cons (pdv 8) pda_nil)))))
      (pdss_one (pds_ret pd_bl))
      pdss_nil))))))
      (pdss_cons (pds_setLcL (i := 12) (j := 10) rfl sc.nd (pdv 7) (show blkC ["script", "bag", "one", "first", "second", "small", "n", "row", "due", "told", "other", "by", "numbers", "way", "k"] (defScope s_law) _ _ = true by decide +kernel) (fun _ _ _ _ _ => pdts_nil) (fun _ _ _ _ _ => (pd_ix (pdv 10) pd_int)) (sw_true rfl rfl rfl (by decide +kernel)) (hg := fun _ _ _ _ _ => pg_name (i := 10) sc.nd rfl (Or.inl rfl)))
      (pdss_cons (pds_if (pdt_eq hr.units (pd_call (c__law_draw.F.mono (by decide)) hr c__law_draw.kp c__law_draw.m pass0 xrel0 (pda_cons (pdv 1) (pda_cons pd_int pda_nil))) pd_int)
      (pdss_one (pds_set (i := 12) sc.nd (pd_add (pdv 12) (pd_slice (pd_lst (pda_cons (pd_ix (pdv 12) pd_int) (pda_cons (pd_mul (pd_ix (pdv 12) pd_int) pd_int) (pda_cons pd_int (pda_cons pd_int pda_nil))))) pdo_none (pdo_some (pd_add pd_int (pd_call (c__law_draw.F.mono (by decide)) hr c__law_draw.kp c__law_draw.m pass0 xrel0 (pda_cons (pdv 1) (pda_cons pd_int pda_nil)))))))))
      pdss_nil)
      (pdss_cons (pds_set (i := 12) sc.nd (pd_slice (pd_call (c__law_mixed.F.mono (by decide)) hr c__law_mixed.kp c__law_mixed.m pass0 xrel0 (pda_cons (pdv 1) (pda_cons (pdv 12) pda_nil))) pdo_none (pdo_some pd_int)))
      (pdss_cons (pds_set (i := 8) sc.nd (pd_call (c__law_common.F.mono (by decide)) hr c__law_common.kp c__law_common.m pass0 xrel0 (pda_cons (pdv 12) pda_nil)))
      (pdss_cons (pds_if (PDW.pt (pdw_or (pdt_not (pdt_val (pd_call (c__law_like.F.mono (by decide)) hr c__law_like.kp c__law_like.m pass0 xrel0 (pda_cons (pd_call (c_least_common.F.mono (by decide)) hr c_least_common.kp c_least_common.m pass0 xrel0 (pda_cons (pd_cty call_list_of sim_list rfl G.list (by decide +kernel) (pda_cons (pdv 12) pda_nil)) pda_nil)) (pda_cons (pdv 8) pda_nil))))) (pdw_or1 (pdt_not (pdt_val (pd_call (c__law_like.F.mono (by decide)) hr c__law_like.kp c__law_like.m pass0 xrel0 (pda_cons (pd_call (c_least_common.F.mono (by decide)) hr c_least_common.kp c_least_common.m pass0 xrel0 (pda_cons (pd_tupleOf G.tuple (pdv 12)) pda_nil)) (pda_cons (pdv 8) pda_nil))))))))
      (pdss_one (pds_ret pd_bl))
      pdss_nil)
      (pdss_cons (pds_if (PDW.pt (pdw_or (pdt_not (pdt_val (pd_call (c__law_like.F.mono (by decide)) hr c__law_like.kp c__law_like.m pass0 xrel0 (pda_cons (pd_call (c_least_common.F.mono (by decide)) hr c_least_common.kp c_least_common.m pass0 xrel0 (pda_cons (pd_lst pda_nil) pda_nil)) (pda_cons pd_int pda_nil))))) (pdw_or1 (pdt_not (pdt_val (pd_call (c__law_like.F.mono (by decide)) hr c__law_like.kp c__law_like.m pass0 xrel0 (pda_cons (pd_call (c_least_common.F.mono (by decide)) hr c_least_common.kp c_least_common.m pass0 xrel0 (pda_cons (pd_lst (pda_cons pd_int (pda_cons pd_int (pda_cons pd_int (pda_cons pd_int pda_nil))))) pda_nil)) (pda_cons pd_int pda_nil))))))))
      (pdss_one (pds_ret pd_bl))
      pdss_nil)
      (pdss_cons (pds_forT PassesOwn.never rfl (pd_tup (pda_cons pd_int (pda_cons pd_int (pda_cons pd_int (pda_cons pd_int (pda_cons pd_int (pda_cons pd_int (pda_cons pd_int (pda_cons pd_int pda_nil))))))))) (pdg_name (i := 13) sc.nd) (pdss_one (pds_if (pdt_not (pdt_val (pd_call (c__law_refusals.F.mono (by decide)) hr c__law_refusals.kp c__law_refusals.m pass0 xrel0 (pda_cons (pdv 1) (pda_cons (pdv 13) pda_nil)))))
      (pdss_one (pds_ret pd_bl))
      pdss_nil)))
      (pdss_one (pds_ret (pd_call (c__law_texts.F.mono (by decide)) hr c__law_texts.kp c__law_texts.m pass0 xrel0 (pda_cons (pdv 1) pda_nil))))))))))))))))))))))))
theorem step__law_like {P : Program} {w : World} {K : PySem.W.Frag} {mg : Str → Option Value} {base : Heap} {f : Addr} {fd : FuncData} {j : Nat} {sp0 sp1 : DSp} (F : FunD K "_law_like" "_law_like" (defArgs s__law_like) (defBody s__law_like) (defScope s__law_like) [] [] f fd) (m : mg "_law_like" = some (.ref f)) (G : Glb mg)
    (c__law_like : CalP P w K mg base "_law_like" j sp0 f) (len : ∀ ds L Q E, sp1 ds L Q E → ds.length = 2) (rd : ∀ ds L Q E, sp1 ds L Q E → d__law_like sp0 { nx := fun _ L' => Q .non L', rt := Q } (dstart ["told", "due", "k", "key"] ds) L) : CalP P w K mg base "_law_like" (j + 1) sp1 f := by
  have sc := sc__law_like
  refine ⟨fnL_mk (N := ["told", "due", "k", "key"]) (ps := ["told", "due"]) F (fun _ _ _ _ _ _ us hl => match us, hl with | [_, _], _ => rfl) sc__law_like len fun cdv A outer s H E ds L Q E' hr h => ⟨d__law_like sp0, ?der, rd ds L Q E' h⟩, m, F.kp⟩
  case der =>
    exact (pdss_cons (pds_if (PDW.pt (pdw_or (pdt_val (pd_cb call_isi sim_isi rfl G.isinstance (by decide +kernel) (pda_cons (pdv 1) (pda_cons (pd_bltn rfl G.list boot_list) pda_nil)))) (pdw_or1 (pdt_val (pd_cb call_isi sim_isi rfl G.isinstance (by decide +kernel) (pda_cons (pdv 1) (pda_cons (pd_bltn rfl G.tuple boot_tuple) pda_nil)))))))
      (pdss_cons (pds_if (PDW.pt (pdw_or (pdt_ne hr.units (pd_cb call_isi sim_isi rfl G.isinstance (by decide +kernel) (pda_cons (pdv 0) (pda_cons (pd_bltn rfl G.list boot_list) pda_nil))) (pd_cb call_isi sim_isi rfl G.isinstance (by decide +kernel) (pda_cons (pdv 1) (pda_cons (pd_bltn rfl G.list boot_list) pda_nil)))) (pdw_or1 (pdt_ne hr.units (pd_cb call_isi sim_isi rfl G.isinstance (by decide +kernel) (pda_cons (pdv 0) (pda_cons (pd_bltn rfl G.tuple boot_tuple) pda_nil))) (pd_cb call_isi sim_isi rfl G.isinstance (by decide +kernel) (pda_cons (pdv 1) (pda_cons (pd_bltn rfl G.tuple boot_tuple) pda_nil)))))))
      (pdss_one (pds_ret pd_bl))
      pdss_nil)
      (pdss_cons (pds_if (pdt_ne hr.units (pd_cb call_len sim_len rfl G.len (by decide +kernel) (pda_cons (pdv 0) pda_nil)) (pd_cb call_len sim_len rfl G.len (by decide +kernel) (pda_cons (pdv 1) pda_nil)))
      (pdss_one (pds_ret pd_bl))
      pdss_nil)
      (pdss_one (pds_ret (pd_eq hr.units (pd_lcR (j := 2) rfl sc.nd G.range (pda_cons (pd_cb call_len sim_len rfl G.len (by decide +kernel) (pda_cons (pdv 1) pda_nil)) pda_nil) (show blkC ["told", "due", "k", "key"] (defScope s__law_like) _ _ = true by decide +kernel) (fun _ _ _ _ _ => (pdts_one (pdt_not (pdt_val (pd_call c__law_like.F hr c__law_like.kp c__law_like.m pass0 xrel0 (pda_cons (pd_ix (pdv 0) (pdv 2)) (pda_cons (pd_ix (pdv 1) (pdv 2)) pda_nil))))))) (fun _ _ _ _ _ => (pdv 2)) (hg := fun _ _ _ _ _ => pg_name (i := 2) sc.nd rfl (Or.inl rfl))) (pd_lst pda_nil))))))
      pdss_nil)
      (pdss_cons (pds_if (pdt_val (pd_cb call_isi sim_isi rfl G.isinstance (by decide +kernel) (pda_cons (pdv 1) (pda_cons (pd_bltn rfl G.dict boot_dict) pda_nil))))
      (pdss_cons (pds_if (PDW.pt (pdw_or (pdt_not (pdt_val (pd_cb call_isi sim_isi rfl G.isinstance (by decide +kernel) (pda_cons (pdv 0) (pda_cons (pd_bltn rfl G.dict boot_dict) pda_nil))))) (pdw_or1 (pdt_ne hr.units (pd_cb call_lenK sim_lenK rfl G.len (by decide +kernel) (pda_cons (pdv 0) pda_nil)) (pd_cb call_lenK sim_lenK rfl G.len (by decide +kernel) (pda_cons (pdv 1) pda_nil))))))
      (pdss_one (pds_ret pd_bl))
      pdss_nil)
      (pdss_one (pds_ret (pd_eq hr.units (pd_lcK0 (i := 1) (j := 3) rfl sc.nd (ok := (show blkC ["told", "due", "k", "key"] (defScope s__law_like) _ _ = true by decide +kernel)) (hg := fun _ _ _ _ _ => pg_name (i := 3) sc.nd rfl (Or.inl rfl))) (pd_lst pda_nil)))))
      pdss_nil)
      (pdss_cons (pds_if (pdt_isN (pdv 1) pd_non)
      (pdss_one (pds_ret (pd_isN (pdv 0) pd_non)))
      pdss_nil)
      (pdss_cons (pds_if (PDW.pt (pdw_or (pdt_ne hr.units (pd_cb call_isi sim_isi rfl G.isinstance (by decide +kernel) (pda_cons (pdv 0) (pda_cons (pd_bltn rfl G.bool boot_bool) pda_nil))) (pd_cb call_isi sim_isi rfl G.isinstance (by decide +kernel) (pda_cons (pdv 1) (pda_cons (pd_bltn rfl G.bool boot_bool) pda_nil)))) (pdw_or1 (pdt_ne hr.units (pd_cb call_isi sim_isi rfl G.isinstance (by decide +kernel) (pda_cons (pdv 0) (pda_cons (pd_bltn rfl G.int boot_int) pda_nil))) (pd_cb call_isi sim_isi rfl G.isinstance (by decide +kernel) (pda_cons (pdv 1) (pda_cons (pd_bltn rfl G.int boot_int) pda_nil)))))))
      (pdss_one (pds_ret pd_bl))
      pdss_nil)
      (pdss_one (pds_ret (pd_and (pd_eq hr.units (pd_cb call_isi sim_isi rfl G.isinstance (by decide +kernel) (pda_cons (pdv 0) (pda_cons (pd_bltn rfl G.str boot_str) pda_nil))) (pd_cb call_isi sim_isi rfl G.isinstance (by decide +kernel) (pda_cons (pdv 1) (pda_cons (pd_bltn rfl G.str boot_str) pda_nil)))) (pd_one (pd_eq hr.units (pdv 0) (pdv 1))))))))))
end K01
namespace K01
open PySem PySem.Spec PyProof.Rows L2 DV FR ExS
theorem txt_BadFraction : HeO.TxtOk PySem.Challenge.pw_howevermany_k01_fractions_raised_and_sha t_BadFraction "BadFraction.__init__" (defArgs i_BadFraction) (defScope i_BadFraction).names where
  top := by decide +kernel
  first := by decide +kernel
  bnd := fun _ _ _ _ _ _ us hl => match us, hl with | [_, _], _ => rfl
  scs := by decide +kernel
  scc := by decide +kernel
  scl := by decide +kernel
  cel := by decide +kernel
  mth := fun _ _ _ _ => ⟨_, rfl⟩
  sw0 := fun _ _ _ _ => rfl
  sw1 := fun _ _ _ _ => rfl
  sw2 := fun _ _ _ _ y hy => by
    have e : t_BadFraction.fl = [(t_BadFraction.fl.head!)] := by rfl
    rw [e] at hy
    rw [List.mem_singleton.mp hy]
    rfl
  nd := by decide +kernel
  few := by decide +kernel
  dbg := by decide +kernel
theorem txt_BadNumber : HeO.TxtOk PySem.Challenge.pw_howevermany_k01_fractions_raised_and_sha t_BadNumber "BadNumber.__init__" (defArgs i_BadNumber) (defScope i_BadNumber).names where
  top := by decide +kernel
  first := by decide +kernel
  bnd := fun _ _ _ _ _ _ us hl => match us, hl with | [_, _], _ => rfl
  scs := by decide +kernel
  scc := by decide +kernel
  scl := by decide +kernel
  cel := by decide +kernel
  mth := fun _ _ _ _ => ⟨_, rfl⟩
  sw0 := fun _ _ _ _ => rfl
  sw1 := fun _ _ _ _ => rfl
  sw2 := fun _ _ _ _ y hy => by
    have e : t_BadNumber.fl = [(t_BadNumber.fl.head!)] := by rfl
    rw [e] at hy
    rw [List.mem_singleton.mp hy]
    rfl
  nd := by decide +kernel
  few := by decide +kernel
  dbg := by decide +kernel
theorem facts {P : Program} {w : World} {K : PySem.W.Frag} {h : Heap} {mg : Str → Option Value} {f : Addr} (hP : P = PySem.Challenge.pw_howevermany_k01_fractions_raised_and_sha) (X : K.In h) (N : h.Ns mainGlobals mg) (hfa : mg ("law" : Str) = some (.ref f)) (c : HeO.SaysY fa fn [] ins ex w K) :
    ∃ fd : FuncData, (∀ (s : Shared) (v : Value), BindsTo s fd ⟨[v], []⟩ [("script", v)]) ∧ ∀ base : Heap, K.In base → base.Ns mainGlobals mg → FnOk P w K mg base CX0 8 f fd ["script"] (spL K sp_law) := by
  subst hP
  obtain ⟨m1, mr⟩ := He.ba c.more
  obtain ⟨m2, mr⟩ := He.ba mr
  obtain ⟨m3, m4⟩ := He.ba mr
  obtain ⟨mx0, moBadNumber⟩ := He.ba m3
  have G : Glb mg := ⟨He.free_ok X N (c.t.d.fact 0 (f := .free "abs") rfl), He.free_ok X N (c.t.d.fact 1 (f := .free "all") rfl), He.free_ok X N (c.t.d.fact 2 (f := .free "bool") rfl), He.free_ok X N (c.t.d.fact 3 (f := .free "dict") rfl), He.free_ok X N (c.t.d.fact 4 (f := .free "int") rfl), He.free_ok X N (c.t.d.fact 5 (f := .free "isinstance") rfl), He.free_ok X N (c.t.d.fact 6 (f := .free "len") rfl), He.free_ok X N (c.t.d.fact 7 (f := .free "list") rfl), He.free_ok X N (c.t.d.fact 8 (f := .free "max") rfl), He.free_ok X N (c.t.d.fact 9 (f := .free "min") rfl), He.free_ok X N (c.t.d.fact 10 (f := .free "range") rfl), He.free_ok X N (c.t.d.fact 11 (f := .free "str") rfl), He.free_ok X N (c.t.d.fact 12 (f := .free "tuple") rfl), PySem.W.mg_of X N (He.eqO_ok m1), PySem.W.mg_of X N (He.eqO_ok m2)⟩
  have C : Cst mg := ⟨He.int_ok X N (c.t.d.fact 13 (f := .int "MOST_DIGITS" 60) rfl)⟩
  have NN : Cls K mg := ⟨He.glo_ok X N (c.t.d.fact 15 (f := .glo "BadFraction") rfl), He.glo_ok X N (c.t.d.fact 16 (f := .glo "BadNumber") rfl), He.glo_ok X N (c.t.d.fact 17 (f := .glo "ModelError") rfl), He.glo_ok X N (c.t.d.fact 18 (f := .glo "Missing") rfl), He.glo_ok X N (c.t.d.fact 19 (f := .glo "Ended") rfl), He.glo_ok X N (c.t.d.fact 20 (f := .glo "NoSuch") rfl), He.glo_ok X N (c.t.d.fact 21 (f := .glo "BadName") rfl), He.glo_ok X N (c.t.d.fact 22 (f := .glo "BadGround") rfl), He.glo_ok X N (c.t.d.fact 23 (f := .glo "BadBook") rfl), He.glo_ok X N (c.t.d.fact 24 (f := .glo "BadRecipe") rfl), He.glo_ok X N (c.t.d.fact 25 (f := .glo "BadLook") rfl), He.glo_ok X N (c.t.d.fact 26 (f := .glo "BadTerm") rfl), He.glo_ok X N (c.t.d.fact 27 (f := .glo "BadQuestion") rfl), He.glo_ok X N (c.t.d.fact 28 (f := .glo "BadReading") rfl), He.glo_ok X N (c.t.d.fact 29 (f := .glo "BadScript") rfl), He.glo_ok X N (c.t.d.fact 30 (f := .glo "NotBare") rfl), He.glo_ok X N (c.t.d.fact 31 (f := .glo "NotOne") rfl), He.glo_ok X N (c.t.d.fact 32 (f := .glo "NotScorer") rfl), He.glo_ok X N (c.t.d.fact 33 (f := .glo "NoChance") rfl), He.glo_ok X N (c.t.d.fact 34 (f := .glo "Unlike") rfl), He.glo_ok X N (c.t.d.fact 35 (f := .glo "TooFew") rfl), He.glo_ok X N (c.t.d.fact 36 (f := .glo "TooMany") rfl)⟩
  have XX : Rsn PySem.Challenge.pw_howevermany_k01_fractions_raised_and_sha K mg (HeO.fI K "BadFraction") (HeO.fI K "BadNumber") := ⟨He.free_ok X N (c.t.d.fact 14 (f := .free "super") rfl), HeO.own_of (d := in_BadFraction) (file := fileS) (c.init 0 rfl) mx0 (by decide +kernel) txt_BadFraction, HeO.own_of (d := in_BadNumber) (file := fileS) (c.init 1 rfl) moBadNumber (by decide +kernel) txt_BadNumber⟩
  have hit : ∀ nm, okE nm → nm ∈ hits := fun nm h => by rcases h with rfl | rfl <;> decide +kernel
  have key : ∀ nm, okE nm → L2.XfC K (He.ga K nm) ∧ L2.ExcC K (He.ga K nm) ∧ PySem.W.findIn K (.ref (He.ga K nm)) "code" = some none ∧ PySem.W.findIn K (.ref (He.ga K nm)) "value" = some none ∧ PySem.W.exmAny K (.ref (He.ga K nm)) [.ref (He.ga K "ModelError"), .ref (He.ga K "Missing"), .ref (He.ga K "Ended")] = some true ∧ ∀ c ∈ clsL, PySem.W.kitOne K (.ref (He.ga K nm)) (.ref (He.ga K c)) = some (decide (c = "ModelError" ∨ c = nm)) := fun nm h => by
    obtain ⟨k1, kr⟩ := He.ba (List.all_eq_true.mp m4 nm (hit nm h))
    obtain ⟨k2, kr⟩ := He.ba kr
    obtain ⟨k3, kr⟩ := He.ba kr
    obtain ⟨k4, kr⟩ := He.ba kr
    obtain ⟨k5, k6⟩ := He.ba kr
    exact ⟨L2.xfB_ok k1, HeO.excB_ok k2, He.eqO_ok k3, He.eqO_ok k4, of_decide_eq_true k5, fun c hc => of_decide_eq_true (List.all_eq_true.mp k6 c hc)⟩
  have II : Ins1 K := ⟨fun nm h => ⟨(key nm h).1, (key nm h).2.2.1⟩, fun nm h => ⟨(key nm h).1, (key nm h).2.2.2.1⟩, fun nm c b h => (by
    unfold ibT at h
    split at h
    · rename_i hh
      cases h
      exact ⟨(key nm hh.1).2.1, (key nm hh.1).2.2.2.2.2 c hh.2⟩
    · cases h) , fun nm h => (key nm h).2.2.2.2.1⟩
  obtain ⟨fd_is_number, F_is_number⟩ := c.t.d.def_ 0 (d := D_is_number) rfl
  have m_is_number := He.glo_ok X N (c.t.d.fact 37 (f := .glo "is_number") rfl)
  obtain ⟨fd_is_fraction, F_is_fraction⟩ := c.t.d.def_ 1 (d := D_is_fraction) rfl
  have m_is_fraction := He.glo_ok X N (c.t.d.fact 38 (f := .glo "is_fraction") rfl)
  obtain ⟨fd__check, F__check⟩ := c.t.d.def_ 2 (d := D__check) rfl
  have m__check := He.glo_ok X N (c.t.d.fact 39 (f := .glo "_check") rfl)
  obtain ⟨fd__reduced, F__reduced⟩ := c.t.d.def_ 3 (d := D__reduced) rfl
  have m__reduced := He.glo_ok X N (c.t.d.fact 40 (f := .glo "_reduced") rfl)
  obtain ⟨fd__is_count, F__is_count⟩ := c.t.d.def_ 4 (d := D__is_count) rfl
  have m__is_count := He.glo_ok X N (c.t.d.fact 41 (f := .glo "_is_count") rfl)
  obtain ⟨fd_fraction_or_none, F_fraction_or_none⟩ := c.t.d.def_ 5 (d := D_fraction_or_none) rfl
  have m_fraction_or_none := He.glo_ok X N (c.t.d.fact 42 (f := .glo "fraction_or_none") rfl)
  obtain ⟨fd_read_fraction, F_read_fraction⟩ := c.t.d.def_ 6 (d := D_read_fraction) rfl
  have m_read_fraction := He.glo_ok X N (c.t.d.fact 43 (f := .glo "read_fraction") rfl)
  obtain ⟨fd_lowest, F_lowest⟩ := c.t.d.def_ 7 (d := D_lowest) rfl
  have m_lowest := He.glo_ok X N (c.t.d.fact 44 (f := .glo "lowest") rfl)
  obtain ⟨fd_fraction_text, F_fraction_text⟩ := c.t.d.def_ 8 (d := D_fraction_text) rfl
  have m_fraction_text := He.glo_ok X N (c.t.d.fact 45 (f := .glo "fraction_text") rfl)
  obtain ⟨fd_plus, F_plus⟩ := c.t.d.def_ 9 (d := D_plus) rfl
  have m_plus := He.glo_ok X N (c.t.d.fact 46 (f := .glo "plus") rfl)
  obtain ⟨fd_times, F_times⟩ := c.t.d.def_ 10 (d := D_times) rfl
  have m_times := He.glo_ok X N (c.t.d.fact 47 (f := .glo "times") rfl)
  obtain ⟨fd_quotient, F_quotient⟩ := c.t.d.def_ 11 (d := D_quotient) rfl
  have m_quotient := He.glo_ok X N (c.t.d.fact 48 (f := .glo "quotient") rfl)
  obtain ⟨fd_apart, F_apart⟩ := c.t.d.def_ 12 (d := D_apart) rfl
  have m_apart := He.glo_ok X N (c.t.d.fact 49 (f := .glo "apart") rfl)
  obtain ⟨fd__power, F__power⟩ := c.t.d.def_ 13 (d := D__power) rfl
  have m__power := He.glo_ok X N (c.t.d.fact 50 (f := .glo "_power") rfl)
  obtain ⟨fd_raised, F_raised⟩ := c.t.d.def_ 14 (d := D_raised) rfl
  have m_raised := He.glo_ok X N (c.t.d.fact 51 (f := .glo "raised") rfl)
  obtain ⟨fd_is_less, F_is_less⟩ := c.t.d.def_ 15 (d := D_is_less) rfl
  have m_is_less := He.glo_ok X N (c.t.d.fact 52 (f := .glo "is_less") rfl)
  obtain ⟨fd_least_common, F_least_common⟩ := c.t.d.def_ 16 (d := D_least_common) rfl
  have m_least_common := He.glo_ok X N (c.t.d.fact 53 (f := .glo "least_common") rfl)
  obtain ⟨fd__law_bag, F__law_bag⟩ := c.t.d.def_ 17 (d := D__law_bag) rfl
  have m__law_bag := He.glo_ok X N (c.t.d.fact 54 (f := .glo "_law_bag") rfl)
  obtain ⟨fd__law_draw, F__law_draw⟩ := c.t.d.def_ 18 (d := D__law_draw) rfl
  have m__law_draw := He.glo_ok X N (c.t.d.fact 55 (f := .glo "_law_draw") rfl)
  obtain ⟨fd__law_of, F__law_of⟩ := c.t.d.def_ 19 (d := D__law_of) rfl
  have m__law_of := He.glo_ok X N (c.t.d.fact 56 (f := .glo "_law_of") rfl)
  obtain ⟨fd__law_mixed, F__law_mixed⟩ := c.t.d.def_ 20 (d := D__law_mixed) rfl
  have m__law_mixed := He.glo_ok X N (c.t.d.fact 57 (f := .glo "_law_mixed") rfl)
  obtain ⟨fd__law_like, F__law_like⟩ := c.t.d.def_ 21 (d := D__law_like) rfl
  have m__law_like := He.glo_ok X N (c.t.d.fact 58 (f := .glo "_law_like") rfl)
  obtain ⟨fd__law_gcd, F__law_gcd⟩ := c.t.d.def_ 22 (d := D__law_gcd) rfl
  have m__law_gcd := He.glo_ok X N (c.t.d.fact 59 (f := .glo "_law_gcd") rfl)
  obtain ⟨fd__law_pair, F__law_pair⟩ := c.t.d.def_ 23 (d := D__law_pair) rfl
  have m__law_pair := He.glo_ok X N (c.t.d.fact 60 (f := .glo "_law_pair") rfl)
  obtain ⟨fd__law_power, F__law_power⟩ := c.t.d.def_ 24 (d := D__law_power) rfl
  have m__law_power := He.glo_ok X N (c.t.d.fact 61 (f := .glo "_law_power") rfl)
  obtain ⟨fd__law_dress, F__law_dress⟩ := c.t.d.def_ 25 (d := D__law_dress) rfl
  have m__law_dress := He.glo_ok X N (c.t.d.fact 62 (f := .glo "_law_dress") rfl)
  obtain ⟨fd__law_called, F__law_called⟩ := c.t.d.def_ 26 (d := D__law_called) rfl
  have m__law_called := He.glo_ok X N (c.t.d.fact 63 (f := .glo "_law_called") rfl)
  obtain ⟨fd__law_told, F__law_told⟩ := c.t.d.def_ 27 (d := D__law_told) rfl
  have m__law_told := He.glo_ok X N (c.t.d.fact 64 (f := .glo "_law_told") rfl)
  obtain ⟨fd__law_right, F__law_right⟩ := c.t.d.def_ 28 (d := D__law_right) rfl
  have m__law_right := He.glo_ok X N (c.t.d.fact 65 (f := .glo "_law_right") rfl)
  obtain ⟨fd__law_wrong, F__law_wrong⟩ := c.t.d.def_ 29 (d := D__law_wrong) rfl
  have m__law_wrong := He.glo_ok X N (c.t.d.fact 66 (f := .glo "_law_wrong") rfl)
  obtain ⟨fd__law_call, F__law_call⟩ := c.t.d.def_ 30 (d := D__law_call) rfl
  have m__law_call := He.glo_ok X N (c.t.d.fact 67 (f := .glo "_law_call") rfl)
  obtain ⟨fd__law_ask, F__law_ask⟩ := c.t.d.def_ 31 (d := D__law_ask) rfl
  have m__law_ask := He.glo_ok X N (c.t.d.fact 68 (f := .glo "_law_ask") rfl)
  obtain ⟨fd__law_refusals, F__law_refusals⟩ := c.t.d.def_ 32 (d := D__law_refusals) rfl
  have m__law_refusals := He.glo_ok X N (c.t.d.fact 69 (f := .glo "_law_refusals") rfl)
  obtain ⟨fd__law_texts, F__law_texts⟩ := c.t.d.def_ 33 (d := D__law_texts) rfl
  have m__law_texts := He.glo_ok X N (c.t.d.fact 70 (f := .glo "_law_texts") rfl)
  obtain ⟨fd__law_common, F__law_common⟩ := c.t.d.def_ 34 (d := D__law_common) rfl
  have m__law_common := He.glo_ok X N (c.t.d.fact 71 (f := .glo "_law_common") rfl)
  obtain ⟨fd_law, F_law⟩ := c.t.d.def_ 35 (d := D_law) rfl
  have e := hfa.symm.trans (He.glo_ok X N (c.t.d.fact 72 (f := .glo "law") rfl))
  cases e
  have b := FunD.bindsA (ps := ["script"]) F_law fun _ _ _ _ _ _ us hl => match us, hl with | [_], _ => rfl
  refine ⟨fd_law, fun s v => b s [v] rfl, fun base _ _ => ?_⟩
  have c_is_number := ok_is_number (P := PySem.Challenge.pw_howevermany_k01_fractions_raised_and_sha) (w := w) (base := base) F_is_number m_is_number G C
  have c__reduced := ok__reduced (P := PySem.Challenge.pw_howevermany_k01_fractions_raised_and_sha) (w := w) (base := base) F__reduced m__reduced G C
  have c__is_count := ok__is_count (P := PySem.Challenge.pw_howevermany_k01_fractions_raised_and_sha) (w := w) (base := base) F__is_count m__is_count G C
  have c__power := ok__power (P := PySem.Challenge.pw_howevermany_k01_fractions_raised_and_sha) (w := w) (base := base) F__power m__power G C
  have c_least_common := ok_least_common (P := PySem.Challenge.pw_howevermany_k01_fractions_raised_and_sha) (w := w) (base := base) F_least_common m_least_common G C
  have c__law_bag := ok__law_bag (P := PySem.Challenge.pw_howevermany_k01_fractions_raised_and_sha) (w := w) (base := base) F__law_bag m__law_bag G C
  have c__law_draw := ok__law_draw (P := PySem.Challenge.pw_howevermany_k01_fractions_raised_and_sha) (w := w) (base := base) F__law_draw m__law_draw G C
  have w__law_like := ok_w__law_like (P := PySem.Challenge.pw_howevermany_k01_fractions_raised_and_sha) (w := w) (base := base) F__law_like m__law_like G C
  have c__law_gcd := ok__law_gcd (P := PySem.Challenge.pw_howevermany_k01_fractions_raised_and_sha) (w := w) (base := base) F__law_gcd m__law_gcd G C
  have w__law_called := ok_w__law_called (P := PySem.Challenge.pw_howevermany_k01_fractions_raised_and_sha) (w := w) (base := base) F__law_called m__law_called G C NN II
  have c_is_fraction := ok_is_fraction (P := PySem.Challenge.pw_howevermany_k01_fractions_raised_and_sha) (w := w) (base := base) F_is_fraction m_is_fraction G C c_is_number
  have c_fraction_or_none := ok_fraction_or_none (P := PySem.Challenge.pw_howevermany_k01_fractions_raised_and_sha) (w := w) (base := base) F_fraction_or_none m_fraction_or_none G C c__is_count c__reduced
  have c__law_of := ok__law_of (P := PySem.Challenge.pw_howevermany_k01_fractions_raised_and_sha) (w := w) (base := base) F__law_of m__law_of G C c__law_draw
  have c__law_mixed := ok__law_mixed (P := PySem.Challenge.pw_howevermany_k01_fractions_raised_and_sha) (w := w) (base := base) F__law_mixed m__law_mixed G C c__law_draw
  have c__law_pair := ok__law_pair (P := PySem.Challenge.pw_howevermany_k01_fractions_raised_and_sha) (w := w) (base := base) F__law_pair m__law_pair G C c__law_gcd
  have w__law_told := ok_w__law_told (P := PySem.Challenge.pw_howevermany_k01_fractions_raised_and_sha) (w := w) (base := base) F__law_told m__law_told G C II w__law_called w__law_like
  have c__law_common := ok__law_common (P := PySem.Challenge.pw_howevermany_k01_fractions_raised_and_sha) (w := w) (base := base) F__law_common m__law_common G C c__law_gcd
  have c__check := ok__check (P := PySem.Challenge.pw_howevermany_k01_fractions_raised_and_sha) (w := w) (base := base) F__check m__check G C NN XX c_is_fraction
  have c_read_fraction := ok_read_fraction (P := PySem.Challenge.pw_howevermany_k01_fractions_raised_and_sha) (w := w) (base := base) F_read_fraction m_read_fraction G C NN XX c_fraction_or_none
  have c__law_power := ok__law_power (P := PySem.Challenge.pw_howevermany_k01_fractions_raised_and_sha) (w := w) (base := base) F__law_power m__law_power G C c__law_pair
  have c__law_dress := ok__law_dress (P := PySem.Challenge.pw_howevermany_k01_fractions_raised_and_sha) (w := w) (base := base) F__law_dress m__law_dress G C c__law_of c__law_draw
  have c__law_right := ok__law_right (P := PySem.Challenge.pw_howevermany_k01_fractions_raised_and_sha) (w := w) (base := base) F__law_right m__law_right G C c__law_draw c__law_of c__law_pair
  have c__law_wrong := ok__law_wrong (P := PySem.Challenge.pw_howevermany_k01_fractions_raised_and_sha) (w := w) (base := base) F__law_wrong m__law_wrong G C c__law_draw c__law_of
  have c_lowest := ok_lowest (P := PySem.Challenge.pw_howevermany_k01_fractions_raised_and_sha) (w := w) (base := base) F_lowest m_lowest G C c__check c__reduced
  have c_fraction_text := ok_fraction_text (P := PySem.Challenge.pw_howevermany_k01_fractions_raised_and_sha) (w := w) (base := base) F_fraction_text m_fraction_text G C c__check c__reduced
  have c_plus := ok_plus (P := PySem.Challenge.pw_howevermany_k01_fractions_raised_and_sha) (w := w) (base := base) F_plus m_plus G C c__check c__reduced
  have c_times := ok_times (P := PySem.Challenge.pw_howevermany_k01_fractions_raised_and_sha) (w := w) (base := base) F_times m_times G C c__check c__reduced
  have c_quotient := ok_quotient (P := PySem.Challenge.pw_howevermany_k01_fractions_raised_and_sha) (w := w) (base := base) F_quotient m_quotient G C NN XX c__check c__reduced
  have c_apart := ok_apart (P := PySem.Challenge.pw_howevermany_k01_fractions_raised_and_sha) (w := w) (base := base) F_apart m_apart G C c__check c__reduced
  have c_raised := ok_raised (P := PySem.Challenge.pw_howevermany_k01_fractions_raised_and_sha) (w := w) (base := base) F_raised m_raised G C NN XX c__check c_is_number c__reduced c__power
  have c_is_less := ok_is_less (P := PySem.Challenge.pw_howevermany_k01_fractions_raised_and_sha) (w := w) (base := base) F_is_less m_is_less G C c__check c__reduced
  have l0 : CalP PySem.Challenge.pw_howevermany_k01_fractions_raised_and_sha w K mg base "_law_like" 0 (fun _ _ _ _ => False) _ := ⟨fun A outer s H us vs Q E hr e r hs => (by obtain ⟨_, _, _, _, _, _, z, _⟩ := hs; exact z.elim), m__law_like, F__law_like.kp⟩
  have l1 := step__law_like (sp1 := spl 0) F__law_like m__law_like G l0 (len__law_like 0) rd__law_like0
  have l2 := step__law_like (sp1 := spl 1) F__law_like m__law_like G l1 (len__law_like 1) (rd__law_like 0)
  have l3 := step__law_like (sp1 := spl 2) F__law_like m__law_like G l2 (len__law_like 2) (rd__law_like 1)
  have l4 := step__law_like (sp1 := spl 3) F__law_like m__law_like G l3 (len__law_like 3) (rd__law_like 2)
  have c__law_like := step__law_like (sp1 := sp__law_like) F__law_like m__law_like G l4 (len__law_like 4) (rd__law_like 3)
  have c__law_call := ok__law_call (P := PySem.Challenge.pw_howevermany_k01_fractions_raised_and_sha) (w := w) (base := base) F__law_call m__law_call G C c_lowest c_fraction_text c_raised c_quotient c_apart c_is_less c_read_fraction c_plus c_times
  have c__law_ask := ok__law_ask (P := PySem.Challenge.pw_howevermany_k01_fractions_raised_and_sha) (w := w) (base := base) F__law_ask m__law_ask G C NN II c__law_call w__law_told
  have c__law_refusals := ok__law_refusals (P := PySem.Challenge.pw_howevermany_k01_fractions_raised_and_sha) (w := w) (base := base) F__law_refusals m__law_refusals G C c__law_draw c__law_right c__law_of c__law_like c__law_ask c__law_dress c__law_wrong
  have c__law_texts := ok__law_texts (P := PySem.Challenge.pw_howevermany_k01_fractions_raised_and_sha) (w := w) (base := base) F__law_texts m__law_texts G C c__law_draw c__law_of c__law_like c__law_ask
  exact ok_law F_law hfa G C c__law_bag c__law_right c__law_draw c__law_of c__law_like c__law_power c_raised c__law_dress c_times c__law_pair c_quotient c__law_mixed c__law_common c_least_common c__law_refusals c__law_texts
end K01
open PySem PySem.W PySem.Calls PyProof.Rows
theorem PySem.Challenge.cw_howevermany_k01_fractions_raised_and_sha_holds : PySem.Challenge.rw_howevermany_k01_fractions_raised_and_sha.Holds := by
  w_on; o_law
  refine HandSHeadRun.head_imp (r := OpenLaw.row PySem.Challenge.rw_howevermany_k01_fractions_raised_and_sha) (q := view (OpenLaw.row PySem.Challenge.rw_howevermany_k01_fractions_raised_and_sha).prog [0, 65]) (H := K01.hk) (ob := K01.ob) (M := 20000) (loose := K01.loose) (d := HandSHeadRun.topDef (OpenLaw.row PySem.Challenge.rw_howevermany_k01_fractions_raised_and_sha).prog 65) (kwd := []) K01.ob_eq
    K01.run (by kernel_rfl) (by kernel_rfl) (by kernel_rfl) (by rfl) (by first | assumption | decide +kernel) (by decide +kernel) ⟨rfl, rfl, rfl, rfl, rfl, by decide +kernel⟩ ?hw ?hc
  case hw => w_witness2
  case hc =>
    refine L2.walk_ofE (l := PySem.Challenge.rw_howevermany_k01_fractions_raised_and_sha) (n := 63) (k := 8) (x := "script") (CX := L2.CX0) rfl (by decide) (by kernel_rfl) ⟨rfl, by decide, by decide⟩ ?F (fun _ _ _ _ z => z)
    intro w mg fa h Y N hmg0
    obtain ⟨K, KX, c⟩ := Y
    have hmg : mg ("law" : PySem.Str) = some (.ref fa) := by
      have e : (HandSHeadRun.topDef (OpenLaw.row PySem.Challenge.rw_howevermany_k01_fractions_raised_and_sha).prog 65).name = ("law" : PySem.Str) := by kernel_rfl
      rw [← e]
      exact hmg0
    obtain ⟨fd, hb, hF⟩ := K01.facts (P := (PySem.Challenge.rw_howevermany_k01_fractions_raised_and_sha).prog) (w := w) rfl KX N hmg c
    exact ⟨K, fd, DV.spL K K01.sp_law, KX, hb, fun H a ns hl hO hS => DV.law_start hS hO ⟨ns, rfl, hl, fun _ => rfl⟩, hF⟩
