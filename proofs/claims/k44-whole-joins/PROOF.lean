import PyProof.Rows.All
import Wide.All
import OpenK.AllK
import Wide.FinOn
import KE.KStateDown
import KE.KSuper
import Lean
import HandS.ForMost
import HandS.Defaults
import HandS.MakeKwOnly
import HandS.Exc
import HandS.Property
import HandS.ClsMeth
import HandS.Star
import HandS.IsInst
import HandS.FStr
import HandS.Flow
import HandS.Style
import HandS.Nested
import HandS.Zip
import HandS.Evl
import HandS.Head0
import HandS.Head1
import HandS.Head2
import HandS.HeadHook1
import HandS.HeadHook2
import HandS.SlotsOwn
import HandS.TryOnly
import HandS.HeadEnd
import PySem.Challenge.RW_numbertypes_k44_whole_joins_of_realms
set_option Elab.async false
set_option linter.all false
set_option maxRecDepth 100000
set_option maxHeartbeats 4000000
namespace J
open PySem PySem.Spec PyProof.Rows L2
def topS (i : Nat) : Stmt := PySem.Challenge.pw_numbertypes_k44_whole_joins_of_realms.main.body.getD i (.Pass ⟨0, 0, 0, 0⟩)
/-! ### addresses -/
/-- the function in a property's, a staticmethod's record -/
def recAt (K : PySem.W.Frag) (p : Addr) (T : String) : Addr := match PySem.W.recIn K p T with
  | some (.ref g :: _) => g
  | _ => 0
def keyIn (k : Value) (ns : List PySem.Str) : Bool := ns.any fun n => k.isStr n
def nsVals (g : Addr → Option Obj) (ns : Addr) (names : List PySem.Str) : List Addr := match g ns with
  | some ⟨_, _, .dict es _, _⟩ => es.toList.flatMap fun e => if keyIn e.key names then He.refV e.val else []
  | _ => []
def packF (g : Addr → Option Obj) (a : Addr) : List Addr := match g a with
  | some o => a :: He.refsD o
  | none => []
def packM (g : Addr → Option Obj) (a : Addr) : List Addr := match g a with
  | some ⟨_, _, .func _, _⟩ => packF g a
  | some o => a :: (He.refsD o).flatMap (packF g)
  | none => []

def needG0 : List PySem.Str := ["is_int", "in_bounds", "gcd", "common", "multiple", "divides", "radical", "stripped", "inverse_known", "inverses_of_both", "based", "shallow"]
def needG1 : List PySem.Str := ["checked", "settled", "joined", "lies_within", "_law_bag", "_law_draw", "_law_pick", "_law_same", "_law_gcd", "_law_lcm", "_law_strip", "_law_radical"]
def needG2 : List PySem.Str := ["_law_product", "_law_ring", "_law_plain", "_law_any", "_law_fits_part", "_law_commuting", "_law_settled", "_law_told", "_law_realm", "_law_drawn_realm", "_law_settle", "_law_samples"]
def needG3 : List PySem.Str := ["law", "Fractions", "Whole", "Rests", "Sets", "Matrices", "Triangles", "Polynomials", "Duals", "Roots", "Words", "Pairs"]
def needG4 : List PySem.Str := ["Quaternions", "Swapped", "Twists", "Ring", "Realm", "MOST"]
def needG : List PySem.Str := needG0 ++ needG1 ++ needG2 ++ needG3 ++ needG4
def needM0 : List PySem.Str := ["__init__", "ones", "swaps", "squares", "depth", "text", "inverse", "everywhere", "nowhere", "__contains__", "__and__", "__or__"]
def needM1 : List PySem.Str := ["__eq__", "within"]
def needM : List PySem.Str := needM0 ++ needM1
def fieldsL0 : List PySem.Str := ["_key", "_text", "_numbers", "_inverses", "_depth", "base", "_modulus", "_many", "_rows", "_base", "_square", "_letters"]
def fieldsL1 : List PySem.Str := ["_one", "_other", "_part"]
def fieldsL : List PySem.Str := fieldsL0 ++ fieldsL1
def packC (g : Addr → Option Obj) (a : Addr) : List Addr := match g a with
  | some ⟨_, _, .cls cd, _⟩ => a :: cd.ns :: (nsVals g cd.ns needM).flatMap (packM g)
  | some _ => packF g a
  | none => []
def asM (g : Addr → Option Obj) : List Addr := mainGlobals :: cStatics :: (nsVals g mainGlobals needG).flatMap (packC g)
/-! ### a def as it stands behind the top -/
structure Dd where
  at_ : PySem.W.Frag → Addr
  name : Str
  qual : Str
  params : Arguments
  body : List Stmt
  scope : Scope
  clo : List Str
  dfl : List V
  kwd : List (Str × V)
abbrev FnM : Type := Option (Str × Str × Arguments × FuncBody × Scope × Addr × List Str × Addr)
def fnM (K : PySem.W.Frag) (a : Addr) : FnM := match K.lookup a with
  | some ⟨_, _, .func fd, _⟩ => some (fd.name, fd.qualname, fd.params, fd.body, fd.scope, fd.globals, fd.closure.map (·.1), fd.builtins)
  | _ => none
def Dd.val (d : Dd) : FnM := some (d.name, d.qual, d.params, .stmts d.body, d.scope, mainGlobals, d.clo, builtinsNs)
def Dd.ok (K : PySem.W.Frag) (d : Dd) : Bool := PySem.W.keepIn K (.ref (d.at_ K)) && (match K.lookup (d.at_ K) with
  | some ⟨_, _, .func fd, _⟩ => PySem.W.codeIn K fd.code d.qual && (He.dflB K fd.defaults d.dfl && He.kwdB K fd.kwdefaults d.kwd)
  | _ => false)
structure FunG (K : PySem.W.Frag) (d : Dd) (f : Addr) (fd : FuncData) : Prop where
  ex : ∃ (oc : Value) (od : Option Addr) (cl : List (Str × Addr)) (dV kV doc pm : Value) (an : Option Addr) (cdv ct : Value) (osl : Array (Option Value)),
    fd = PySem.W.fnX d.name d.qual d.params d.body d.scope cl dV kV doc pm an cdv ct ∧ cl.map (·.1) = d.clo ∧ K.lookup f = some ⟨oc, od, .func fd, osl⟩ ∧ PySem.W.codeIn K cdv d.qual = true ∧ DflV K dV d.dfl ∧ KwdV K kV d.kwd
  kp : PySem.W.keepIn K (.ref f) = true
theorem Dd.funG {K : PySem.W.Frag} {d : Dd} (e : fnM K (d.at_ K) = d.val) (c : d.ok K = true) : ∃ fd, FunG K d (d.at_ K) fd := by
  obtain ⟨kp, c2⟩ := He.ba c
  unfold fnM at e
  cases q : K.lookup (d.at_ K) with
  | none =>
    rw [q] at c2
    cases c2
  | some o =>
    obtain ⟨oc, od, dt, osl⟩ := o
    rw [q] at c2 e
    cases dt with
    | func fd =>
      obtain ⟨n1, n2, n3, n4, n5, n6, n7, n8, n9, n10, n11, n12, n13, n14, n15⟩ := fd
      have e2 : (some (n1, n2, n3, n4, n5, n6, n7.map (·.1), n15) : FnM) = some (d.name, d.qual, d.params, .stmts d.body, d.scope, mainGlobals, d.clo, builtinsNs) := e
      simp only [Option.some.injEq, Prod.mk.injEq] at e2
      obtain ⟨h1, h2, h3, h4, h5, h6, h7, h8⟩ := e2
      subst h1 h2 h3 h4 h5 h6 h8
      have c3 : (PySem.W.codeIn K n13 d.qual && (He.dflB K n8 d.dfl && He.kwdB K n9 d.kwd)) = true := c2
      obtain ⟨k1, k2⟩ := He.ba c3
      obtain ⟨k3, k4⟩ := He.ba k2
      exact ⟨_, ⟨oc, od, n7, n8, n9, n10, n11, n12, n13, n14, osl, rfl, h7, q, k1, He.dflB_ok k3, He.kwdB_ok k4⟩, kp⟩
    | _ => cases c2
/-- without captured cells -/
theorem FunG.funD {K : PySem.W.Frag} {d : Dd} {f : Addr} {fd : FuncData} (F : FunG K d f fd) (hc : d.clo = []) : FunD K d.name d.qual d.params d.body d.scope d.dfl d.kwd f fd := by
  obtain ⟨oc, od, cl, dV, kV, doc, pm, an, cdv, ct, osl, e, hcl, lk, hcd, hD, hK⟩ := F.ex
  have e0 : cl = [] := by
    rw [hc] at hcl
    exact List.map_eq_nil_iff.mp hcl
  subst e0
  exact ⟨⟨oc, od, dV, kV, doc, pm, an, cdv, ct, osl, e, lk, hcd, hD, hK⟩, F.kp⟩
/-! ### facts of classes -/
abbrev eqO := He.eqO
def tyB (K : PySem.W.Frag) (C : Addr) : Bool := eqO (PySem.W.findIn K (.ref C) "__class__") (some (some (.builtin "object.__class__"))) && (eqO (PySem.W.specialIn K (.builtin "object.__class__") "__get__") (some (some (.builtin "getset_descriptor.__get__"))) &&
  (decide (PySem.W.takesIn K (.builtin "object.__class__") = some true) && decide (PySem.W.mroIn K C (.type "object") = some true)))
structure TyC (K : PySem.W.Frag) (C : Addr) : Prop where
  ha : PySem.W.findIn K (.ref C) "__class__" = some (some (.builtin "object.__class__"))
  hn : PySem.W.specialIn K (.builtin "object.__class__") "__get__" = some (some (.builtin "getset_descriptor.__get__"))
  htk : PySem.W.takesIn K (.builtin "object.__class__") = some true
  hm : PySem.W.mroIn K C (.type "object") = some true
theorem tyC_of {K : PySem.W.Frag} {C : Addr} (h : tyB K C = true) : TyC K C := by
  obtain ⟨h1, h⟩ := He.ba h
  obtain ⟨h2, h⟩ := He.ba h
  obtain ⟨h3, h4⟩ := He.ba h
  exact ⟨He.eqO_ok h1, He.eqO_ok h2, of_decide_eq_true h3, of_decide_eq_true h4⟩
def propB (K : PySem.W.Frag) (C : Addr) (f : Str) (p : Addr) : Bool := eqO (PySem.W.findIn K (.ref C) f) (some (some (.ref p))) && (eqO (PySem.W.specialIn K (.ref p) "__get__") (some (some (.builtin "property.__get__"))) &&
  (decide (PySem.W.takesIn K (.ref p) = some true) && (match PySem.W.recIn K p "property" with
    | some (.ref _ :: _) => true
    | _ => false)))
theorem propB_ok {K : PySem.W.Frag} {C p : Addr} {f : Str} (h : propB K C f p = true) : PropOf K C f p (recAt K p "property") := by
  obtain ⟨h1, h⟩ := He.ba h
  obtain ⟨h2, h⟩ := He.ba h
  obtain ⟨h3, h4⟩ := He.ba h
  refine ⟨He.eqO_ok h1, He.eqO_ok h2, of_decide_eq_true h3, ?_⟩
  unfold recAt
  split at h4
  · rename_i g r e
    rw [e]
    exact ⟨r, rfl⟩
  · cases h4
def rclsB (K : PySem.W.Frag) (C : Addr) : Bool :=
  (PySem.W.plainGet K C Str.empty && (PySem.W.hasDictIn K C && (PySem.W.plainOver K C && eqO (PySem.W.findIn K (.ref C) "__setattr__") (some (some (.builtin "object.__setattr__")))))) &&
  ((fieldsL.all fun f => eqO (PySem.W.findIn K (.ref C) f) (some none)) &&
  (tyB K C && ((propB K C "ones" (He.ma K (He.ga K "Ring") "ones") && (propB K C "swaps" (He.ma K (He.ga K "Ring") "swaps") && (propB K C "squares" (He.ma K (He.ga K "Ring") "squares") && propB K C "depth" (He.ma K (He.ga K "Ring") "depth")))) &&
  ((eqO (PySem.W.findIn K (.ref C) "text") (some (some (.ref (He.ma K (He.ga K "Ring") "text")))) && (PySem.W.isFn K (.ref (He.ma K (He.ga K "Ring") "text")) && PySem.W.keepIn K (.ref (He.ma K (He.ga K "Ring") "text")))) &&
  decide (PySem.W.kitOne K (.ref C) (.ref (He.ga K "Ring")) = some true)))))
/-- what a class below Ring has -/
structure RCls (K : PySem.W.Frag) (C : Addr) : Prop where
  cls : Cls K C
  na : ∀ f ∈ fieldsL, NoAttr K C f
  ty : TyC K C
  p1 : PropOf K C "ones" (He.ma K (He.ga K "Ring") "ones") (recAt K (He.ma K (He.ga K "Ring") "ones") "property")
  p2 : PropOf K C "swaps" (He.ma K (He.ga K "Ring") "swaps") (recAt K (He.ma K (He.ga K "Ring") "swaps") "property")
  p3 : PropOf K C "squares" (He.ma K (He.ga K "Ring") "squares") (recAt K (He.ma K (He.ga K "Ring") "squares") "property")
  p4 : PropOf K C "depth" (He.ma K (He.ga K "Ring") "depth") (recAt K (He.ma K (He.ga K "Ring") "depth") "property")
  txt : Meth K C "text" (He.ma K (He.ga K "Ring") "text")
  isr : PySem.W.kitOne K (.ref C) (.ref (He.ga K "Ring")) = some true
theorem rcls_of {K : PySem.W.Frag} {C : Addr} (h : rclsB K C = true) : RCls K C := by
  obtain ⟨h0, h⟩ := He.ba h
  obtain ⟨c1, h0⟩ := He.ba h0
  obtain ⟨c2, h0⟩ := He.ba h0
  obtain ⟨c3, c4⟩ := He.ba h0
  obtain ⟨hf, h⟩ := He.ba h
  obtain ⟨ht, h⟩ := He.ba h
  obtain ⟨hp, h⟩ := He.ba h
  obtain ⟨p1, hp⟩ := He.ba hp
  obtain ⟨p2, hp⟩ := He.ba hp
  obtain ⟨p3, p4⟩ := He.ba hp
  obtain ⟨hx, hi⟩ := He.ba h
  obtain ⟨x1, hx⟩ := He.ba hx
  obtain ⟨x2, x3⟩ := He.ba hx
  exact ⟨⟨c1, c2, c3, He.eqO_ok c4⟩, fun f hm => He.eqO_ok (List.all_eq_true.mp hf f hm), tyC_of ht, propB_ok p1, propB_ok p2, propB_ok p3, propB_ok p4, ⟨He.eqO_ok x1, x2, x3⟩, of_decide_eq_true hi⟩
/-- super() in D's def at an instance of C finds the def at f -/
def supB (K : PySem.W.Frag) (C D f : Addr) : Bool := eqO (PySem.W.ks_superIn K C D "__init__") (some (some (.ref f))) && (decide (PySem.W.mroIn K C (.ref D) = some true) && (PySem.W.isClsIn K D && PySem.W.isClsIn K C))
structure Sup (K : PySem.W.Frag) (C D f : Addr) : Prop where
  fnd : PySem.W.ks_superIn K C D "__init__" = some (some (.ref f))
  mro : PySem.W.mroIn K C (.ref D) = some true
  cd : PySem.W.isClsIn K D = true
  cc : PySem.W.isClsIn K C = true
theorem sup_of {K : PySem.W.Frag} {C D f : Addr} (h : supB K C D f = true) : Sup K C D f := by
  obtain ⟨h1, h⟩ := He.ba h
  obtain ⟨h2, h⟩ := He.ba h
  obtain ⟨h3, h4⟩ := He.ba h
  exact ⟨He.eqO_ok h1, of_decide_eq_true h2, h3, h4⟩
def fileB (K : PySem.W.Frag) (cd : Value) : Bool := match cd with
  | .ref c => (match K.lookup c with
    | some ⟨_, _, .fields vs, _⟩ => (match vs[2]? with
      | some (Value.str z _) => ((PySem.Challenge.pw_numbertypes_k44_whole_joins_of_realms.main.file : Str) == z)
      | _ => false)
    | _ => false)
  | _ => false
/-- the def at f has captured __class__, a cell that holds D; its code's file is the program's -/
def cellB (K : PySem.W.Frag) (f D : Addr) : Bool := match K.lookup f with
  | some ⟨_, _, .func fd, _⟩ => (match fd.closure with
    | [(_, cc)] => (match K.lookup cc with
      | some ⟨_, _, .cell (some (.ref E)), _⟩ => decide (E = D) && fileB K fd.code
      | _ => false)
    | _ => false)
  | _ => false
def supOk (K : PySem.W.Frag) : Bool := eqO (PySem.W.nsIn K mainGlobals "super") (some none) && eqO (PySem.W.nsIn K cStatics "thirdparty.any") (some none)
def statB (K : PySem.W.Frag) (C : Addr) (m : Str) : Bool := (match PySem.W.findCls K (.ref C) (.type "type") m with
  | some (.get (.builtin b) (.ref p) .none (.ref D)) => decide (b = "staticmethod.__get__") && (decide (p = He.ma K C m) && decide (D = C))
  | _ => false) && ((match PySem.W.recIn K (He.ma K C m) "staticmethod" with
    | some (.ref _ :: _) => true
    | _ => false) && (PySem.W.keepIn K (.ref (recAt K (He.ma K C m) "staticmethod"))))
structure Stat (K : PySem.W.Frag) (C : Addr) (m : Str) (p g : Addr) : Prop where
  at_ : PySem.W.findCls K (.ref C) (.type "type") m = some (.get (.builtin "staticmethod.__get__") (.ref p) .none (.ref C))
  rc : ∃ rest, PySem.W.recIn K p "staticmethod" = some (.ref g :: rest)
  kp : PySem.W.keepIn K (.ref g) = true
theorem stat_of {K : PySem.W.Frag} {C : Addr} {m : Str} (h : statB K C m = true) : Stat K C m (He.ma K C m) (recAt K (He.ma K C m) "staticmethod") := by
  obtain ⟨h1, h⟩ := He.ba h
  obtain ⟨h2, h3⟩ := He.ba h
  refine ⟨?_, ?_, h3⟩
  · split at h1
    · rename_i b p D e
      obtain ⟨a1, a⟩ := He.ba h1
      obtain ⟨a2, a3⟩ := He.ba a
      rw [e, of_decide_eq_true a1, of_decide_eq_true a2, of_decide_eq_true a3]
    · cases h1
  · unfold recAt
    split at h2
    · rename_i g r e
      rw [e]
      exact ⟨r, rfl⟩
    · cases h2
def creadB (K : PySem.W.Frag) (C : Addr) : Bool := PySem.W.readsIn K C (.type "type") && eqO (PySem.W.specialIn K (.ref C) "__getattribute__") (some (some (.builtin "type.__getattribute__")))
theorem cread_of {K : PySem.W.Frag} {C : Addr} (h : creadB K C = true) : ClX.CRead K C (.type "type") := by
  obtain ⟨h1, h2⟩ := He.ba h
  exact ⟨h1, He.eqO_ok h2⟩
def cvalB (K : PySem.W.Frag) (C : Addr) (f : Str) (i : Int) : Bool := match PySem.W.findCls K (.ref C) (.type "type") f with
  | some (.val (.int j _)) => decide (j = i)
  | _ => false
theorem cval_of {K : PySem.W.Frag} {C : Addr} {f : Str} {i : Int} (h : cvalB K C f i = true) : ∃ u, ClX.CVal K C (.type "type") f (.int i) u := by
  unfold cvalB at h
  split at h
  · rename_i j t e
    have ej : j = i := of_decide_eq_true h
    subst ej
    exact ⟨_, e, ⟨t, rfl⟩⟩
  · cases h
/-! ### the defs, the facts -/

abbrev sFis_int : Stmt := topS 12
def dFis_int : Dd := ⟨fun K => He.ga K "is_int", "is_int", "is_int", defArgs sFis_int, defBody sFis_int, defScope sFis_int, [], [], []⟩
abbrev sFin_bounds : Stmt := topS 14
def dFin_bounds : Dd := ⟨fun K => He.ga K "in_bounds", "in_bounds", "in_bounds", defArgs sFin_bounds, defBody sFin_bounds, defScope sFin_bounds, [], [], []⟩
abbrev sFgcd : Stmt := topS 16
def dFgcd : Dd := ⟨fun K => He.ga K "gcd", "gcd", "gcd", defArgs sFgcd, defBody sFgcd, defScope sFgcd, [], [], []⟩
abbrev sFcommon : Stmt := topS 17
def dFcommon : Dd := ⟨fun K => He.ga K "common", "common", "common", defArgs sFcommon, defBody sFcommon, defScope sFcommon, [], [], []⟩
abbrev sFmultiple : Stmt := topS 18
def dFmultiple : Dd := ⟨fun K => He.ga K "multiple", "multiple", "multiple", defArgs sFmultiple, defBody sFmultiple, defScope sFmultiple, [], [], []⟩
abbrev sFdivides : Stmt := topS 19
def dFdivides : Dd := ⟨fun K => He.ga K "divides", "divides", "divides", defArgs sFdivides, defBody sFdivides, defScope sFdivides, [], [], []⟩
abbrev sFradical : Stmt := topS 20
def dFradical : Dd := ⟨fun K => He.ga K "radical", "radical", "radical", defArgs sFradical, defBody sFradical, defScope sFradical, [], [], []⟩
abbrev sFstripped : Stmt := topS 21
def dFstripped : Dd := ⟨fun K => He.ga K "stripped", "stripped", "stripped", defArgs sFstripped, defBody sFstripped, defScope sFstripped, [], [], []⟩
abbrev sFinverse_known : Stmt := topS 30
def dFinverse_known : Dd := ⟨fun K => He.ga K "inverse_known", "inverse_known", "inverse_known", defArgs sFinverse_known, defBody sFinverse_known, defScope sFinverse_known, [], [], []⟩
abbrev sFinverses_of_both : Stmt := topS 31
def dFinverses_of_both : Dd := ⟨fun K => He.ga K "inverses_of_both", "inverses_of_both", "inverses_of_both", defArgs sFinverses_of_both, defBody sFinverses_of_both, defScope sFinverses_of_both, [], [], []⟩
abbrev sFbased : Stmt := topS 32
def dFbased : Dd := ⟨fun K => He.ga K "based", "based", "based", defArgs sFbased, defBody sFbased, defScope sFbased, [], [], []⟩
abbrev sFshallow : Stmt := topS 33
def dFshallow : Dd := ⟨fun K => He.ga K "shallow", "shallow", "shallow", defArgs sFshallow, defBody sFshallow, defScope sFshallow, [], [], []⟩
abbrev sFchecked : Stmt := topS 57
def dFchecked : Dd := ⟨fun K => He.ga K "checked", "checked", "checked", defArgs sFchecked, defBody sFchecked, defScope sFchecked, [], [], []⟩
abbrev sFsettled : Stmt := topS 58
def dFsettled : Dd := ⟨fun K => He.ga K "settled", "settled", "settled", defArgs sFsettled, defBody sFsettled, defScope sFsettled, [], [], []⟩
abbrev sFjoined : Stmt := topS 59
def dFjoined : Dd := ⟨fun K => He.ga K "joined", "joined", "joined", defArgs sFjoined, defBody sFjoined, defScope sFjoined, [], [], []⟩
abbrev sFlies_within : Stmt := topS 60
def dFlies_within : Dd := ⟨fun K => He.ga K "lies_within", "lies_within", "lies_within", defArgs sFlies_within, defBody sFlies_within, defScope sFlies_within, [], [], []⟩
abbrev sF_law_bag : Stmt := topS 71
def dF_law_bag : Dd := ⟨fun K => He.ga K "_law_bag", "_law_bag", "_law_bag", defArgs sF_law_bag, defBody sF_law_bag, defScope sF_law_bag, [], [], []⟩
abbrev sF_law_draw : Stmt := topS 72
def dF_law_draw : Dd := ⟨fun K => He.ga K "_law_draw", "_law_draw", "_law_draw", defArgs sF_law_draw, defBody sF_law_draw, defScope sF_law_draw, [], [], []⟩
abbrev sF_law_pick : Stmt := topS 73
def dF_law_pick : Dd := ⟨fun K => He.ga K "_law_pick", "_law_pick", "_law_pick", defArgs sF_law_pick, defBody sF_law_pick, defScope sF_law_pick, [], [], []⟩
abbrev sF_law_same : Stmt := topS 74
def dF_law_same : Dd := ⟨fun K => He.ga K "_law_same", "_law_same", "_law_same", defArgs sF_law_same, defBody sF_law_same, defScope sF_law_same, [], [], []⟩
abbrev sF_law_gcd : Stmt := topS 75
def dF_law_gcd : Dd := ⟨fun K => He.ga K "_law_gcd", "_law_gcd", "_law_gcd", defArgs sF_law_gcd, defBody sF_law_gcd, defScope sF_law_gcd, [], [], []⟩
abbrev sF_law_lcm : Stmt := topS 76
def dF_law_lcm : Dd := ⟨fun K => He.ga K "_law_lcm", "_law_lcm", "_law_lcm", defArgs sF_law_lcm, defBody sF_law_lcm, defScope sF_law_lcm, [], [], []⟩
abbrev sF_law_strip : Stmt := topS 77
def dF_law_strip : Dd := ⟨fun K => He.ga K "_law_strip", "_law_strip", "_law_strip", defArgs sF_law_strip, defBody sF_law_strip, defScope sF_law_strip, [], [], []⟩
abbrev sF_law_radical : Stmt := topS 78
def dF_law_radical : Dd := ⟨fun K => He.ga K "_law_radical", "_law_radical", "_law_radical", defArgs sF_law_radical, defBody sF_law_radical, defScope sF_law_radical, [], [], []⟩
abbrev sF_law_product : Stmt := topS 79
def dF_law_product : Dd := ⟨fun K => He.ga K "_law_product", "_law_product", "_law_product", defArgs sF_law_product, defBody sF_law_product, defScope sF_law_product, [], [], []⟩
abbrev sF_law_ring : Stmt := topS 80
def dF_law_ring : Dd := ⟨fun K => He.ga K "_law_ring", "_law_ring", "_law_ring", defArgs sF_law_ring, defBody sF_law_ring, defScope sF_law_ring, [], [], []⟩
abbrev sF_law_plain : Stmt := topS 81
def dF_law_plain : Dd := ⟨fun K => He.ga K "_law_plain", "_law_plain", "_law_plain", defArgs sF_law_plain, defBody sF_law_plain, defScope sF_law_plain, [], [], []⟩
abbrev sF_law_any : Stmt := topS 82
def dF_law_any : Dd := ⟨fun K => He.ga K "_law_any", "_law_any", "_law_any", defArgs sF_law_any, defBody sF_law_any, defScope sF_law_any, [], [], []⟩
abbrev sF_law_fits_part : Stmt := topS 83
def dF_law_fits_part : Dd := ⟨fun K => He.ga K "_law_fits_part", "_law_fits_part", "_law_fits_part", defArgs sF_law_fits_part, defBody sF_law_fits_part, defScope sF_law_fits_part, [], [], []⟩
abbrev sF_law_commuting : Stmt := topS 84
def dF_law_commuting : Dd := ⟨fun K => He.ga K "_law_commuting", "_law_commuting", "_law_commuting", defArgs sF_law_commuting, defBody sF_law_commuting, defScope sF_law_commuting, [], [], []⟩
abbrev sF_law_settled : Stmt := topS 85
def dF_law_settled : Dd := ⟨fun K => He.ga K "_law_settled", "_law_settled", "_law_settled", defArgs sF_law_settled, defBody sF_law_settled, defScope sF_law_settled, [], [], []⟩
abbrev sF_law_told : Stmt := topS 86
def dF_law_told : Dd := ⟨fun K => He.ga K "_law_told", "_law_told", "_law_told", defArgs sF_law_told, defBody sF_law_told, defScope sF_law_told, [], [], []⟩
abbrev sF_law_realm : Stmt := topS 87
def dF_law_realm : Dd := ⟨fun K => He.ga K "_law_realm", "_law_realm", "_law_realm", defArgs sF_law_realm, defBody sF_law_realm, defScope sF_law_realm, [], [], []⟩
abbrev sF_law_drawn_realm : Stmt := topS 88
def dF_law_drawn_realm : Dd := ⟨fun K => He.ga K "_law_drawn_realm", "_law_drawn_realm", "_law_drawn_realm", defArgs sF_law_drawn_realm, defBody sF_law_drawn_realm, defScope sF_law_drawn_realm, [], [], []⟩
abbrev sF_law_settle : Stmt := topS 89
def dF_law_settle : Dd := ⟨fun K => He.ga K "_law_settle", "_law_settle", "_law_settle", defArgs sF_law_settle, defBody sF_law_settle, defScope sF_law_settle, [], [], []⟩
abbrev sF_law_samples : Stmt := topS 90
def dF_law_samples : Dd := ⟨fun K => He.ga K "_law_samples", "_law_samples", "_law_samples", defArgs sF_law_samples, defBody sF_law_samples, defScope sF_law_samples, [], [], []⟩
abbrev sFlaw : Stmt := topS 91
def dFlaw : Dd := ⟨fun K => He.ga K "law", "law", "law", defArgs sFlaw, defBody sFlaw, defScope sFlaw, [], [], []⟩
abbrev sMRing_init : Stmt := inClass (topS 29) 2
def dMRing_init : Dd := ⟨fun K => He.ma K (He.ga K "Ring") "__init__", "__init__", "Ring.__init__", defArgs sMRing_init, defBody sMRing_init, defScope sMRing_init, [], [], []⟩
abbrev sMRing_ones : Stmt := inClass (topS 29) 3
def dMRing_ones : Dd := ⟨fun K => recAt K (He.ma K (He.ga K "Ring") "ones") "property", "ones", "Ring.ones", defArgs sMRing_ones, defBody sMRing_ones, defScope sMRing_ones, [], [], []⟩
abbrev sMRing_swaps : Stmt := inClass (topS 29) 4
def dMRing_swaps : Dd := ⟨fun K => recAt K (He.ma K (He.ga K "Ring") "swaps") "property", "swaps", "Ring.swaps", defArgs sMRing_swaps, defBody sMRing_swaps, defScope sMRing_swaps, [], [], []⟩
abbrev sMRing_squares : Stmt := inClass (topS 29) 5
def dMRing_squares : Dd := ⟨fun K => recAt K (He.ma K (He.ga K "Ring") "squares") "property", "squares", "Ring.squares", defArgs sMRing_squares, defBody sMRing_squares, defScope sMRing_squares, [], [], []⟩
abbrev sMRing_depth : Stmt := inClass (topS 29) 6
def dMRing_depth : Dd := ⟨fun K => recAt K (He.ma K (He.ga K "Ring") "depth") "property", "depth", "Ring.depth", defArgs sMRing_depth, defBody sMRing_depth, defScope sMRing_depth, [], [], []⟩
abbrev sMRing_text : Stmt := inClass (topS 29) 7
def dMRing_text : Dd := ⟨fun K => He.ma K (He.ga K "Ring") "text", "text", "Ring.text", defArgs sMRing_text, defBody sMRing_text, defScope sMRing_text, [], [], []⟩
abbrev sMFractions_init : Stmt := inClass (topS 34) 0
def dMFractions_init : Dd := ⟨fun K => He.ma K (He.ga K "Fractions") "__init__", "__init__", "Fractions.__init__", defArgs sMFractions_init, defBody sMFractions_init, defScope sMFractions_init, ["__class__"], [], []⟩
abbrev sMWhole_init : Stmt := inClass (topS 35) 0
def dMWhole_init : Dd := ⟨fun K => He.ma K (He.ga K "Whole") "__init__", "__init__", "Whole.__init__", defArgs sMWhole_init, defBody sMWhole_init, defScope sMWhole_init, ["__class__"], [.int 1], []⟩
abbrev sMRests_init : Stmt := inClass (topS 36) 0
def dMRests_init : Dd := ⟨fun K => He.ma K (He.ga K "Rests") "__init__", "__init__", "Rests.__init__", defArgs sMRests_init, defBody sMRests_init, defScope sMRests_init, ["__class__"], [], []⟩
abbrev sMSets_init : Stmt := inClass (topS 37) 0
def dMSets_init : Dd := ⟨fun K => He.ma K (He.ga K "Sets") "__init__", "__init__", "Sets.__init__", defArgs sMSets_init, defBody sMSets_init, defScope sMSets_init, ["__class__"], [], []⟩
abbrev sMMatrices_init : Stmt := inClass (topS 45) 0
def dMMatrices_init : Dd := ⟨fun K => He.ma K (He.ga K "Matrices") "__init__", "__init__", "Matrices.__init__", defArgs sMMatrices_init, defBody sMMatrices_init, defScope sMMatrices_init, ["__class__"], [], []⟩
abbrev sMTriangles_init : Stmt := inClass (topS 46) 0
def dMTriangles_init : Dd := ⟨fun K => He.ma K (He.ga K "Triangles") "__init__", "__init__", "Triangles.__init__", defArgs sMTriangles_init, defBody sMTriangles_init, defScope sMTriangles_init, ["__class__"], [], []⟩
abbrev sMPolynomials_init : Stmt := inClass (topS 47) 0
def dMPolynomials_init : Dd := ⟨fun K => He.ma K (He.ga K "Polynomials") "__init__", "__init__", "Polynomials.__init__", defArgs sMPolynomials_init, defBody sMPolynomials_init, defScope sMPolynomials_init, ["__class__"], [], []⟩
abbrev sMDuals_init : Stmt := inClass (topS 48) 0
def dMDuals_init : Dd := ⟨fun K => He.ma K (He.ga K "Duals") "__init__", "__init__", "Duals.__init__", defArgs sMDuals_init, defBody sMDuals_init, defScope sMDuals_init, ["__class__"], [], []⟩
abbrev sMRoots_init : Stmt := inClass (topS 49) 0
def dMRoots_init : Dd := ⟨fun K => He.ma K (He.ga K "Roots") "__init__", "__init__", "Roots.__init__", defArgs sMRoots_init, defBody sMRoots_init, defScope sMRoots_init, ["__class__"], [], []⟩
abbrev sMWords_init : Stmt := inClass (topS 51) 0
def dMWords_init : Dd := ⟨fun K => He.ma K (He.ga K "Words") "__init__", "__init__", "Words.__init__", defArgs sMWords_init, defBody sMWords_init, defScope sMWords_init, ["__class__"], [], []⟩
abbrev sMPairs_init : Stmt := inClass (topS 52) 0
def dMPairs_init : Dd := ⟨fun K => He.ma K (He.ga K "Pairs") "__init__", "__init__", "Pairs.__init__", defArgs sMPairs_init, defBody sMPairs_init, defScope sMPairs_init, ["__class__"], [], []⟩
abbrev sMQuaternions_init : Stmt := inClass (topS 53) 0
def dMQuaternions_init : Dd := ⟨fun K => He.ma K (He.ga K "Quaternions") "__init__", "__init__", "Quaternions.__init__", defArgs sMQuaternions_init, defBody sMQuaternions_init, defScope sMQuaternions_init, ["__class__"], [], []⟩
abbrev sMSwapped_init : Stmt := inClass (topS 54) 0
def dMSwapped_init : Dd := ⟨fun K => He.ma K (He.ga K "Swapped") "__init__", "__init__", "Swapped.__init__", defArgs sMSwapped_init, defBody sMSwapped_init, defScope sMSwapped_init, ["__class__"], [], []⟩
abbrev sMTwists_init : Stmt := inClass (topS 55) 0
def dMTwists_init : Dd := ⟨fun K => He.ma K (He.ga K "Twists") "__init__", "__init__", "Twists.__init__", defArgs sMTwists_init, defBody sMTwists_init, defScope sMTwists_init, ["__class__"], [], []⟩
abbrev sMRealm_init : Stmt := inClass (topS 61) 0
def dMRealm_init : Dd := ⟨fun K => He.ma K (He.ga K "Realm") "__init__", "__init__", "Realm.__init__", defArgs sMRealm_init, defBody sMRealm_init, defScope sMRealm_init, [], [], [("inverse", .int 1), ("ones", .int 0), ("swaps", .int 0), ("squares", .int 0), ("_free", .bl false)]⟩
abbrev sMRealm_everywhere : Stmt := inClass (topS 61) 1
def dMRealm_everywhere : Dd := ⟨fun K => recAt K (He.ma K (He.ga K "Realm") "everywhere") "staticmethod", "everywhere", "Realm.everywhere", defArgs sMRealm_everywhere, defBody sMRealm_everywhere, defScope sMRealm_everywhere, [], [], []⟩
abbrev sMRealm_nowhere : Stmt := inClass (topS 61) 3
def dMRealm_nowhere : Dd := ⟨fun K => recAt K (He.ma K (He.ga K "Realm") "nowhere") "staticmethod", "nowhere", "Realm.nowhere", defArgs sMRealm_nowhere, defBody sMRealm_nowhere, defScope sMRealm_nowhere, [], [], []⟩
abbrev sMRealm_inverse : Stmt := inClass (topS 61) 4
def dMRealm_inverse : Dd := ⟨fun K => recAt K (He.ma K (He.ga K "Realm") "inverse") "property", "inverse", "Realm.inverse", defArgs sMRealm_inverse, defBody sMRealm_inverse, defScope sMRealm_inverse, [], [], []⟩
abbrev sMRealm_ones : Stmt := inClass (topS 61) 5
def dMRealm_ones : Dd := ⟨fun K => recAt K (He.ma K (He.ga K "Realm") "ones") "property", "ones", "Realm.ones", defArgs sMRealm_ones, defBody sMRealm_ones, defScope sMRealm_ones, [], [], []⟩
abbrev sMRealm_swaps : Stmt := inClass (topS 61) 6
def dMRealm_swaps : Dd := ⟨fun K => recAt K (He.ma K (He.ga K "Realm") "swaps") "property", "swaps", "Realm.swaps", defArgs sMRealm_swaps, defBody sMRealm_swaps, defScope sMRealm_swaps, [], [], []⟩
abbrev sMRealm_squares : Stmt := inClass (topS 61) 7
def dMRealm_squares : Dd := ⟨fun K => recAt K (He.ma K (He.ga K "Realm") "squares") "property", "squares", "Realm.squares", defArgs sMRealm_squares, defBody sMRealm_squares, defScope sMRealm_squares, [], [], []⟩
abbrev sMRealm_contains : Stmt := inClass (topS 61) 8
def dMRealm_contains : Dd := ⟨fun K => He.ma K (He.ga K "Realm") "__contains__", "__contains__", "Realm.__contains__", defArgs sMRealm_contains, defBody sMRealm_contains, defScope sMRealm_contains, [], [], []⟩
abbrev sMRealm_and : Stmt := inClass (topS 61) 9
def dMRealm_and : Dd := ⟨fun K => He.ma K (He.ga K "Realm") "__and__", "__and__", "Realm.__and__", defArgs sMRealm_and, defBody sMRealm_and, defScope sMRealm_and, [], [], []⟩
abbrev sMRealm_or : Stmt := inClass (topS 61) 10
def dMRealm_or : Dd := ⟨fun K => He.ma K (He.ga K "Realm") "__or__", "__or__", "Realm.__or__", defArgs sMRealm_or, defBody sMRealm_or, defScope sMRealm_or, [], [], []⟩
abbrev sMRealm_eq : Stmt := inClass (topS 61) 12
def dMRealm_eq : Dd := ⟨fun K => He.ma K (He.ga K "Realm") "__eq__", "__eq__", "Realm.__eq__", defArgs sMRealm_eq, defBody sMRealm_eq, defScope sMRealm_eq, [], [], []⟩
abbrev sMRealm_within : Stmt := inClass (topS 61) 14
def dMRealm_within : Dd := ⟨fun K => He.ma K (He.ga K "Realm") "within", "within", "Realm.within", defArgs sMRealm_within, defBody sMRealm_within, defScope sMRealm_within, [], [], []⟩
def fns0 : List Dd := [dFis_int, dFin_bounds, dFgcd, dFcommon, dFmultiple, dFdivides, dFradical, dFstripped, dFinverse_known, dFinverses_of_both]
def fns1 : List Dd := [dFbased, dFshallow, dFchecked, dFsettled, dFjoined, dFlies_within, dF_law_bag, dF_law_draw, dF_law_pick, dF_law_same]
def fns2 : List Dd := [dF_law_gcd, dF_law_lcm, dF_law_strip, dF_law_radical, dF_law_product, dF_law_ring, dF_law_plain, dF_law_any, dF_law_fits_part, dF_law_commuting]
def fns3 : List Dd := [dF_law_settled, dF_law_told, dF_law_realm, dF_law_drawn_realm, dF_law_settle, dF_law_samples, dFlaw, dMRing_init, dMRing_ones, dMRing_swaps]
def fns4 : List Dd := [dMRing_squares, dMRing_depth, dMRing_text, dMFractions_init, dMWhole_init, dMRests_init, dMSets_init, dMMatrices_init, dMTriangles_init, dMPolynomials_init]
def fns5 : List Dd := [dMDuals_init, dMRoots_init, dMWords_init, dMPairs_init, dMQuaternions_init, dMSwapped_init, dMTwists_init, dMRealm_init, dMRealm_everywhere, dMRealm_nowhere]
def fns6 : List Dd := [dMRealm_inverse, dMRealm_ones, dMRealm_swaps, dMRealm_squares, dMRealm_contains, dMRealm_and, dMRealm_or, dMRealm_eq, dMRealm_within]
def fns : List Dd := fns0 ++ fns1 ++ fns2 ++ fns3 ++ fns4 ++ fns5 ++ fns6
def cks0 : List (PySem.W.Frag → Bool) := [fun K => (He.Fa.glo "is_int").ok K, fun K => (He.Fa.glo "in_bounds").ok K, fun K => (He.Fa.glo "gcd").ok K, fun K => (He.Fa.glo "common").ok K, fun K => (He.Fa.glo "multiple").ok K, fun K => (He.Fa.glo "divides").ok K, fun K => (He.Fa.glo "radical").ok K, fun K => (He.Fa.glo "stripped").ok K, fun K => (He.Fa.glo "inverse_known").ok K, fun K => (He.Fa.glo "inverses_of_both").ok K]
def cks1 : List (PySem.W.Frag → Bool) := [fun K => (He.Fa.glo "based").ok K, fun K => (He.Fa.glo "shallow").ok K, fun K => (He.Fa.glo "checked").ok K, fun K => (He.Fa.glo "settled").ok K, fun K => (He.Fa.glo "joined").ok K, fun K => (He.Fa.glo "lies_within").ok K, fun K => (He.Fa.glo "_law_bag").ok K, fun K => (He.Fa.glo "_law_draw").ok K, fun K => (He.Fa.glo "_law_pick").ok K, fun K => (He.Fa.glo "_law_same").ok K]
def cks2 : List (PySem.W.Frag → Bool) := [fun K => (He.Fa.glo "_law_gcd").ok K, fun K => (He.Fa.glo "_law_lcm").ok K, fun K => (He.Fa.glo "_law_strip").ok K, fun K => (He.Fa.glo "_law_radical").ok K, fun K => (He.Fa.glo "_law_product").ok K, fun K => (He.Fa.glo "_law_ring").ok K, fun K => (He.Fa.glo "_law_plain").ok K, fun K => (He.Fa.glo "_law_any").ok K, fun K => (He.Fa.glo "_law_fits_part").ok K, fun K => (He.Fa.glo "_law_commuting").ok K]
def cks3 : List (PySem.W.Frag → Bool) := [fun K => (He.Fa.glo "_law_settled").ok K, fun K => (He.Fa.glo "_law_told").ok K, fun K => (He.Fa.glo "_law_realm").ok K, fun K => (He.Fa.glo "_law_drawn_realm").ok K, fun K => (He.Fa.glo "_law_settle").ok K, fun K => (He.Fa.glo "_law_samples").ok K, fun K => (He.Fa.glo "law").ok K, fun K => (He.Fa.glo "Fractions").ok K, fun K => (He.Fa.glo "Whole").ok K, fun K => (He.Fa.glo "Rests").ok K]
def cks4 : List (PySem.W.Frag → Bool) := [fun K => (He.Fa.glo "Sets").ok K, fun K => (He.Fa.glo "Matrices").ok K, fun K => (He.Fa.glo "Triangles").ok K, fun K => (He.Fa.glo "Polynomials").ok K, fun K => (He.Fa.glo "Duals").ok K, fun K => (He.Fa.glo "Roots").ok K, fun K => (He.Fa.glo "Words").ok K, fun K => (He.Fa.glo "Pairs").ok K, fun K => (He.Fa.glo "Quaternions").ok K, fun K => (He.Fa.glo "Swapped").ok K]
def cks5 : List (PySem.W.Frag → Bool) := [fun K => (He.Fa.glo "Twists").ok K, fun K => (He.Fa.glo "Ring").ok K, fun K => (He.Fa.glo "Realm").ok K, fun K => (He.Fa.free "isinstance").ok K, fun K => (He.Fa.free "int").ok K, fun K => (He.Fa.free "bool").ok K, fun K => (He.Fa.free "tuple").ok K, fun K => (He.Fa.free "list").ok K, fun K => (He.Fa.free "len").ok K, fun K => (He.Fa.free "abs").ok K]
def cks6 : List (PySem.W.Frag → Bool) := [fun K => (He.Fa.free "max").ok K, fun K => (He.Fa.free "range").ok K, fun K => (He.Fa.free "all").ok K, fun K => (He.Fa.free "zip").ok K, fun K => (He.Fa.free "super").ok K, fun K => (He.Fa.int "MOST" 1000000).ok K, fun K => rclsB K (He.ga K "Fractions"), fun K => (He.Fa.mkr "Fractions").ok K, fun K => rclsB K (He.ga K "Whole"), fun K => (He.Fa.mkr "Whole").ok K]
def cks7 : List (PySem.W.Frag → Bool) := [fun K => rclsB K (He.ga K "Rests"), fun K => (He.Fa.mkr "Rests").ok K, fun K => rclsB K (He.ga K "Sets"), fun K => (He.Fa.mkr "Sets").ok K, fun K => rclsB K (He.ga K "Matrices"), fun K => (He.Fa.mkr "Matrices").ok K, fun K => rclsB K (He.ga K "Triangles"), fun K => (He.Fa.mkr "Triangles").ok K, fun K => rclsB K (He.ga K "Polynomials"), fun K => (He.Fa.mkr "Polynomials").ok K]
def cks8 : List (PySem.W.Frag → Bool) := [fun K => rclsB K (He.ga K "Duals"), fun K => (He.Fa.mkr "Duals").ok K, fun K => rclsB K (He.ga K "Roots"), fun K => (He.Fa.mkr "Roots").ok K, fun K => rclsB K (He.ga K "Words"), fun K => (He.Fa.mkr "Words").ok K, fun K => rclsB K (He.ga K "Pairs"), fun K => (He.Fa.mkr "Pairs").ok K, fun K => rclsB K (He.ga K "Quaternions"), fun K => (He.Fa.mkr "Quaternions").ok K]
def cks9 : List (PySem.W.Frag → Bool) := [fun K => rclsB K (He.ga K "Swapped"), fun K => (He.Fa.mkr "Swapped").ok K, fun K => rclsB K (He.ga K "Twists"), fun K => (He.Fa.mkr "Twists").ok K, fun K => supB K (He.ga K "Fractions") (He.ga K "Fractions") (He.ma K (He.ga K "Ring") "__init__"), fun K => supB K (He.ga K "Whole") (He.ga K "Whole") (He.ma K (He.ga K "Ring") "__init__"), fun K => supB K (He.ga K "Rests") (He.ga K "Rests") (He.ma K (He.ga K "Ring") "__init__"), fun K => supB K (He.ga K "Sets") (He.ga K "Sets") (He.ma K (He.ga K "Ring") "__init__"), fun K => supB K (He.ga K "Matrices") (He.ga K "Matrices") (He.ma K (He.ga K "Ring") "__init__"), fun K => supB K (He.ga K "Triangles") (He.ga K "Triangles") (He.ma K (He.ga K "Ring") "__init__")]
def cks10 : List (PySem.W.Frag → Bool) := [fun K => supB K (He.ga K "Polynomials") (He.ga K "Polynomials") (He.ma K (He.ga K "Ring") "__init__"), fun K => supB K (He.ga K "Duals") (He.ga K "Duals") (He.ma K (He.ga K "Ring") "__init__"), fun K => supB K (He.ga K "Roots") (He.ga K "Roots") (He.ma K (He.ga K "Duals") "__init__"), fun K => supB K (He.ga K "Roots") (He.ga K "Duals") (He.ma K (He.ga K "Ring") "__init__"), fun K => supB K (He.ga K "Words") (He.ga K "Words") (He.ma K (He.ga K "Ring") "__init__"), fun K => supB K (He.ga K "Pairs") (He.ga K "Pairs") (He.ma K (He.ga K "Ring") "__init__"), fun K => supB K (He.ga K "Quaternions") (He.ga K "Quaternions") (He.ma K (He.ga K "Ring") "__init__"), fun K => supB K (He.ga K "Swapped") (He.ga K "Swapped") (He.ma K (He.ga K "Ring") "__init__"), fun K => supB K (He.ga K "Twists") (He.ga K "Twists") (He.ma K (He.ga K "Ring") "__init__"), fun K => cellB K (He.ma K (He.ga K "Fractions") "__init__") (He.ga K "Fractions")]
def cks11 : List (PySem.W.Frag → Bool) := [fun K => cellB K (He.ma K (He.ga K "Whole") "__init__") (He.ga K "Whole"), fun K => cellB K (He.ma K (He.ga K "Rests") "__init__") (He.ga K "Rests"), fun K => cellB K (He.ma K (He.ga K "Sets") "__init__") (He.ga K "Sets"), fun K => cellB K (He.ma K (He.ga K "Matrices") "__init__") (He.ga K "Matrices"), fun K => cellB K (He.ma K (He.ga K "Triangles") "__init__") (He.ga K "Triangles"), fun K => cellB K (He.ma K (He.ga K "Polynomials") "__init__") (He.ga K "Polynomials"), fun K => cellB K (He.ma K (He.ga K "Duals") "__init__") (He.ga K "Duals"), fun K => cellB K (He.ma K (He.ga K "Roots") "__init__") (He.ga K "Roots"), fun K => cellB K (He.ma K (He.ga K "Words") "__init__") (He.ga K "Words"), fun K => cellB K (He.ma K (He.ga K "Pairs") "__init__") (He.ga K "Pairs")]
def cks12 : List (PySem.W.Frag → Bool) := [fun K => cellB K (He.ma K (He.ga K "Quaternions") "__init__") (He.ga K "Quaternions"), fun K => cellB K (He.ma K (He.ga K "Swapped") "__init__") (He.ga K "Swapped"), fun K => cellB K (He.ma K (He.ga K "Twists") "__init__") (He.ga K "Twists"), fun K => PySem.W.isFn K (.ref (He.ma K (He.ga K "Ring") "__init__")), fun K => PySem.W.fnIn K (He.ma K (He.ga K "Ring") "__init__"), fun K => PySem.W.isFn K (.ref (He.ma K (He.ga K "Duals") "__init__")), fun K => PySem.W.fnIn K (He.ma K (He.ga K "Duals") "__init__"), fun K => supOk K, fun K => decide (PySem.W.kitOne K (.ref (He.ga K "Whole")) (.ref (He.ga K "Rests")) = some false), fun K => decide (PySem.W.kitOne K (.ref (He.ga K "Rests")) (.ref (He.ga K "Whole")) = some false)]
def cks13 : List (PySem.W.Frag → Bool) := [fun K => decide (PySem.W.kitOne K (.ref (He.ga K "Realm")) (.ref (He.ga K "Realm")) = some true), fun K => (He.Fa.cls "Realm").ok K, fun K => tyB K (He.ga K "Realm"), fun K => (He.Fa.mkr "Realm").ok K, fun K => (He.Fa.noat "Realm" "_numbers").ok K, fun K => propB K (He.ga K "Realm") "inverse" (He.ma K (He.ga K "Realm") "inverse"), fun K => propB K (He.ga K "Realm") "ones" (He.ma K (He.ga K "Realm") "ones"), fun K => propB K (He.ga K "Realm") "swaps" (He.ma K (He.ga K "Realm") "swaps"), fun K => propB K (He.ga K "Realm") "squares" (He.ma K (He.ga K "Realm") "squares"), fun K => (He.Fa.meth "Realm" "within").ok K]
def cks14 : List (PySem.W.Frag → Bool) := [fun K => (He.Fa.meth "Realm" "__or__").ok K, fun K => (He.Fa.meth "Realm" "__and__").ok K, fun K => (He.Fa.meth "Realm" "__eq__").ok K, fun K => (He.Fa.meth "Realm" "__contains__").ok K, fun K => PySem.W.selfFirst K (He.ga K "Realm"), fun K => statB K (He.ga K "Realm") "everywhere", fun K => statB K (He.ga K "Realm") "nowhere", fun K => creadB K (He.ga K "Realm"), fun K => creadB K (He.ga K "Ring"), fun K => cvalB K (He.ga K "Ring") "MOST_DEPTH" 4]
def cks : List (PySem.W.Frag → Bool) := cks0 ++ cks1 ++ cks2 ++ cks3 ++ cks4 ++ cks5 ++ cks6 ++ cks7 ++ cks8 ++ cks9 ++ cks10 ++ cks11 ++ cks12 ++ cks13 ++ cks14
/-! ### forcing: what the kernel reckons stands reckoned -/
section
variable {α β : Type}
def fVal (v : Value) (k : Value → α) : α := match v with
  | .none => k .none
  | .bool b => k (.bool b)
  | .int i t => k (.int i t)
  | .str x t => k (.str x t)
  | .type n => k (.type n)
  | .builtin b => k (.builtin b)
  | .ref a => HandSHeadRun.frNat a fun a => k (.ref a)
  | v => k v
theorem fVal_eq (v : Value) (k : Value → α) : fVal v k = k v := by
  cases v <;> first | rfl | exact HandSHeadRun.frNat_eq _ fun a => k (.ref a)
def fList (f : β → (β → α) → α) : List β → (List β → α) → α
  | [], k => k []
  | a :: r, k => f a fun a => fList f r fun r => k (a :: r)
theorem fList_eq {f : β → (β → α) → α} (hf : ∀ a k, f a k = k a) : ∀ (l : List β) (k : List β → α), fList f l k = k l
  | [], _ => rfl
  | a :: r, k => by
    show f a (fun a => fList f r fun r => k (a :: r)) = _
    rw [hf, fList_eq hf r]
def fArr (f : β → (β → α) → α) (a : Array β) (k : Array β → α) : α := match a with
  | ⟨l⟩ => fList f l fun l => k ⟨l⟩
theorem fArr_eq {f : β → (β → α) → α} (hf : ∀ a k, f a k = k a) (a : Array β) (k : Array β → α) : fArr f a k = k a := by
  obtain ⟨l⟩ := a
  exact fList_eq hf l _
def fEnt (e : DictEntry) (k : DictEntry → α) : α := match e with
  | ⟨h, a, b⟩ => fVal a fun a => fVal b fun b => k ⟨h, a, b⟩
theorem fEnt_eq (e : DictEntry) (k : DictEntry → α) : fEnt e k = k e := by
  obtain ⟨h, a, b⟩ := e
  show fVal a (fun a => fVal b fun b => k ⟨h, a, b⟩) = _
  rw [fVal_eq, fVal_eq]
def fClo (e : Str × Addr) (k : Str × Addr → α) : α := match e with
  | (x, a) => HandSHeadRun.frNat a fun a => k (x, a)
theorem fClo_eq (e : Str × Addr) (k : Str × Addr → α) : fClo e k = k e := by
  obtain ⟨x, a⟩ := e
  exact HandSHeadRun.frNat_eq a fun a => k (x, a)
def fOptV (o : Option Value) (k : Option Value → α) : α := match o with
  | none => k none
  | some v => fVal v fun v => k (some v)
theorem fOptV_eq (o : Option Value) (k : Option Value → α) : fOptV o k = k o := by
  cases o with
  | none => rfl
  | some v => exact fVal_eq v fun v => k (some v)
def fOptA (o : Option Addr) (k : Option Addr → α) : α := match o with
  | none => k none
  | some a => HandSHeadRun.frNat a fun a => k (some a)
theorem fOptA_eq (o : Option Addr) (k : Option Addr → α) : fOptA o k = k o := by
  cases o with
  | none => rfl
  | some v => exact HandSHeadRun.frNat_eq v fun a => k (some a)
def fData (d : Data) (k : Data → α) : α := match d with
  | .plain => k .plain
  | .seq its n => fArr fVal its fun its => k (.seq its n)
  | .dict es n => fArr fEnt es fun es => k (.dict es n)
  | .cell v => fOptV v fun v => k (.cell v)
  | .func ⟨n1, n2, n3, n4, n5, n6, n7, n8, n9, n10, n11, n12, n13, n14, n15⟩ => HandSHeadRun.frNat n6 fun n6 => fList fClo n7 fun n7 => fVal n8 fun n8 => fVal n9 fun n9 => fVal n13 fun n13 => HandSHeadRun.frNat n15 fun n15 => k (.func ⟨n1, n2, n3, n4, n5, n6, n7, n8, n9, n10, n11, n12, n13, n14, n15⟩)
  | .cls ⟨m1, m2, m3, m4, m5, m6, m7, m8, m9, m10, m11⟩ => fList fVal m3 fun m3 => HandSHeadRun.frNat m4 fun m4 => k (.cls ⟨m1, m2, m3, m4, m5, m6, m7, m8, m9, m10, m11⟩)
  | .fields vs => fArr fVal vs fun vs => k (.fields vs)
  | d => k d
theorem fData_eq (d : Data) (k : Data → α) : fData d k = k d := by
  cases d with
  | seq its n => exact fArr_eq fVal_eq its fun its => k (.seq its n)
  | dict es n => exact fArr_eq fEnt_eq es fun es => k (.dict es n)
  | cell v => exact fOptV_eq v fun v => k (.cell v)
  | func f =>
    obtain ⟨n1, n2, n3, n4, n5, n6, n7, n8, n9, n10, n11, n12, n13, n14, n15⟩ := f
    show HandSHeadRun.frNat n6 (fun n6 => fList fClo n7 fun n7 => fVal n8 fun n8 => fVal n9 fun n9 => fVal n13 fun n13 => HandSHeadRun.frNat n15 fun n15 => k (.func ⟨n1, n2, n3, n4, n5, n6, n7, n8, n9, n10, n11, n12, n13, n14, n15⟩)) = _
    rw [HandSHeadRun.frNat_eq, fList_eq fClo_eq, fVal_eq, fVal_eq, fVal_eq, HandSHeadRun.frNat_eq]
  | cls c =>
    obtain ⟨m1, m2, m3, m4, m5, m6, m7, m8, m9, m10, m11⟩ := c
    show fList fVal m3 (fun m3 => HandSHeadRun.frNat m4 fun m4 => k (.cls ⟨m1, m2, m3, m4, m5, m6, m7, m8, m9, m10, m11⟩)) = _
    rw [fList_eq fVal_eq, HandSHeadRun.frNat_eq]
  | fields vs => exact fArr_eq fVal_eq vs fun vs => k (.fields vs)
  | _ => rfl
def fObj (o : Obj) (k : Obj → α) : α := match o with
  | ⟨c, d, dt, sl⟩ => fVal c fun c => fOptA d fun d => fData dt fun dt => fArr fOptV sl fun sl => k ⟨c, d, dt, sl⟩
theorem fObj_eq (o : Obj) (k : Obj → α) : fObj o k = k o := by
  obtain ⟨c, d, dt, sl⟩ := o
  show fVal c (fun c => fOptA d fun d => fData dt fun dt => fArr fOptV sl fun sl => k ⟨c, d, dt, sl⟩) = _
  rw [fVal_eq, fOptA_eq, fData_eq, fArr_eq fOptV_eq]
def frF (g : Addr → Option Obj) : List Addr → (PySem.W.Frag → α) → α
  | [], k => k []
  | a :: r, k => HandSHeadRun.frNat a fun a => match g a with
    | some o => fObj o fun o => frF g r fun K => k ((a, o) :: K)
    | none => frF g r k
theorem frF_eq (g : Addr → Option Obj) : ∀ (as : List Addr) (k : PySem.W.Frag → α), frF g as k = k (He.frG g as)
  | [], _ => rfl
  | a :: r, k => by
    show HandSHeadRun.frNat a (fun a => match g a with
      | some o => fObj o fun o => frF g r fun K => k ((a, o) :: K)
      | none => frF g r k) = _
    rw [HandSHeadRun.frNat_eq]
    unfold He.frG
    rw [List.filterMap_cons]
    cases e : g a with
    | none =>
      show frF g r k = _
      rw [frF_eq g r] <;> rfl
    | some o =>
      show fObj o (fun o => frF g r fun K => k ((a, o) :: K)) = _
      rw [fObj_eq, frF_eq g r] <;> rfl
end
/-! ### the Hook -/
abbrev AlM : Type := Bool × Bool × List FnM
def obA (g : Addr → Option Obj) : Bool := frF g (asM g) fun K => cks.all fun f => f K
def obB (g : Addr → Option Obj) : Bool := frF g (asM g) fun K => fns.all fun d => d.ok K
def obC (g : Addr → Option Obj) : List FnM := frF g (asM g) fun K => fns.map fun d => fnM K (d.at_ K)
structure Says (K : PySem.W.Frag) : Prop where
  a : (cks.all fun f => f K) = true
  b : (fns.all fun d => d.ok K) = true
  c : (fns.map fun d => fnM K (d.at_ K)) = fns.map Dd.val
def hookM : PySem.W.Hook where
  α := AlM
  obs := fun s => (obA s.heap.get?, obB s.heap.get?, obC s.heap.get?)
  val := fun _ => (true, true, fns.map Dd.val)
  says := fun _ h => ∃ K : PySem.W.Frag, K.In h ∧ Says K
  of := fun w s e => ⟨He.frG s.heap.get? (asM s.heap.get?), He.frG_in, by
    have e1 : obA s.heap.get? = true := congrArg (fun z : AlM => z.1) e
    have e2 : obB s.heap.get? = true := congrArg (fun z : AlM => z.2.1) e
    have e3 : obC s.heap.get? = fns.map Dd.val := congrArg (fun z : AlM => z.2.2) e
    unfold obA at e1
    unfold obB at e2
    unfold obC at e3
    rw [frF_eq] at e1 e2 e3
    exact ⟨e1, e2, e3⟩⟩
  keeps := fun _ _ _ ⟨K, hK, c⟩ k => ⟨K, PySem.W.Frag.In.keeps hK k, c⟩
theorem Says.ck {K : PySem.W.Frag} (c : Says K) {f : PySem.W.Frag → Bool} (i : Nat) (h : cks[i]? = some f) : f K = true := List.all_eq_true.mp c.a f (List.mem_of_getElem? h)
theorem Says.fn {K : PySem.W.Frag} (c : Says K) {d : Dd} (i : Nat) (h : fns[i]? = some d) : ∃ fd, FunG K d (d.at_ K) fd := by
  have e2 : (fns.map fun d => fnM K (d.at_ K))[i]? = (fns.map Dd.val)[i]? := by rw [c.c]
  rw [List.getElem?_map, List.getElem?_map, h] at e2
  exact Dd.funG (Option.some.inj e2) (List.all_eq_true.mp c.b d (List.mem_of_getElem? h))
/-! ### by names -/

theorem c_glo_is_int {K : PySem.W.Frag} (c : Says K) : (He.Fa.glo "is_int").ok K = true := c.ck (f := fun K => (He.Fa.glo "is_int").ok K) 0 rfl
theorem c_glo_in_bounds {K : PySem.W.Frag} (c : Says K) : (He.Fa.glo "in_bounds").ok K = true := c.ck (f := fun K => (He.Fa.glo "in_bounds").ok K) 1 rfl
theorem c_glo_gcd {K : PySem.W.Frag} (c : Says K) : (He.Fa.glo "gcd").ok K = true := c.ck (f := fun K => (He.Fa.glo "gcd").ok K) 2 rfl
theorem c_glo_common {K : PySem.W.Frag} (c : Says K) : (He.Fa.glo "common").ok K = true := c.ck (f := fun K => (He.Fa.glo "common").ok K) 3 rfl
theorem c_glo_multiple {K : PySem.W.Frag} (c : Says K) : (He.Fa.glo "multiple").ok K = true := c.ck (f := fun K => (He.Fa.glo "multiple").ok K) 4 rfl
theorem c_glo_divides {K : PySem.W.Frag} (c : Says K) : (He.Fa.glo "divides").ok K = true := c.ck (f := fun K => (He.Fa.glo "divides").ok K) 5 rfl
theorem c_glo_radical {K : PySem.W.Frag} (c : Says K) : (He.Fa.glo "radical").ok K = true := c.ck (f := fun K => (He.Fa.glo "radical").ok K) 6 rfl
theorem c_glo_stripped {K : PySem.W.Frag} (c : Says K) : (He.Fa.glo "stripped").ok K = true := c.ck (f := fun K => (He.Fa.glo "stripped").ok K) 7 rfl
theorem c_glo_inverse_known {K : PySem.W.Frag} (c : Says K) : (He.Fa.glo "inverse_known").ok K = true := c.ck (f := fun K => (He.Fa.glo "inverse_known").ok K) 8 rfl
theorem c_glo_inverses_of_both {K : PySem.W.Frag} (c : Says K) : (He.Fa.glo "inverses_of_both").ok K = true := c.ck (f := fun K => (He.Fa.glo "inverses_of_both").ok K) 9 rfl
theorem c_glo_based {K : PySem.W.Frag} (c : Says K) : (He.Fa.glo "based").ok K = true := c.ck (f := fun K => (He.Fa.glo "based").ok K) 10 rfl
theorem c_glo_shallow {K : PySem.W.Frag} (c : Says K) : (He.Fa.glo "shallow").ok K = true := c.ck (f := fun K => (He.Fa.glo "shallow").ok K) 11 rfl
theorem c_glo_checked {K : PySem.W.Frag} (c : Says K) : (He.Fa.glo "checked").ok K = true := c.ck (f := fun K => (He.Fa.glo "checked").ok K) 12 rfl
theorem c_glo_settled {K : PySem.W.Frag} (c : Says K) : (He.Fa.glo "settled").ok K = true := c.ck (f := fun K => (He.Fa.glo "settled").ok K) 13 rfl
theorem c_glo_joined {K : PySem.W.Frag} (c : Says K) : (He.Fa.glo "joined").ok K = true := c.ck (f := fun K => (He.Fa.glo "joined").ok K) 14 rfl
theorem c_glo_lies_within {K : PySem.W.Frag} (c : Says K) : (He.Fa.glo "lies_within").ok K = true := c.ck (f := fun K => (He.Fa.glo "lies_within").ok K) 15 rfl
theorem c_glo__law_bag {K : PySem.W.Frag} (c : Says K) : (He.Fa.glo "_law_bag").ok K = true := c.ck (f := fun K => (He.Fa.glo "_law_bag").ok K) 16 rfl
theorem c_glo__law_draw {K : PySem.W.Frag} (c : Says K) : (He.Fa.glo "_law_draw").ok K = true := c.ck (f := fun K => (He.Fa.glo "_law_draw").ok K) 17 rfl
theorem c_glo__law_pick {K : PySem.W.Frag} (c : Says K) : (He.Fa.glo "_law_pick").ok K = true := c.ck (f := fun K => (He.Fa.glo "_law_pick").ok K) 18 rfl
theorem c_glo__law_same {K : PySem.W.Frag} (c : Says K) : (He.Fa.glo "_law_same").ok K = true := c.ck (f := fun K => (He.Fa.glo "_law_same").ok K) 19 rfl
theorem c_glo__law_gcd {K : PySem.W.Frag} (c : Says K) : (He.Fa.glo "_law_gcd").ok K = true := c.ck (f := fun K => (He.Fa.glo "_law_gcd").ok K) 20 rfl
theorem c_glo__law_lcm {K : PySem.W.Frag} (c : Says K) : (He.Fa.glo "_law_lcm").ok K = true := c.ck (f := fun K => (He.Fa.glo "_law_lcm").ok K) 21 rfl
theorem c_glo__law_strip {K : PySem.W.Frag} (c : Says K) : (He.Fa.glo "_law_strip").ok K = true := c.ck (f := fun K => (He.Fa.glo "_law_strip").ok K) 22 rfl
theorem c_glo__law_radical {K : PySem.W.Frag} (c : Says K) : (He.Fa.glo "_law_radical").ok K = true := c.ck (f := fun K => (He.Fa.glo "_law_radical").ok K) 23 rfl
theorem c_glo__law_product {K : PySem.W.Frag} (c : Says K) : (He.Fa.glo "_law_product").ok K = true := c.ck (f := fun K => (He.Fa.glo "_law_product").ok K) 24 rfl
theorem c_glo__law_ring {K : PySem.W.Frag} (c : Says K) : (He.Fa.glo "_law_ring").ok K = true := c.ck (f := fun K => (He.Fa.glo "_law_ring").ok K) 25 rfl
theorem c_glo__law_plain {K : PySem.W.Frag} (c : Says K) : (He.Fa.glo "_law_plain").ok K = true := c.ck (f := fun K => (He.Fa.glo "_law_plain").ok K) 26 rfl
theorem c_glo__law_any {K : PySem.W.Frag} (c : Says K) : (He.Fa.glo "_law_any").ok K = true := c.ck (f := fun K => (He.Fa.glo "_law_any").ok K) 27 rfl
theorem c_glo__law_fits_part {K : PySem.W.Frag} (c : Says K) : (He.Fa.glo "_law_fits_part").ok K = true := c.ck (f := fun K => (He.Fa.glo "_law_fits_part").ok K) 28 rfl
theorem c_glo__law_commuting {K : PySem.W.Frag} (c : Says K) : (He.Fa.glo "_law_commuting").ok K = true := c.ck (f := fun K => (He.Fa.glo "_law_commuting").ok K) 29 rfl
theorem c_glo__law_settled {K : PySem.W.Frag} (c : Says K) : (He.Fa.glo "_law_settled").ok K = true := c.ck (f := fun K => (He.Fa.glo "_law_settled").ok K) 30 rfl
theorem c_glo__law_told {K : PySem.W.Frag} (c : Says K) : (He.Fa.glo "_law_told").ok K = true := c.ck (f := fun K => (He.Fa.glo "_law_told").ok K) 31 rfl
theorem c_glo__law_realm {K : PySem.W.Frag} (c : Says K) : (He.Fa.glo "_law_realm").ok K = true := c.ck (f := fun K => (He.Fa.glo "_law_realm").ok K) 32 rfl
theorem c_glo__law_drawn_realm {K : PySem.W.Frag} (c : Says K) : (He.Fa.glo "_law_drawn_realm").ok K = true := c.ck (f := fun K => (He.Fa.glo "_law_drawn_realm").ok K) 33 rfl
theorem c_glo__law_settle {K : PySem.W.Frag} (c : Says K) : (He.Fa.glo "_law_settle").ok K = true := c.ck (f := fun K => (He.Fa.glo "_law_settle").ok K) 34 rfl
theorem c_glo__law_samples {K : PySem.W.Frag} (c : Says K) : (He.Fa.glo "_law_samples").ok K = true := c.ck (f := fun K => (He.Fa.glo "_law_samples").ok K) 35 rfl
theorem c_glo_law {K : PySem.W.Frag} (c : Says K) : (He.Fa.glo "law").ok K = true := c.ck (f := fun K => (He.Fa.glo "law").ok K) 36 rfl
theorem c_glo_Fractions {K : PySem.W.Frag} (c : Says K) : (He.Fa.glo "Fractions").ok K = true := c.ck (f := fun K => (He.Fa.glo "Fractions").ok K) 37 rfl
theorem c_glo_Whole {K : PySem.W.Frag} (c : Says K) : (He.Fa.glo "Whole").ok K = true := c.ck (f := fun K => (He.Fa.glo "Whole").ok K) 38 rfl
theorem c_glo_Rests {K : PySem.W.Frag} (c : Says K) : (He.Fa.glo "Rests").ok K = true := c.ck (f := fun K => (He.Fa.glo "Rests").ok K) 39 rfl
theorem c_glo_Sets {K : PySem.W.Frag} (c : Says K) : (He.Fa.glo "Sets").ok K = true := c.ck (f := fun K => (He.Fa.glo "Sets").ok K) 40 rfl
theorem c_glo_Matrices {K : PySem.W.Frag} (c : Says K) : (He.Fa.glo "Matrices").ok K = true := c.ck (f := fun K => (He.Fa.glo "Matrices").ok K) 41 rfl
theorem c_glo_Triangles {K : PySem.W.Frag} (c : Says K) : (He.Fa.glo "Triangles").ok K = true := c.ck (f := fun K => (He.Fa.glo "Triangles").ok K) 42 rfl
theorem c_glo_Polynomials {K : PySem.W.Frag} (c : Says K) : (He.Fa.glo "Polynomials").ok K = true := c.ck (f := fun K => (He.Fa.glo "Polynomials").ok K) 43 rfl
theorem c_glo_Duals {K : PySem.W.Frag} (c : Says K) : (He.Fa.glo "Duals").ok K = true := c.ck (f := fun K => (He.Fa.glo "Duals").ok K) 44 rfl
theorem c_glo_Roots {K : PySem.W.Frag} (c : Says K) : (He.Fa.glo "Roots").ok K = true := c.ck (f := fun K => (He.Fa.glo "Roots").ok K) 45 rfl
theorem c_glo_Words {K : PySem.W.Frag} (c : Says K) : (He.Fa.glo "Words").ok K = true := c.ck (f := fun K => (He.Fa.glo "Words").ok K) 46 rfl
theorem c_glo_Pairs {K : PySem.W.Frag} (c : Says K) : (He.Fa.glo "Pairs").ok K = true := c.ck (f := fun K => (He.Fa.glo "Pairs").ok K) 47 rfl
theorem c_glo_Quaternions {K : PySem.W.Frag} (c : Says K) : (He.Fa.glo "Quaternions").ok K = true := c.ck (f := fun K => (He.Fa.glo "Quaternions").ok K) 48 rfl
theorem c_glo_Swapped {K : PySem.W.Frag} (c : Says K) : (He.Fa.glo "Swapped").ok K = true := c.ck (f := fun K => (He.Fa.glo "Swapped").ok K) 49 rfl
theorem c_glo_Twists {K : PySem.W.Frag} (c : Says K) : (He.Fa.glo "Twists").ok K = true := c.ck (f := fun K => (He.Fa.glo "Twists").ok K) 50 rfl
theorem c_glo_Ring {K : PySem.W.Frag} (c : Says K) : (He.Fa.glo "Ring").ok K = true := c.ck (f := fun K => (He.Fa.glo "Ring").ok K) 51 rfl
theorem c_glo_Realm {K : PySem.W.Frag} (c : Says K) : (He.Fa.glo "Realm").ok K = true := c.ck (f := fun K => (He.Fa.glo "Realm").ok K) 52 rfl
theorem c_free_isinstance {K : PySem.W.Frag} (c : Says K) : (He.Fa.free "isinstance").ok K = true := c.ck (f := fun K => (He.Fa.free "isinstance").ok K) 53 rfl
theorem c_free_int {K : PySem.W.Frag} (c : Says K) : (He.Fa.free "int").ok K = true := c.ck (f := fun K => (He.Fa.free "int").ok K) 54 rfl
theorem c_free_bool {K : PySem.W.Frag} (c : Says K) : (He.Fa.free "bool").ok K = true := c.ck (f := fun K => (He.Fa.free "bool").ok K) 55 rfl
theorem c_free_tuple {K : PySem.W.Frag} (c : Says K) : (He.Fa.free "tuple").ok K = true := c.ck (f := fun K => (He.Fa.free "tuple").ok K) 56 rfl
theorem c_free_list {K : PySem.W.Frag} (c : Says K) : (He.Fa.free "list").ok K = true := c.ck (f := fun K => (He.Fa.free "list").ok K) 57 rfl
theorem c_free_len {K : PySem.W.Frag} (c : Says K) : (He.Fa.free "len").ok K = true := c.ck (f := fun K => (He.Fa.free "len").ok K) 58 rfl
theorem c_free_abs {K : PySem.W.Frag} (c : Says K) : (He.Fa.free "abs").ok K = true := c.ck (f := fun K => (He.Fa.free "abs").ok K) 59 rfl
theorem c_free_max {K : PySem.W.Frag} (c : Says K) : (He.Fa.free "max").ok K = true := c.ck (f := fun K => (He.Fa.free "max").ok K) 60 rfl
theorem c_free_range {K : PySem.W.Frag} (c : Says K) : (He.Fa.free "range").ok K = true := c.ck (f := fun K => (He.Fa.free "range").ok K) 61 rfl
theorem c_free_all {K : PySem.W.Frag} (c : Says K) : (He.Fa.free "all").ok K = true := c.ck (f := fun K => (He.Fa.free "all").ok K) 62 rfl
theorem c_free_zip {K : PySem.W.Frag} (c : Says K) : (He.Fa.free "zip").ok K = true := c.ck (f := fun K => (He.Fa.free "zip").ok K) 63 rfl
theorem c_free_super {K : PySem.W.Frag} (c : Says K) : (He.Fa.free "super").ok K = true := c.ck (f := fun K => (He.Fa.free "super").ok K) 64 rfl
theorem c_MOST {K : PySem.W.Frag} (c : Says K) : (He.Fa.int "MOST" 1000000).ok K = true := c.ck (f := fun K => (He.Fa.int "MOST" 1000000).ok K) 65 rfl
theorem c_rc_Fractions {K : PySem.W.Frag} (c : Says K) : rclsB K (He.ga K "Fractions") = true := c.ck (f := fun K => rclsB K (He.ga K "Fractions")) 66 rfl
theorem c_mk_Fractions {K : PySem.W.Frag} (c : Says K) : (He.Fa.mkr "Fractions").ok K = true := c.ck (f := fun K => (He.Fa.mkr "Fractions").ok K) 67 rfl
theorem c_rc_Whole {K : PySem.W.Frag} (c : Says K) : rclsB K (He.ga K "Whole") = true := c.ck (f := fun K => rclsB K (He.ga K "Whole")) 68 rfl
theorem c_mk_Whole {K : PySem.W.Frag} (c : Says K) : (He.Fa.mkr "Whole").ok K = true := c.ck (f := fun K => (He.Fa.mkr "Whole").ok K) 69 rfl
theorem c_rc_Rests {K : PySem.W.Frag} (c : Says K) : rclsB K (He.ga K "Rests") = true := c.ck (f := fun K => rclsB K (He.ga K "Rests")) 70 rfl
theorem c_mk_Rests {K : PySem.W.Frag} (c : Says K) : (He.Fa.mkr "Rests").ok K = true := c.ck (f := fun K => (He.Fa.mkr "Rests").ok K) 71 rfl
theorem c_rc_Sets {K : PySem.W.Frag} (c : Says K) : rclsB K (He.ga K "Sets") = true := c.ck (f := fun K => rclsB K (He.ga K "Sets")) 72 rfl
theorem c_mk_Sets {K : PySem.W.Frag} (c : Says K) : (He.Fa.mkr "Sets").ok K = true := c.ck (f := fun K => (He.Fa.mkr "Sets").ok K) 73 rfl
theorem c_rc_Matrices {K : PySem.W.Frag} (c : Says K) : rclsB K (He.ga K "Matrices") = true := c.ck (f := fun K => rclsB K (He.ga K "Matrices")) 74 rfl
theorem c_mk_Matrices {K : PySem.W.Frag} (c : Says K) : (He.Fa.mkr "Matrices").ok K = true := c.ck (f := fun K => (He.Fa.mkr "Matrices").ok K) 75 rfl
theorem c_rc_Triangles {K : PySem.W.Frag} (c : Says K) : rclsB K (He.ga K "Triangles") = true := c.ck (f := fun K => rclsB K (He.ga K "Triangles")) 76 rfl
theorem c_mk_Triangles {K : PySem.W.Frag} (c : Says K) : (He.Fa.mkr "Triangles").ok K = true := c.ck (f := fun K => (He.Fa.mkr "Triangles").ok K) 77 rfl
theorem c_rc_Polynomials {K : PySem.W.Frag} (c : Says K) : rclsB K (He.ga K "Polynomials") = true := c.ck (f := fun K => rclsB K (He.ga K "Polynomials")) 78 rfl
theorem c_mk_Polynomials {K : PySem.W.Frag} (c : Says K) : (He.Fa.mkr "Polynomials").ok K = true := c.ck (f := fun K => (He.Fa.mkr "Polynomials").ok K) 79 rfl
theorem c_rc_Duals {K : PySem.W.Frag} (c : Says K) : rclsB K (He.ga K "Duals") = true := c.ck (f := fun K => rclsB K (He.ga K "Duals")) 80 rfl
theorem c_mk_Duals {K : PySem.W.Frag} (c : Says K) : (He.Fa.mkr "Duals").ok K = true := c.ck (f := fun K => (He.Fa.mkr "Duals").ok K) 81 rfl
theorem c_rc_Roots {K : PySem.W.Frag} (c : Says K) : rclsB K (He.ga K "Roots") = true := c.ck (f := fun K => rclsB K (He.ga K "Roots")) 82 rfl
theorem c_mk_Roots {K : PySem.W.Frag} (c : Says K) : (He.Fa.mkr "Roots").ok K = true := c.ck (f := fun K => (He.Fa.mkr "Roots").ok K) 83 rfl
theorem c_rc_Words {K : PySem.W.Frag} (c : Says K) : rclsB K (He.ga K "Words") = true := c.ck (f := fun K => rclsB K (He.ga K "Words")) 84 rfl
theorem c_mk_Words {K : PySem.W.Frag} (c : Says K) : (He.Fa.mkr "Words").ok K = true := c.ck (f := fun K => (He.Fa.mkr "Words").ok K) 85 rfl
theorem c_rc_Pairs {K : PySem.W.Frag} (c : Says K) : rclsB K (He.ga K "Pairs") = true := c.ck (f := fun K => rclsB K (He.ga K "Pairs")) 86 rfl
theorem c_mk_Pairs {K : PySem.W.Frag} (c : Says K) : (He.Fa.mkr "Pairs").ok K = true := c.ck (f := fun K => (He.Fa.mkr "Pairs").ok K) 87 rfl
theorem c_rc_Quaternions {K : PySem.W.Frag} (c : Says K) : rclsB K (He.ga K "Quaternions") = true := c.ck (f := fun K => rclsB K (He.ga K "Quaternions")) 88 rfl
theorem c_mk_Quaternions {K : PySem.W.Frag} (c : Says K) : (He.Fa.mkr "Quaternions").ok K = true := c.ck (f := fun K => (He.Fa.mkr "Quaternions").ok K) 89 rfl
theorem c_rc_Swapped {K : PySem.W.Frag} (c : Says K) : rclsB K (He.ga K "Swapped") = true := c.ck (f := fun K => rclsB K (He.ga K "Swapped")) 90 rfl
theorem c_mk_Swapped {K : PySem.W.Frag} (c : Says K) : (He.Fa.mkr "Swapped").ok K = true := c.ck (f := fun K => (He.Fa.mkr "Swapped").ok K) 91 rfl
theorem c_rc_Twists {K : PySem.W.Frag} (c : Says K) : rclsB K (He.ga K "Twists") = true := c.ck (f := fun K => rclsB K (He.ga K "Twists")) 92 rfl
theorem c_mk_Twists {K : PySem.W.Frag} (c : Says K) : (He.Fa.mkr "Twists").ok K = true := c.ck (f := fun K => (He.Fa.mkr "Twists").ok K) 93 rfl
theorem c_sup_Fractions_Fractions {K : PySem.W.Frag} (c : Says K) : supB K (He.ga K "Fractions") (He.ga K "Fractions") (He.ma K (He.ga K "Ring") "__init__") = true := c.ck (f := fun K => supB K (He.ga K "Fractions") (He.ga K "Fractions") (He.ma K (He.ga K "Ring") "__init__")) 94 rfl
theorem c_sup_Whole_Whole {K : PySem.W.Frag} (c : Says K) : supB K (He.ga K "Whole") (He.ga K "Whole") (He.ma K (He.ga K "Ring") "__init__") = true := c.ck (f := fun K => supB K (He.ga K "Whole") (He.ga K "Whole") (He.ma K (He.ga K "Ring") "__init__")) 95 rfl
theorem c_sup_Rests_Rests {K : PySem.W.Frag} (c : Says K) : supB K (He.ga K "Rests") (He.ga K "Rests") (He.ma K (He.ga K "Ring") "__init__") = true := c.ck (f := fun K => supB K (He.ga K "Rests") (He.ga K "Rests") (He.ma K (He.ga K "Ring") "__init__")) 96 rfl
theorem c_sup_Sets_Sets {K : PySem.W.Frag} (c : Says K) : supB K (He.ga K "Sets") (He.ga K "Sets") (He.ma K (He.ga K "Ring") "__init__") = true := c.ck (f := fun K => supB K (He.ga K "Sets") (He.ga K "Sets") (He.ma K (He.ga K "Ring") "__init__")) 97 rfl
theorem c_sup_Matrices_Matrices {K : PySem.W.Frag} (c : Says K) : supB K (He.ga K "Matrices") (He.ga K "Matrices") (He.ma K (He.ga K "Ring") "__init__") = true := c.ck (f := fun K => supB K (He.ga K "Matrices") (He.ga K "Matrices") (He.ma K (He.ga K "Ring") "__init__")) 98 rfl
theorem c_sup_Triangles_Triangles {K : PySem.W.Frag} (c : Says K) : supB K (He.ga K "Triangles") (He.ga K "Triangles") (He.ma K (He.ga K "Ring") "__init__") = true := c.ck (f := fun K => supB K (He.ga K "Triangles") (He.ga K "Triangles") (He.ma K (He.ga K "Ring") "__init__")) 99 rfl
theorem c_sup_Polynomials_Polynomials {K : PySem.W.Frag} (c : Says K) : supB K (He.ga K "Polynomials") (He.ga K "Polynomials") (He.ma K (He.ga K "Ring") "__init__") = true := c.ck (f := fun K => supB K (He.ga K "Polynomials") (He.ga K "Polynomials") (He.ma K (He.ga K "Ring") "__init__")) 100 rfl
theorem c_sup_Duals_Duals {K : PySem.W.Frag} (c : Says K) : supB K (He.ga K "Duals") (He.ga K "Duals") (He.ma K (He.ga K "Ring") "__init__") = true := c.ck (f := fun K => supB K (He.ga K "Duals") (He.ga K "Duals") (He.ma K (He.ga K "Ring") "__init__")) 101 rfl
theorem c_sup_Roots_Roots {K : PySem.W.Frag} (c : Says K) : supB K (He.ga K "Roots") (He.ga K "Roots") (He.ma K (He.ga K "Duals") "__init__") = true := c.ck (f := fun K => supB K (He.ga K "Roots") (He.ga K "Roots") (He.ma K (He.ga K "Duals") "__init__")) 102 rfl
theorem c_sup_Roots_Duals {K : PySem.W.Frag} (c : Says K) : supB K (He.ga K "Roots") (He.ga K "Duals") (He.ma K (He.ga K "Ring") "__init__") = true := c.ck (f := fun K => supB K (He.ga K "Roots") (He.ga K "Duals") (He.ma K (He.ga K "Ring") "__init__")) 103 rfl
theorem c_sup_Words_Words {K : PySem.W.Frag} (c : Says K) : supB K (He.ga K "Words") (He.ga K "Words") (He.ma K (He.ga K "Ring") "__init__") = true := c.ck (f := fun K => supB K (He.ga K "Words") (He.ga K "Words") (He.ma K (He.ga K "Ring") "__init__")) 104 rfl
theorem c_sup_Pairs_Pairs {K : PySem.W.Frag} (c : Says K) : supB K (He.ga K "Pairs") (He.ga K "Pairs") (He.ma K (He.ga K "Ring") "__init__") = true := c.ck (f := fun K => supB K (He.ga K "Pairs") (He.ga K "Pairs") (He.ma K (He.ga K "Ring") "__init__")) 105 rfl
theorem c_sup_Quaternions_Quaternions {K : PySem.W.Frag} (c : Says K) : supB K (He.ga K "Quaternions") (He.ga K "Quaternions") (He.ma K (He.ga K "Ring") "__init__") = true := c.ck (f := fun K => supB K (He.ga K "Quaternions") (He.ga K "Quaternions") (He.ma K (He.ga K "Ring") "__init__")) 106 rfl
theorem c_sup_Swapped_Swapped {K : PySem.W.Frag} (c : Says K) : supB K (He.ga K "Swapped") (He.ga K "Swapped") (He.ma K (He.ga K "Ring") "__init__") = true := c.ck (f := fun K => supB K (He.ga K "Swapped") (He.ga K "Swapped") (He.ma K (He.ga K "Ring") "__init__")) 107 rfl
theorem c_sup_Twists_Twists {K : PySem.W.Frag} (c : Says K) : supB K (He.ga K "Twists") (He.ga K "Twists") (He.ma K (He.ga K "Ring") "__init__") = true := c.ck (f := fun K => supB K (He.ga K "Twists") (He.ga K "Twists") (He.ma K (He.ga K "Ring") "__init__")) 108 rfl
theorem c_cell_Fractions {K : PySem.W.Frag} (c : Says K) : cellB K (He.ma K (He.ga K "Fractions") "__init__") (He.ga K "Fractions") = true := c.ck (f := fun K => cellB K (He.ma K (He.ga K "Fractions") "__init__") (He.ga K "Fractions")) 109 rfl
theorem c_cell_Whole {K : PySem.W.Frag} (c : Says K) : cellB K (He.ma K (He.ga K "Whole") "__init__") (He.ga K "Whole") = true := c.ck (f := fun K => cellB K (He.ma K (He.ga K "Whole") "__init__") (He.ga K "Whole")) 110 rfl
theorem c_cell_Rests {K : PySem.W.Frag} (c : Says K) : cellB K (He.ma K (He.ga K "Rests") "__init__") (He.ga K "Rests") = true := c.ck (f := fun K => cellB K (He.ma K (He.ga K "Rests") "__init__") (He.ga K "Rests")) 111 rfl
theorem c_cell_Sets {K : PySem.W.Frag} (c : Says K) : cellB K (He.ma K (He.ga K "Sets") "__init__") (He.ga K "Sets") = true := c.ck (f := fun K => cellB K (He.ma K (He.ga K "Sets") "__init__") (He.ga K "Sets")) 112 rfl
theorem c_cell_Matrices {K : PySem.W.Frag} (c : Says K) : cellB K (He.ma K (He.ga K "Matrices") "__init__") (He.ga K "Matrices") = true := c.ck (f := fun K => cellB K (He.ma K (He.ga K "Matrices") "__init__") (He.ga K "Matrices")) 113 rfl
theorem c_cell_Triangles {K : PySem.W.Frag} (c : Says K) : cellB K (He.ma K (He.ga K "Triangles") "__init__") (He.ga K "Triangles") = true := c.ck (f := fun K => cellB K (He.ma K (He.ga K "Triangles") "__init__") (He.ga K "Triangles")) 114 rfl
theorem c_cell_Polynomials {K : PySem.W.Frag} (c : Says K) : cellB K (He.ma K (He.ga K "Polynomials") "__init__") (He.ga K "Polynomials") = true := c.ck (f := fun K => cellB K (He.ma K (He.ga K "Polynomials") "__init__") (He.ga K "Polynomials")) 115 rfl
theorem c_cell_Duals {K : PySem.W.Frag} (c : Says K) : cellB K (He.ma K (He.ga K "Duals") "__init__") (He.ga K "Duals") = true := c.ck (f := fun K => cellB K (He.ma K (He.ga K "Duals") "__init__") (He.ga K "Duals")) 116 rfl
theorem c_cell_Roots {K : PySem.W.Frag} (c : Says K) : cellB K (He.ma K (He.ga K "Roots") "__init__") (He.ga K "Roots") = true := c.ck (f := fun K => cellB K (He.ma K (He.ga K "Roots") "__init__") (He.ga K "Roots")) 117 rfl
theorem c_cell_Words {K : PySem.W.Frag} (c : Says K) : cellB K (He.ma K (He.ga K "Words") "__init__") (He.ga K "Words") = true := c.ck (f := fun K => cellB K (He.ma K (He.ga K "Words") "__init__") (He.ga K "Words")) 118 rfl
theorem c_cell_Pairs {K : PySem.W.Frag} (c : Says K) : cellB K (He.ma K (He.ga K "Pairs") "__init__") (He.ga K "Pairs") = true := c.ck (f := fun K => cellB K (He.ma K (He.ga K "Pairs") "__init__") (He.ga K "Pairs")) 119 rfl
theorem c_cell_Quaternions {K : PySem.W.Frag} (c : Says K) : cellB K (He.ma K (He.ga K "Quaternions") "__init__") (He.ga K "Quaternions") = true := c.ck (f := fun K => cellB K (He.ma K (He.ga K "Quaternions") "__init__") (He.ga K "Quaternions")) 120 rfl
theorem c_cell_Swapped {K : PySem.W.Frag} (c : Says K) : cellB K (He.ma K (He.ga K "Swapped") "__init__") (He.ga K "Swapped") = true := c.ck (f := fun K => cellB K (He.ma K (He.ga K "Swapped") "__init__") (He.ga K "Swapped")) 121 rfl
theorem c_cell_Twists {K : PySem.W.Frag} (c : Says K) : cellB K (He.ma K (He.ga K "Twists") "__init__") (He.ga K "Twists") = true := c.ck (f := fun K => cellB K (He.ma K (He.ga K "Twists") "__init__") (He.ga K "Twists")) 122 rfl
theorem c_fn_Ring_init {K : PySem.W.Frag} (c : Says K) : PySem.W.isFn K (.ref (He.ma K (He.ga K "Ring") "__init__")) = true := c.ck (f := fun K => PySem.W.isFn K (.ref (He.ma K (He.ga K "Ring") "__init__"))) 123 rfl
theorem c_fni_Ring_init {K : PySem.W.Frag} (c : Says K) : PySem.W.fnIn K (He.ma K (He.ga K "Ring") "__init__") = true := c.ck (f := fun K => PySem.W.fnIn K (He.ma K (He.ga K "Ring") "__init__")) 124 rfl
theorem c_fn_Duals_init {K : PySem.W.Frag} (c : Says K) : PySem.W.isFn K (.ref (He.ma K (He.ga K "Duals") "__init__")) = true := c.ck (f := fun K => PySem.W.isFn K (.ref (He.ma K (He.ga K "Duals") "__init__"))) 125 rfl
theorem c_fni_Duals_init {K : PySem.W.Frag} (c : Says K) : PySem.W.fnIn K (He.ma K (He.ga K "Duals") "__init__") = true := c.ck (f := fun K => PySem.W.fnIn K (He.ma K (He.ga K "Duals") "__init__")) 126 rfl
theorem c_sup0 {K : PySem.W.Frag} (c : Says K) : supOk K = true := c.ck (f := fun K => supOk K) 127 rfl
theorem c_isi_WR {K : PySem.W.Frag} (c : Says K) : decide (PySem.W.kitOne K (.ref (He.ga K "Whole")) (.ref (He.ga K "Rests")) = some false) = true := c.ck (f := fun K => decide (PySem.W.kitOne K (.ref (He.ga K "Whole")) (.ref (He.ga K "Rests")) = some false)) 128 rfl
theorem c_isi_RW {K : PySem.W.Frag} (c : Says K) : decide (PySem.W.kitOne K (.ref (He.ga K "Rests")) (.ref (He.ga K "Whole")) = some false) = true := c.ck (f := fun K => decide (PySem.W.kitOne K (.ref (He.ga K "Rests")) (.ref (He.ga K "Whole")) = some false)) 129 rfl
theorem c_isi_LL {K : PySem.W.Frag} (c : Says K) : decide (PySem.W.kitOne K (.ref (He.ga K "Realm")) (.ref (He.ga K "Realm")) = some true) = true := c.ck (f := fun K => decide (PySem.W.kitOne K (.ref (He.ga K "Realm")) (.ref (He.ga K "Realm")) = some true)) 130 rfl
theorem c_cls_Realm {K : PySem.W.Frag} (c : Says K) : (He.Fa.cls "Realm").ok K = true := c.ck (f := fun K => (He.Fa.cls "Realm").ok K) 131 rfl
theorem c_ty_Realm {K : PySem.W.Frag} (c : Says K) : tyB K (He.ga K "Realm") = true := c.ck (f := fun K => tyB K (He.ga K "Realm")) 132 rfl
theorem c_mk_Realm {K : PySem.W.Frag} (c : Says K) : (He.Fa.mkr "Realm").ok K = true := c.ck (f := fun K => (He.Fa.mkr "Realm").ok K) 133 rfl
theorem c_noat_Realm {K : PySem.W.Frag} (c : Says K) : (He.Fa.noat "Realm" "_numbers").ok K = true := c.ck (f := fun K => (He.Fa.noat "Realm" "_numbers").ok K) 134 rfl
theorem c_prop_Realm_inverse {K : PySem.W.Frag} (c : Says K) : propB K (He.ga K "Realm") "inverse" (He.ma K (He.ga K "Realm") "inverse") = true := c.ck (f := fun K => propB K (He.ga K "Realm") "inverse" (He.ma K (He.ga K "Realm") "inverse")) 135 rfl
theorem c_prop_Realm_ones {K : PySem.W.Frag} (c : Says K) : propB K (He.ga K "Realm") "ones" (He.ma K (He.ga K "Realm") "ones") = true := c.ck (f := fun K => propB K (He.ga K "Realm") "ones" (He.ma K (He.ga K "Realm") "ones")) 136 rfl
theorem c_prop_Realm_swaps {K : PySem.W.Frag} (c : Says K) : propB K (He.ga K "Realm") "swaps" (He.ma K (He.ga K "Realm") "swaps") = true := c.ck (f := fun K => propB K (He.ga K "Realm") "swaps" (He.ma K (He.ga K "Realm") "swaps")) 137 rfl
theorem c_prop_Realm_squares {K : PySem.W.Frag} (c : Says K) : propB K (He.ga K "Realm") "squares" (He.ma K (He.ga K "Realm") "squares") = true := c.ck (f := fun K => propB K (He.ga K "Realm") "squares" (He.ma K (He.ga K "Realm") "squares")) 138 rfl
theorem c_meth_Realm_within {K : PySem.W.Frag} (c : Says K) : (He.Fa.meth "Realm" "within").ok K = true := c.ck (f := fun K => (He.Fa.meth "Realm" "within").ok K) 139 rfl
theorem c_meth_Realm_or {K : PySem.W.Frag} (c : Says K) : (He.Fa.meth "Realm" "__or__").ok K = true := c.ck (f := fun K => (He.Fa.meth "Realm" "__or__").ok K) 140 rfl
theorem c_meth_Realm_and {K : PySem.W.Frag} (c : Says K) : (He.Fa.meth "Realm" "__and__").ok K = true := c.ck (f := fun K => (He.Fa.meth "Realm" "__and__").ok K) 141 rfl
theorem c_meth_Realm_eq {K : PySem.W.Frag} (c : Says K) : (He.Fa.meth "Realm" "__eq__").ok K = true := c.ck (f := fun K => (He.Fa.meth "Realm" "__eq__").ok K) 142 rfl
theorem c_meth_Realm_contains {K : PySem.W.Frag} (c : Says K) : (He.Fa.meth "Realm" "__contains__").ok K = true := c.ck (f := fun K => (He.Fa.meth "Realm" "__contains__").ok K) 143 rfl
theorem c_self_Realm {K : PySem.W.Frag} (c : Says K) : PySem.W.selfFirst K (He.ga K "Realm") = true := c.ck (f := fun K => PySem.W.selfFirst K (He.ga K "Realm")) 144 rfl
theorem c_st_Realm_everywhere {K : PySem.W.Frag} (c : Says K) : statB K (He.ga K "Realm") "everywhere" = true := c.ck (f := fun K => statB K (He.ga K "Realm") "everywhere") 145 rfl
theorem c_st_Realm_nowhere {K : PySem.W.Frag} (c : Says K) : statB K (He.ga K "Realm") "nowhere" = true := c.ck (f := fun K => statB K (He.ga K "Realm") "nowhere") 146 rfl
theorem c_cread_Realm {K : PySem.W.Frag} (c : Says K) : creadB K (He.ga K "Realm") = true := c.ck (f := fun K => creadB K (He.ga K "Realm")) 147 rfl
theorem c_cread_Ring {K : PySem.W.Frag} (c : Says K) : creadB K (He.ga K "Ring") = true := c.ck (f := fun K => creadB K (He.ga K "Ring")) 148 rfl
theorem c_cval_MD {K : PySem.W.Frag} (c : Says K) : cvalB K (He.ga K "Ring") "MOST_DEPTH" 4 = true := c.ck (f := fun K => cvalB K (He.ga K "Ring") "MOST_DEPTH" 4) 149 rfl
theorem f_Fis_int {K : PySem.W.Frag} (c : Says K) : ∃ fd, FunG K dFis_int (dFis_int.at_ K) fd := c.fn 0 rfl
theorem f_Fin_bounds {K : PySem.W.Frag} (c : Says K) : ∃ fd, FunG K dFin_bounds (dFin_bounds.at_ K) fd := c.fn 1 rfl
theorem f_Fgcd {K : PySem.W.Frag} (c : Says K) : ∃ fd, FunG K dFgcd (dFgcd.at_ K) fd := c.fn 2 rfl
theorem f_Fcommon {K : PySem.W.Frag} (c : Says K) : ∃ fd, FunG K dFcommon (dFcommon.at_ K) fd := c.fn 3 rfl
theorem f_Fmultiple {K : PySem.W.Frag} (c : Says K) : ∃ fd, FunG K dFmultiple (dFmultiple.at_ K) fd := c.fn 4 rfl
theorem f_Fdivides {K : PySem.W.Frag} (c : Says K) : ∃ fd, FunG K dFdivides (dFdivides.at_ K) fd := c.fn 5 rfl
theorem f_Fradical {K : PySem.W.Frag} (c : Says K) : ∃ fd, FunG K dFradical (dFradical.at_ K) fd := c.fn 6 rfl
theorem f_Fstripped {K : PySem.W.Frag} (c : Says K) : ∃ fd, FunG K dFstripped (dFstripped.at_ K) fd := c.fn 7 rfl
theorem f_Finverse_known {K : PySem.W.Frag} (c : Says K) : ∃ fd, FunG K dFinverse_known (dFinverse_known.at_ K) fd := c.fn 8 rfl
theorem f_Finverses_of_both {K : PySem.W.Frag} (c : Says K) : ∃ fd, FunG K dFinverses_of_both (dFinverses_of_both.at_ K) fd := c.fn 9 rfl
theorem f_Fbased {K : PySem.W.Frag} (c : Says K) : ∃ fd, FunG K dFbased (dFbased.at_ K) fd := c.fn 10 rfl
theorem f_Fshallow {K : PySem.W.Frag} (c : Says K) : ∃ fd, FunG K dFshallow (dFshallow.at_ K) fd := c.fn 11 rfl
theorem f_Fchecked {K : PySem.W.Frag} (c : Says K) : ∃ fd, FunG K dFchecked (dFchecked.at_ K) fd := c.fn 12 rfl
theorem f_Fsettled {K : PySem.W.Frag} (c : Says K) : ∃ fd, FunG K dFsettled (dFsettled.at_ K) fd := c.fn 13 rfl
theorem f_Fjoined {K : PySem.W.Frag} (c : Says K) : ∃ fd, FunG K dFjoined (dFjoined.at_ K) fd := c.fn 14 rfl
theorem f_Flies_within {K : PySem.W.Frag} (c : Says K) : ∃ fd, FunG K dFlies_within (dFlies_within.at_ K) fd := c.fn 15 rfl
theorem f_F_law_bag {K : PySem.W.Frag} (c : Says K) : ∃ fd, FunG K dF_law_bag (dF_law_bag.at_ K) fd := c.fn 16 rfl
theorem f_F_law_draw {K : PySem.W.Frag} (c : Says K) : ∃ fd, FunG K dF_law_draw (dF_law_draw.at_ K) fd := c.fn 17 rfl
theorem f_F_law_pick {K : PySem.W.Frag} (c : Says K) : ∃ fd, FunG K dF_law_pick (dF_law_pick.at_ K) fd := c.fn 18 rfl
theorem f_F_law_same {K : PySem.W.Frag} (c : Says K) : ∃ fd, FunG K dF_law_same (dF_law_same.at_ K) fd := c.fn 19 rfl
theorem f_F_law_gcd {K : PySem.W.Frag} (c : Says K) : ∃ fd, FunG K dF_law_gcd (dF_law_gcd.at_ K) fd := c.fn 20 rfl
theorem f_F_law_lcm {K : PySem.W.Frag} (c : Says K) : ∃ fd, FunG K dF_law_lcm (dF_law_lcm.at_ K) fd := c.fn 21 rfl
theorem f_F_law_strip {K : PySem.W.Frag} (c : Says K) : ∃ fd, FunG K dF_law_strip (dF_law_strip.at_ K) fd := c.fn 22 rfl
theorem f_F_law_radical {K : PySem.W.Frag} (c : Says K) : ∃ fd, FunG K dF_law_radical (dF_law_radical.at_ K) fd := c.fn 23 rfl
theorem f_F_law_product {K : PySem.W.Frag} (c : Says K) : ∃ fd, FunG K dF_law_product (dF_law_product.at_ K) fd := c.fn 24 rfl
theorem f_F_law_ring {K : PySem.W.Frag} (c : Says K) : ∃ fd, FunG K dF_law_ring (dF_law_ring.at_ K) fd := c.fn 25 rfl
theorem f_F_law_plain {K : PySem.W.Frag} (c : Says K) : ∃ fd, FunG K dF_law_plain (dF_law_plain.at_ K) fd := c.fn 26 rfl
theorem f_F_law_any {K : PySem.W.Frag} (c : Says K) : ∃ fd, FunG K dF_law_any (dF_law_any.at_ K) fd := c.fn 27 rfl
theorem f_F_law_fits_part {K : PySem.W.Frag} (c : Says K) : ∃ fd, FunG K dF_law_fits_part (dF_law_fits_part.at_ K) fd := c.fn 28 rfl
theorem f_F_law_commuting {K : PySem.W.Frag} (c : Says K) : ∃ fd, FunG K dF_law_commuting (dF_law_commuting.at_ K) fd := c.fn 29 rfl
theorem f_F_law_settled {K : PySem.W.Frag} (c : Says K) : ∃ fd, FunG K dF_law_settled (dF_law_settled.at_ K) fd := c.fn 30 rfl
theorem f_F_law_told {K : PySem.W.Frag} (c : Says K) : ∃ fd, FunG K dF_law_told (dF_law_told.at_ K) fd := c.fn 31 rfl
theorem f_F_law_realm {K : PySem.W.Frag} (c : Says K) : ∃ fd, FunG K dF_law_realm (dF_law_realm.at_ K) fd := c.fn 32 rfl
theorem f_F_law_drawn_realm {K : PySem.W.Frag} (c : Says K) : ∃ fd, FunG K dF_law_drawn_realm (dF_law_drawn_realm.at_ K) fd := c.fn 33 rfl
theorem f_F_law_settle {K : PySem.W.Frag} (c : Says K) : ∃ fd, FunG K dF_law_settle (dF_law_settle.at_ K) fd := c.fn 34 rfl
theorem f_F_law_samples {K : PySem.W.Frag} (c : Says K) : ∃ fd, FunG K dF_law_samples (dF_law_samples.at_ K) fd := c.fn 35 rfl
theorem f_Flaw {K : PySem.W.Frag} (c : Says K) : ∃ fd, FunG K dFlaw (dFlaw.at_ K) fd := c.fn 36 rfl
theorem f_MRing_init {K : PySem.W.Frag} (c : Says K) : ∃ fd, FunG K dMRing_init (dMRing_init.at_ K) fd := c.fn 37 rfl
theorem f_MRing_ones {K : PySem.W.Frag} (c : Says K) : ∃ fd, FunG K dMRing_ones (dMRing_ones.at_ K) fd := c.fn 38 rfl
theorem f_MRing_swaps {K : PySem.W.Frag} (c : Says K) : ∃ fd, FunG K dMRing_swaps (dMRing_swaps.at_ K) fd := c.fn 39 rfl
theorem f_MRing_squares {K : PySem.W.Frag} (c : Says K) : ∃ fd, FunG K dMRing_squares (dMRing_squares.at_ K) fd := c.fn 40 rfl
theorem f_MRing_depth {K : PySem.W.Frag} (c : Says K) : ∃ fd, FunG K dMRing_depth (dMRing_depth.at_ K) fd := c.fn 41 rfl
theorem f_MRing_text {K : PySem.W.Frag} (c : Says K) : ∃ fd, FunG K dMRing_text (dMRing_text.at_ K) fd := c.fn 42 rfl
theorem f_MFractions_init {K : PySem.W.Frag} (c : Says K) : ∃ fd, FunG K dMFractions_init (dMFractions_init.at_ K) fd := c.fn 43 rfl
theorem f_MWhole_init {K : PySem.W.Frag} (c : Says K) : ∃ fd, FunG K dMWhole_init (dMWhole_init.at_ K) fd := c.fn 44 rfl
theorem f_MRests_init {K : PySem.W.Frag} (c : Says K) : ∃ fd, FunG K dMRests_init (dMRests_init.at_ K) fd := c.fn 45 rfl
theorem f_MSets_init {K : PySem.W.Frag} (c : Says K) : ∃ fd, FunG K dMSets_init (dMSets_init.at_ K) fd := c.fn 46 rfl
theorem f_MMatrices_init {K : PySem.W.Frag} (c : Says K) : ∃ fd, FunG K dMMatrices_init (dMMatrices_init.at_ K) fd := c.fn 47 rfl
theorem f_MTriangles_init {K : PySem.W.Frag} (c : Says K) : ∃ fd, FunG K dMTriangles_init (dMTriangles_init.at_ K) fd := c.fn 48 rfl
theorem f_MPolynomials_init {K : PySem.W.Frag} (c : Says K) : ∃ fd, FunG K dMPolynomials_init (dMPolynomials_init.at_ K) fd := c.fn 49 rfl
theorem f_MDuals_init {K : PySem.W.Frag} (c : Says K) : ∃ fd, FunG K dMDuals_init (dMDuals_init.at_ K) fd := c.fn 50 rfl
theorem f_MRoots_init {K : PySem.W.Frag} (c : Says K) : ∃ fd, FunG K dMRoots_init (dMRoots_init.at_ K) fd := c.fn 51 rfl
theorem f_MWords_init {K : PySem.W.Frag} (c : Says K) : ∃ fd, FunG K dMWords_init (dMWords_init.at_ K) fd := c.fn 52 rfl
theorem f_MPairs_init {K : PySem.W.Frag} (c : Says K) : ∃ fd, FunG K dMPairs_init (dMPairs_init.at_ K) fd := c.fn 53 rfl
theorem f_MQuaternions_init {K : PySem.W.Frag} (c : Says K) : ∃ fd, FunG K dMQuaternions_init (dMQuaternions_init.at_ K) fd := c.fn 54 rfl
theorem f_MSwapped_init {K : PySem.W.Frag} (c : Says K) : ∃ fd, FunG K dMSwapped_init (dMSwapped_init.at_ K) fd := c.fn 55 rfl
theorem f_MTwists_init {K : PySem.W.Frag} (c : Says K) : ∃ fd, FunG K dMTwists_init (dMTwists_init.at_ K) fd := c.fn 56 rfl
theorem f_MRealm_init {K : PySem.W.Frag} (c : Says K) : ∃ fd, FunG K dMRealm_init (dMRealm_init.at_ K) fd := c.fn 57 rfl
theorem f_MRealm_everywhere {K : PySem.W.Frag} (c : Says K) : ∃ fd, FunG K dMRealm_everywhere (dMRealm_everywhere.at_ K) fd := c.fn 58 rfl
theorem f_MRealm_nowhere {K : PySem.W.Frag} (c : Says K) : ∃ fd, FunG K dMRealm_nowhere (dMRealm_nowhere.at_ K) fd := c.fn 59 rfl
theorem f_MRealm_inverse {K : PySem.W.Frag} (c : Says K) : ∃ fd, FunG K dMRealm_inverse (dMRealm_inverse.at_ K) fd := c.fn 60 rfl
theorem f_MRealm_ones {K : PySem.W.Frag} (c : Says K) : ∃ fd, FunG K dMRealm_ones (dMRealm_ones.at_ K) fd := c.fn 61 rfl
theorem f_MRealm_swaps {K : PySem.W.Frag} (c : Says K) : ∃ fd, FunG K dMRealm_swaps (dMRealm_swaps.at_ K) fd := c.fn 62 rfl
theorem f_MRealm_squares {K : PySem.W.Frag} (c : Says K) : ∃ fd, FunG K dMRealm_squares (dMRealm_squares.at_ K) fd := c.fn 63 rfl
theorem f_MRealm_contains {K : PySem.W.Frag} (c : Says K) : ∃ fd, FunG K dMRealm_contains (dMRealm_contains.at_ K) fd := c.fn 64 rfl
theorem f_MRealm_and {K : PySem.W.Frag} (c : Says K) : ∃ fd, FunG K dMRealm_and (dMRealm_and.at_ K) fd := c.fn 65 rfl
theorem f_MRealm_or {K : PySem.W.Frag} (c : Says K) : ∃ fd, FunG K dMRealm_or (dMRealm_or.at_ K) fd := c.fn 66 rfl
theorem f_MRealm_eq {K : PySem.W.Frag} (c : Says K) : ∃ fd, FunG K dMRealm_eq (dMRealm_eq.at_ K) fd := c.fn 67 rfl
theorem f_MRealm_within {K : PySem.W.Frag} (c : Says K) : ∃ fd, FunG K dMRealm_within (dMRealm_within.at_ K) fd := c.fn 68 rfl
end J
namespace J
def loose0 : List PySem.Str := ["_wall", "RingError", "InvalidNumber", "InvalidThing", "InvalidRing", "InvalidTable", "NoInverse", "NotCommuting", "TooMany", "is_int", "is_list", "in_bounds"]
def loose1 : List PySem.Str := ["is_share", "gcd", "common", "multiple", "divides", "radical", "stripped", "share", "plus", "times", "opposite", "inverse_of"]
def loose2 : List PySem.Str := ["rest_of", "Ring", "inverse_known", "inverses_of_both", "based", "shallow", "Fractions", "Whole", "Rests", "Sets", "power", "rows_of"]
def loose3 : List PySem.Str := ["is_row", "added", "negated", "dot", "Matrices", "Triangles", "Polynomials", "Duals", "Roots", "Words", "Pairs", "Quaternions"]
def loose4 : List PySem.Str := ["Swapped", "Twists", "checked", "settled", "joined", "lies_within", "Realm", "is_square", "is_associative", "neutral", "sums_wrong", "spread_wrong"]
def loose5 : List PySem.Str := ["Table", "_law_bag", "_law_draw", "_law_pick", "_law_same", "_law_gcd", "_law_lcm", "_law_strip", "_law_radical", "_law_product", "_law_ring", "_law_plain"]
def loose6 : List PySem.Str := ["_law_any", "_law_fits_part", "_law_commuting", "_law_settled", "_law_told", "_law_realm", "_law_drawn_realm", "_law_settle", "_law_samples", "MOST", "MOST_ROWS"]
def loose : List PySem.Str := loose0 ++ loose1 ++ loose2 ++ loose3 ++ loose4 ++ loose5 ++ loose6
end J

noncomputable section
namespace J
open PySem PySem.W PySem.Calls PyProof.Rows
set_option maxHeartbeats 0
/-! ### the top's run: five looks at its end, each a run of its own -/
abbrev R : OpenRow := OpenLaw.row PySem.Challenge.rw_numbertypes_k44_whole_joins_of_realms
abbrev qv : Program := view R.prog [91]
abbrev fin (w : World) (os : OsState) : Option SharedT := HandSHeadRun.endF (HandSHeadRun.stepQ (HandSHeadRun.denQ HandSHeadRun.tabQ) R.prog w) 20000 R.prog w os
theorem run1 (w : World) (os : OsState) : (fin w os).map (fun s => HandSHeadRun.looksF R.prog (boot_heap w.params) s.abs) = some true := by
  kernel_rfl
theorem run2 (w : World) (os : OsState) : (fin w os).map (fun s => HandSHeadRun.seenQ qv loose (importedModules R.prog.main.body) (fun s => xlAt qv [] s && recOk R.toRowW.records s) s.abs) = some (openGood qv loose) := by
  kernel_rfl
theorem run3 (w : World) (os : OsState) : (fin w os).map (fun s => obA (HandSHeadRun.getT s)) = some true := by
  kernel_rfl
theorem run4 (w : World) (os : OsState) : (fin w os).map (fun s => obB (HandSHeadRun.getT s)) = some true := by
  kernel_rfl
theorem run5 (w : World) (os : OsState) : (fin w os).map (fun s => obC (HandSHeadRun.getT s)) = some (fns.map Dd.val) := by
  kernel_rfl
theorem map_both {S A B : Type} {o : Option S} {f : S → A} {g : S → B} {a : A} {b : B} (h1 : o.map f = some a) (h2 : o.map g = some b) : o.map (fun s => (f s, g s)) = some (a, b) := by
  cases o with
  | none => cases h1
  | some s =>
    have e1 : f s = a := Option.some.inj h1
    have e2 : g s = b := Option.some.inj h2
    show some (f s, g s) = some (a, b)
    rw [e1, e2]
def ob (s : PySem.W.SharedT) : AlM := (obA (HandSHeadRun.getT s), obB (HandSHeadRun.getT s), obC (HandSHeadRun.getT s))
theorem ob_eq (s : PySem.W.SharedT) : ob s = hookM.obs s.abs := by
  have e : HandSHeadRun.getT s = s.abs.heap.get? := funext (HandSHeadRun.getT_eq s)
  show (obA (HandSHeadRun.getT s), obB (HandSHeadRun.getT s), obC (HandSHeadRun.getT s)) = (obA s.abs.heap.get?, obB s.abs.heap.get?, obC s.abs.heap.get?)
  rw [e]
theorem run (w : World) : HandSHeadRun.RunEq R qv hookM ob 20000 loose w := fun os =>
  map_both (run1 w os) (map_both (run2 w os) (map_both (run3 w os) (map_both (run4 w os) (run5 w os))))
end J
end

set_option maxHeartbeats 4000000

/-! the mathematics: numbers without the primes of another, normal forms of realms, joins, rings. No program in sight -/
namespace JM
def stripF : Nat → Nat → Nat → Nat
  | 0, r, _ => r
  | f + 1, r, b => if 1 < Nat.gcd r b then stripF f (r / Nat.gcd r b) b else r
/-- n without the primes of b -/
def strip (n b : Nat) : Nat := if n = 0 then 0 else stripF n n b
structure IsStrip (n b r : Nat) : Prop where
  dvd : r ∣ n
  cop : Nat.Coprime r b
  pw : ∃ k, n ∣ r * b ^ k
theorem IsStrip.one {n b r r' : Nat} (h : IsStrip n b r) (h' : IsStrip n b r') : r = r' := by
  obtain ⟨k, hk⟩ := h.pw
  obtain ⟨k', hk'⟩ := h'.pw
  refine Nat.dvd_antisymm ?_ ?_
  · exact (h.cop.pow_right k').dvd_of_dvd_mul_right (Nat.dvd_trans h.dvd hk')
  · exact (h'.cop.pow_right k).dvd_of_dvd_mul_right (Nat.dvd_trans h'.dvd hk)
theorem gcd_one_of {n b : Nat} (hn : 0 < n) (h : ¬ 1 < Nat.gcd n b) : Nat.gcd n b = 1 := by
  have := Nat.gcd_pos_of_pos_left b hn
  omega
theorem IsStrip.stop {n b : Nat} (h : Nat.gcd n b = 1) : IsStrip n b n := ⟨Nat.dvd_refl n, h, 0, by rw [Nat.pow_zero, Nat.mul_one]; exact Nat.dvd_refl n⟩
theorem IsStrip.more {n b r : Nat} (h : IsStrip (n / Nat.gcd n b) b r) : IsStrip n b r := by
  obtain ⟨k, hk⟩ := h.pw
  have e : n / Nat.gcd n b * Nat.gcd n b = n := Nat.div_mul_cancel (Nat.gcd_dvd_left n b)
  refine ⟨Nat.dvd_trans h.dvd ⟨Nat.gcd n b, e.symm⟩, h.cop, k + 1, ?_⟩
  have h2 := Nat.mul_dvd_mul hk (Nat.gcd_dvd_right n b)
  rw [e] at h2
  rw [Nat.pow_succ, ← Nat.mul_assoc]
  exact h2
theorem stripF_ok (b : Nat) : ∀ (f n : Nat), 0 < n → n ≤ f → IsStrip n b (stripF f n b)
  | 0, n, h, hf => by omega
  | f + 1, n, h, hf => by
    unfold stripF
    by_cases hg : 1 < Nat.gcd n b
    · rw [if_pos hg]
      have hle : Nat.gcd n b ≤ n := Nat.gcd_le_left b h
      have h1 : 0 < n / Nat.gcd n b := Nat.div_pos hle (by omega)
      have h2 : n / Nat.gcd n b < n := Nat.div_lt_self h hg
      exact (stripF_ok b f (n / Nat.gcd n b) h1 (by omega)).more
    · rw [if_neg hg]
      exact IsStrip.stop (gcd_one_of h hg)
theorem strip_zero (b : Nat) : strip 0 b = 0 := rfl
theorem strip_spec {n : Nat} (b : Nat) (h : 0 < n) : IsStrip n b (strip n b) := by
  unfold strip
  rw [if_neg (by omega)]
  exact stripF_ok b n n h (Nat.le_refl n)
theorem strip_eq {n b r : Nat} (h : 0 < n) (s : IsStrip n b r) : strip n b = r := (strip_spec b h).one s
theorem strip_stop {n b : Nat} (h : 0 < n) (hg : ¬ 1 < Nat.gcd n b) : strip n b = n := strip_eq h (IsStrip.stop (gcd_one_of h hg))
theorem strip_step {n b : Nat} (h : 0 < n) (hg : 1 < Nat.gcd n b) : strip n b = strip (n / Nat.gcd n b) b ∧ 0 < n / Nat.gcd n b ∧ n / Nat.gcd n b < n := by
  have h1 : 0 < n / Nat.gcd n b := Nat.div_pos (Nat.gcd_le_left b h) (by omega)
  exact ⟨strip_eq h (strip_spec b h1).more, h1, Nat.div_lt_self h hg⟩
theorem strip_dvd (n b : Nat) : strip n b ∣ n := by
  by_cases h : n = 0
  · subst h; exact Nat.dvd_refl 0
  · exact (strip_spec b (by omega)).dvd
theorem strip_pos {n : Nat} (b : Nat) (h : 0 < n) : 0 < strip n b := Nat.pos_of_dvd_of_pos (strip_dvd n b) h
theorem strip_le {n b : Nat} : strip n b ≤ n := by
  by_cases h : n = 0
  · subst h; exact Nat.le_refl 0
  · exact Nat.le_of_dvd (by omega) (strip_dvd n b)
theorem strip_cop {n : Nat} (b : Nat) (h : 0 < n) : Nat.Coprime (strip n b) b := (strip_spec b h).cop
theorem strip_one (n : Nat) : strip n 1 = n := by
  by_cases h : n = 0
  · subst h; rfl
  · exact strip_eq (by omega) (IsStrip.stop (Nat.gcd_one_right n))
theorem strip_of_cop {n b : Nat} (h : Nat.Coprime n b) : strip n b = n := by
  by_cases h0 : n = 0
  · subst h0; rfl
  · exact strip_eq (by omega) (IsStrip.stop h)
/-- what is without the primes of b and divides n divides n without them -/
theorem dvd_strip {x n b : Nat} (h : x ∣ n) (hc : Nat.Coprime x b) : x ∣ strip n b := by
  by_cases h0 : n = 0
  · subst h0; exact Nat.dvd_zero x
  · obtain ⟨k, hk⟩ := (strip_spec b (by omega : 0 < n)).pw
    exact (hc.pow_right k).dvd_of_dvd_mul_right (Nat.dvd_trans h hk)
theorem strip_mono {a n b : Nat} (ha : 0 < a) (h : a ∣ n) : strip a b ∣ strip n b := dvd_strip (Nat.dvd_trans (strip_dvd a b) h) (strip_cop b ha)
theorem pow_dvd_pow_of {b c : Nat} (h : b ∣ c) : ∀ j : Nat, b ^ j ∣ c ^ j
  | 0 => Nat.dvd_refl 1
  | j + 1 => by
    rw [Nat.pow_succ, Nat.pow_succ]
    exact Nat.mul_dvd_mul (pow_dvd_pow_of h j) h
/-- two bases of the same primes -/
theorem strip_base {n b c : Nat} (h : b ∣ c) (hp : ∃ k, c ∣ b ^ k) : strip n b = strip n c := by
  by_cases h0 : n = 0
  · subst h0; rfl
  · have hn : 0 < n := by omega
    obtain ⟨k, hk⟩ := hp
    have s := strip_spec b hn
    obtain ⟨j, hj⟩ := s.pw
    have hc : Nat.Coprime (strip n b) c := (s.cop.pow_right k).coprime_dvd_right hk
    refine (strip_eq hn ⟨s.dvd, hc, j, ?_⟩).symm
    exact Nat.dvd_trans hj (Nat.mul_dvd_mul_left _ (pow_dvd_pow_of h j))
end JM

namespace JM
structure N4 where
  i : Nat
  o : Nat
  s : Nat
  t : Nat
  deriving DecidableEq
/-- a normal form -/
structure NF (a : N4) : Prop where
  pos : 0 < a.i
  alt : (a.o = 0 ∧ a.t = 0 ∧ (a.s = 0 ∨ Nat.Coprime a.s a.i)) ∨ (0 < a.o ∧ a.i = 1 ∧ 0 < a.t ∧ 0 < a.s ∧ a.s ∣ a.t ∧ a.t ∣ a.o ∧ a.o ∣ 2 * a.t)
def settled (a : N4) : N4 :=
  let f := Nat.gcd a.o (2 * a.t)
  let th := Nat.gcd a.t f
  let se := Nat.gcd a.s th
  ⟨if f = 0 then a.i else 1, strip f a.i, strip se a.i, strip th a.i⟩
theorem nf_settled {a : N4} (hi : 0 < a.i) : NF (settled a) := by
  obtain ⟨i, o, s, t⟩ := a
  have hi : 0 < i := hi
  by_cases hf : Nat.gcd o (2 * t) = 0
  · have ho : o = 0 := Nat.eq_zero_of_gcd_eq_zero_left hf
    have ht : t = 0 := by have := Nat.eq_zero_of_gcd_eq_zero_right hf; omega
    subst ho ht
    have e : settled ⟨i, 0, s, 0⟩ = ⟨i, 0, strip s i, 0⟩ := by
      simp [settled, strip_zero]
    rw [e]
    refine ⟨hi, .inl ⟨rfl, rfl, ?_⟩⟩
    by_cases hs : s = 0
    · subst hs; exact .inl rfl
    · exact .inr (strip_cop i (by omega))
  · have h0 : 0 < Nat.gcd o (2 * t) := by omega
    have e : settled ⟨i, o, s, t⟩ = ⟨1, strip (Nat.gcd o (2 * t)) i, strip (Nat.gcd s (Nat.gcd t (Nat.gcd o (2 * t)))) i, strip (Nat.gcd t (Nat.gcd o (2 * t))) i⟩ := by
      simp [settled, hf]
    have d1 : Nat.gcd o (2 * t) ∣ 2 * Nat.gcd t (Nat.gcd o (2 * t)) := by
      rw [← Nat.gcd_mul_left]
      exact Nat.dvd_gcd (Nat.gcd_dvd_right _ _) (Nat.dvd_mul_left _ _)
    have hth : 0 < Nat.gcd t (Nat.gcd o (2 * t)) := Nat.gcd_pos_of_pos_right _ h0
    have hse : 0 < Nat.gcd s (Nat.gcd t (Nat.gcd o (2 * t))) := Nat.gcd_pos_of_pos_right _ hth
    rw [e]
    refine ⟨Nat.zero_lt_one, .inr ⟨strip_pos i h0, rfl, strip_pos i hth, strip_pos i hse, strip_mono hse (Nat.gcd_dvd_right _ _), strip_mono hth (Nat.gcd_dvd_right _ _), ?_⟩⟩
    show strip (Nat.gcd o (2 * t)) i ∣ 2 * strip (Nat.gcd t (Nat.gcd o (2 * t))) i
    obtain ⟨k, hk⟩ := (strip_spec i hth).pw
    have c := (strip_cop i h0).pow_right k
    refine c.dvd_of_dvd_mul_right ?_
    have h2 : Nat.gcd o (2 * t) ∣ 2 * (strip (Nat.gcd t (Nat.gcd o (2 * t))) i * i ^ k) := Nat.dvd_trans d1 (Nat.mul_dvd_mul_left 2 hk)
    rw [Nat.mul_assoc]
    exact Nat.dvd_trans (strip_dvd _ _) h2
theorem settled_nf {a : N4} (h : NF a) : settled a = a := by
  obtain ⟨i, o, s, t⟩ := a
  rcases h.alt with ⟨ho, ht, hs⟩ | ⟨ho, hi, htp, hsp, h1, h2, h3⟩
  · have ho : o = 0 := ho
    have ht : t = 0 := ht
    have hs : s = 0 ∨ Nat.Coprime s i := hs
    subst ho ht
    have e : settled ⟨i, 0, s, 0⟩ = ⟨i, 0, strip s i, 0⟩ := by
      simp [settled, strip_zero]
    rw [e]
    rcases hs with hs | hs
    · subst hs; rfl
    · rw [strip_of_cop hs]
  · have hi : i = 1 := hi
    have h1 : s ∣ t := h1
    have h2 : t ∣ o := h2
    have h3 : o ∣ 2 * t := h3
    have ho : 0 < o := ho
    subst hi
    have e1 : Nat.gcd o (2 * t) = o := Nat.gcd_eq_left h3
    have e2 : Nat.gcd t o = t := Nat.gcd_eq_left h2
    have e3 : Nat.gcd s t = s := Nat.gcd_eq_left h1
    have h0 : o ≠ 0 := by omega
    simp [settled, e1, e2, e3, h0, strip_one]
/-- both numbers of the join, neither empty -/
def joined (a b : N4) : N4 :=
  let o := Nat.lcm a.o b.o
  let s := Nat.lcm a.s b.s
  let t := Nat.lcm a.t b.t
  if 0 < o then ⟨1, o, s, t⟩
  else if a.o = 0 ∧ b.o = 0 then ⟨Nat.gcd a.i b.i, o, s, t⟩
  else if a.o = 0 then ⟨strip a.i b.o, o, s, t⟩ else ⟨strip b.i a.o, o, s, t⟩
def orN (a b : N4) : N4 := if a.o = 1 then settled b else if b.o = 1 then settled a else settled (joined a b)
/-- one lies within another -/
def within (a b : N4) : Prop :=
  if a.o = 1 then True else if 0 < a.o then ¬ 1 < Nat.gcd b.i a.o ∧ a.o ∣ b.o ∧ a.s ∣ b.s ∧ a.t ∣ b.t else b.o = 0 ∧ b.i ∣ a.i ∧ a.s ∣ b.s
/-! the three kinds of a normal form -/
inductive Kind : N4 → Prop where
  | none : Kind ⟨1, 1, 1, 1⟩
  | tied {o s t : Nat} (h : 1 < o) (hs : 0 < s) (ht : 0 < t) (h1 : s ∣ t) (h2 : t ∣ o) (h3 : o ∣ 2 * t) : Kind ⟨1, o, s, t⟩
  | free {i s : Nat} (h : 0 < i) (hs : s = 0 ∨ Nat.Coprime s i) : Kind ⟨i, 0, s, 0⟩
theorem NF.kind {a : N4} (h : NF a) : Kind a := by
  obtain ⟨i, o, s, t⟩ := a
  have hp := h.pos
  rcases h.alt with ⟨ho, ht, hs⟩ | ⟨ho, hi, htp, hsp, h1, h2, h3⟩
  · have ho : o = 0 := ho
    have ht : t = 0 := ht
    subst ho ht
    exact .free hp hs
  · have hi : i = 1 := hi
    have ho : 0 < o := ho
    subst hi
    by_cases h1' : o = 1
    · subst h1'
      have ht : t = 1 := Nat.dvd_one.mp h2
      subst ht
      have hs : s = 1 := Nat.dvd_one.mp h1
      subst hs
      exact .none
    · exact .tied (by omega) hsp htp h1 h2 h3
theorem Kind.nf {a : N4} (h : Kind a) : NF a := by
  cases h with
  | none => exact ⟨by decide, .inr ⟨by decide, rfl, by decide, by decide, Nat.dvd_refl 1, Nat.dvd_refl 1, Nat.one_dvd 2⟩⟩
  | tied h hs ht h1 h2 h3 => exact ⟨Nat.zero_lt_one, .inr ⟨Nat.lt_trans Nat.zero_lt_one h, rfl, ht, hs, h1, h2, h3⟩⟩
  | free h hs => exact ⟨h, .inl ⟨rfl, rfl, hs⟩⟩
theorem lcm_zero_left' (n : Nat) : Nat.lcm 0 n = 0 := Nat.lcm_zero_left n
theorem lcm_cop {s u i : Nat} (h1 : Nat.Coprime s i) (h2 : Nat.Coprime u i) : Nat.Coprime (Nat.lcm s u) i := by
  have h : Nat.lcm s u ∣ s * u := Nat.lcm_dvd (Nat.dvd_mul_right s u) (Nat.dvd_mul_left u s)
  exact (h1.mul_left h2).coprime_dvd_left h
/-- the join of normal forms, by kinds -/
theorem joined_tt {o s t p u v : Nat} (h : 1 < o) (h' : 1 < p) : joined ⟨1, o, s, t⟩ ⟨1, p, u, v⟩ = ⟨1, Nat.lcm o p, Nat.lcm s u, Nat.lcm t v⟩ := by
  have hp : 0 < Nat.lcm o p := Nat.lcm_pos (by omega) (by omega)
  simp [joined, hp]
theorem joined_ff {i s j u : Nat} : joined ⟨i, 0, s, 0⟩ ⟨j, 0, u, 0⟩ = ⟨Nat.gcd i j, 0, Nat.lcm s u, 0⟩ := by
  simp [joined]
theorem joined_ft {i s p u v : Nat} (h' : 1 < p) : joined ⟨i, 0, s, 0⟩ ⟨1, p, u, v⟩ = ⟨strip i p, 0, Nat.lcm s u, 0⟩ := by
  have h : ¬ p = 0 := by omega
  simp [joined, h]
theorem joined_tf {j u o s t : Nat} (h' : 1 < o) : joined ⟨1, o, s, t⟩ ⟨j, 0, u, 0⟩ = ⟨strip j o, 0, Nat.lcm s u, 0⟩ := by
  have h : ¬ o = 0 := by omega
  simp [joined, h]
theorem kind_tt {o s t p u v : Nat} (h : Kind ⟨1, o, s, t⟩) (ho : 1 < o) (h' : Kind ⟨1, p, u, v⟩) (hp : 1 < p) : Kind ⟨1, Nat.lcm o p, Nat.lcm s u, Nat.lcm t v⟩ := by
  cases h with
  | none => omega
  | free => omega
  | tied a1 a2 a3 a4 a5 a6 =>
    cases h' with
    | none => omega
    | free => omega
    | tied b1 b2 b3 b4 b5 b6 =>
      have l1 : o ≤ Nat.lcm o p := Nat.le_lcm_left o (by omega)
      refine .tied (by omega) (Nat.lcm_pos a2 b2) (Nat.lcm_pos a3 b3) ?_ ?_ ?_
      · exact Nat.lcm_dvd (Nat.dvd_trans a4 (Nat.dvd_lcm_left _ _)) (Nat.dvd_trans b4 (Nat.dvd_lcm_right _ _))
      · exact Nat.lcm_dvd (Nat.dvd_trans a5 (Nat.dvd_lcm_left _ _)) (Nat.dvd_trans b5 (Nat.dvd_lcm_right _ _))
      · exact Nat.lcm_dvd (Nat.dvd_trans a6 (Nat.mul_dvd_mul_left 2 (Nat.dvd_lcm_left _ _))) (Nat.dvd_trans b6 (Nat.mul_dvd_mul_left 2 (Nat.dvd_lcm_right _ _)))
theorem kind_ff {i s j u : Nat} (h : Kind ⟨i, 0, s, 0⟩) (h' : Kind ⟨j, 0, u, 0⟩) : Kind ⟨Nat.gcd i j, 0, Nat.lcm s u, 0⟩ := by
  cases h with
  | tied a1 => omega
  | free a1 a2 =>
    cases h' with
    | tied b1 => omega
    | free b1 b2 =>
      refine .free (Nat.gcd_pos_of_pos_left j a1) ?_
      rcases a2 with a2 | a2
      · subst a2; exact .inl (Nat.lcm_zero_left u)
      · rcases b2 with b2 | b2
        · subst b2; exact .inl (Nat.lcm_zero_right s)
        · exact .inr (lcm_cop (a2.coprime_dvd_right (Nat.gcd_dvd_left i j)) (b2.coprime_dvd_right (Nat.gcd_dvd_right i j)))
theorem kind_ft {i s p u v : Nat} (h : Kind ⟨i, 0, s, 0⟩) (h' : Kind ⟨1, p, u, v⟩) (hp : 1 < p) : Kind ⟨strip i p, 0, Nat.lcm s u, 0⟩ := by
  cases h with
  | tied a1 => omega
  | free a1 a2 =>
    cases h' with
    | none => omega
    | free => omega
    | tied b1 b2 b3 b4 b5 b6 =>
      refine .free (strip_pos p a1) ?_
      rcases a2 with a2 | a2
      · subst a2; exact .inl (Nat.lcm_zero_left u)
      · refine .inr (lcm_cop (a2.coprime_dvd_right (strip_dvd i p)) ?_)
        exact ((strip_cop p a1).coprime_dvd_right (Nat.dvd_trans b4 b5)).symm
theorem or_none_left {b : N4} (hb : NF b) : orN ⟨1, 1, 1, 1⟩ b = b := by
  show (if (1 : Nat) = 1 then settled b else _) = b
  rw [if_pos rfl, settled_nf hb]
theorem or_none_right {a : N4} (ha : NF a) : orN a ⟨1, 1, 1, 1⟩ = a := by
  unfold orN
  by_cases h : a.o = 1
  · rw [if_pos h]
    cases ha.kind with
    | none => exact settled_nf (Kind.none).nf
    | tied h1 => exact absurd h (Nat.ne_of_gt h1)
    | free h1 => exact absurd h Nat.zero_ne_one
  · rw [if_neg h, if_pos rfl, settled_nf ha]
theorem or_tt {o s t p u v : Nat} (h : Kind ⟨1, o, s, t⟩) (ho : 1 < o) (h' : Kind ⟨1, p, u, v⟩) (hp : 1 < p) : orN ⟨1, o, s, t⟩ ⟨1, p, u, v⟩ = ⟨1, Nat.lcm o p, Nat.lcm s u, Nat.lcm t v⟩ := by
  unfold orN
  rw [if_neg (show ¬ o = 1 by omega), if_neg (show ¬ p = 1 by omega), joined_tt ho hp, settled_nf (kind_tt h ho h' hp).nf]
theorem or_ff {i s j u : Nat} (h : Kind ⟨i, 0, s, 0⟩) (h' : Kind ⟨j, 0, u, 0⟩) : orN ⟨i, 0, s, 0⟩ ⟨j, 0, u, 0⟩ = ⟨Nat.gcd i j, 0, Nat.lcm s u, 0⟩ := by
  unfold orN
  rw [if_neg (show ¬ (0 : Nat) = 1 by decide), if_neg (show ¬ (0 : Nat) = 1 by decide), joined_ff, settled_nf (kind_ff h h').nf]
theorem or_ft {i s p u v : Nat} (h : Kind ⟨i, 0, s, 0⟩) (h' : Kind ⟨1, p, u, v⟩) (hp : 1 < p) : orN ⟨i, 0, s, 0⟩ ⟨1, p, u, v⟩ = ⟨strip i p, 0, Nat.lcm s u, 0⟩ := by
  unfold orN
  rw [if_neg (show ¬ (0 : Nat) = 1 by decide), if_neg (show ¬ p = 1 by omega), joined_ft hp, settled_nf (kind_ft h h' hp).nf]
theorem or_tf {j u o s t : Nat} (h : Kind ⟨1, o, s, t⟩) (ho : 1 < o) (h' : Kind ⟨j, 0, u, 0⟩) : orN ⟨1, o, s, t⟩ ⟨j, 0, u, 0⟩ = ⟨strip j o, 0, Nat.lcm s u, 0⟩ := by
  unfold orN
  have k := kind_ft h' h ho
  rw [Nat.lcm_comm u s] at k
  rw [if_neg (show ¬ o = 1 by omega), if_neg (show ¬ (0 : Nat) = 1 by decide), joined_tf ho, settled_nf k.nf]
theorem nf_or {a b : N4} (ha : NF a) (hb : NF b) : NF (orN a b) := by
  have ka := ha.kind
  have kb := hb.kind
  cases ka with
  | none => rw [or_none_left hb]; exact hb
  | tied a1 a2 a3 a4 a5 a6 =>
    have ka : Kind _ := .tied a1 a2 a3 a4 a5 a6
    cases kb with
    | none => rw [or_none_right ha]; exact ha
    | tied b1 b2 b3 b4 b5 b6 =>
      have kb : Kind _ := .tied b1 b2 b3 b4 b5 b6
      rw [or_tt ka a1 kb b1]
      exact (kind_tt ka a1 kb b1).nf
    | free b1 b2 =>
      have kb : Kind _ := .free b1 b2
      rw [or_tf ka a1 kb]
      have k := kind_ft kb ka a1
      rw [Nat.lcm_comm] at k
      exact k.nf
  | free a1 a2 =>
    have ka : Kind _ := .free a1 a2
    cases kb with
    | none => rw [or_none_right ha]; exact ha
    | tied b1 b2 b3 b4 b5 b6 =>
      have kb : Kind _ := .tied b1 b2 b3 b4 b5 b6
      rw [or_ft ka kb b1]
      exact (kind_ft ka kb b1).nf
    | free b1 b2 =>
      have kb : Kind _ := .free b1 b2
      rw [or_ff ka kb]
      exact (kind_ff ka kb).nf
theorem or_comm {a b : N4} (ha : NF a) (hb : NF b) : orN a b = orN b a := by
  have ka := ha.kind
  have kb := hb.kind
  cases ka with
  | none => rw [or_none_left hb, or_none_right hb]
  | tied a1 a2 a3 a4 a5 a6 =>
    have ka : Kind _ := .tied a1 a2 a3 a4 a5 a6
    cases kb with
    | none => rw [or_none_right ha, or_none_left ha]
    | tied b1 b2 b3 b4 b5 b6 =>
      have kb : Kind _ := .tied b1 b2 b3 b4 b5 b6
      rw [or_tt ka a1 kb b1, or_tt kb b1 ka a1, Nat.lcm_comm, Nat.lcm_comm (_ : Nat) _, Nat.lcm_comm (_ : Nat) _]
      congr 1 <;> exact Nat.lcm_comm _ _
    | free b1 b2 =>
      have kb : Kind _ := .free b1 b2
      rw [or_tf ka a1 kb, or_ft kb ka a1, Nat.lcm_comm]
  | free a1 a2 =>
    have ka : Kind _ := .free a1 a2
    cases kb with
    | none => rw [or_none_right ha, or_none_left ha]
    | tied b1 b2 b3 b4 b5 b6 =>
      have kb : Kind _ := .tied b1 b2 b3 b4 b5 b6
      rw [or_ft ka kb b1, or_tf kb b1 ka, Nat.lcm_comm]
    | free b1 b2 =>
      have kb : Kind _ := .free b1 b2
      rw [or_ff ka kb, or_ff kb ka, Nat.gcd_comm, Nat.lcm_comm]
end JM

namespace JM
theorem gcd_le_one {a b : Nat} (ha : 0 < b) : ¬ 1 < Nat.gcd a b ↔ Nat.Coprime a b := by
  have := Nat.gcd_pos_of_pos_right a ha
  constructor
  · intro h
    show Nat.gcd a b = 1
    omega
  · intro h
    have h : Nat.gcd a b = 1 := h
    omega
theorem within_none {b : N4} : within ⟨1, 1, 1, 1⟩ b := by
  show (if (1 : Nat) = 1 then True else _)
  rw [if_pos rfl]
  trivial
theorem within_tied {o s t : Nat} {b : N4} (ho : 1 < o) : within ⟨1, o, s, t⟩ b ↔ Nat.Coprime b.i o ∧ o ∣ b.o ∧ s ∣ b.s ∧ t ∣ b.t := by
  unfold within
  rw [if_neg (show ¬ o = 1 by omega), if_pos (show 0 < o by omega), gcd_le_one (by omega : 0 < o)]
theorem within_free {i s : Nat} {b : N4} : within ⟨i, 0, s, 0⟩ b ↔ b.o = 0 ∧ b.i ∣ i ∧ s ∣ b.s := by
  unfold within
  rw [if_neg (show ¬ (0 : Nat) = 1 by decide), if_neg (show ¬ 0 < (0 : Nat) by decide)]
theorem dvd_strip_iff {c i p : Nat} (hi : 0 < i) : c ∣ strip i p ↔ c ∣ i ∧ Nat.Coprime c p :=
  ⟨fun h => ⟨Nat.dvd_trans h (strip_dvd i p), (strip_cop p hi).coprime_dvd_left h⟩, fun h => dvd_strip h.1 h.2⟩
theorem cop_lcm_iff {c o p : Nat} : Nat.Coprime c (Nat.lcm o p) ↔ Nat.Coprime c o ∧ Nat.Coprime c p := by
  constructor
  · intro h
    exact ⟨h.coprime_dvd_right (Nat.dvd_lcm_left o p), h.coprime_dvd_right (Nat.dvd_lcm_right o p)⟩
  · intro h
    have h2 : Nat.lcm o p ∣ o * p := Nat.lcm_dvd (Nat.dvd_mul_right o p) (Nat.dvd_mul_left p o)
    exact (h.1.mul_right h.2).coprime_dvd_right h2
/-- the join lies within just what both lie within -/
theorem or_within {a b c : N4} (ha : NF a) (hb : NF b) (hc : NF c) : within (orN a b) c ↔ within a c ∧ within b c := by
  have ka := ha.kind
  have kb := hb.kind
  have hc0 : c.o = 0 → c.t = 0 := fun h => by
    rcases hc.alt with ⟨_, h2, _⟩ | ⟨h1, _⟩
    · exact h2
    · omega
  have ft : ∀ {i s o u v : Nat}, 0 < i → 1 < o → u ∣ v → (within ⟨strip i o, 0, Nat.lcm s u, 0⟩ c ↔ within ⟨i, 0, s, 0⟩ c ∧ within ⟨1, o, u, v⟩ c) := fun {i s o u v} hi ho _ => by
    rw [within_free, within_free, within_tied ho, dvd_strip_iff hi, Nat.lcm_dvd_iff]
    constructor
    · rintro ⟨h1, ⟨h2, h3⟩, h4, h5⟩
      exact ⟨⟨h1, h2, h4⟩, h3, by rw [h1]; exact Nat.dvd_zero o, h5, by rw [hc0 h1]; exact Nat.dvd_zero v⟩
    · rintro ⟨⟨h1, h2, h4⟩, h3, _, h5, _⟩
      exact ⟨h1, ⟨h2, h3⟩, h4, h5⟩
  cases ka with
  | none =>
    rw [or_none_left hb]
    exact ⟨fun h => ⟨within_none, h⟩, fun h => h.2⟩
  | tied a1 a2 a3 a4 a5 a6 =>
    have ka : Kind _ := .tied a1 a2 a3 a4 a5 a6
    cases kb with
    | none =>
      rw [or_none_right ha]
      exact ⟨fun h => ⟨h, within_none⟩, fun h => h.1⟩
    | tied b1 b2 b3 b4 b5 b6 =>
      have kb : Kind _ := .tied b1 b2 b3 b4 b5 b6
      rw [or_tt ka a1 kb b1]
      have hl : ∀ {o p : Nat}, 1 < o → 1 < p → 1 < Nat.lcm o p := fun {o p} h1 h2 => Nat.lt_of_lt_of_le h1 (Nat.le_lcm_left o (by omega))
      rw [within_tied (hl a1 b1), within_tied a1, within_tied b1, cop_lcm_iff, Nat.lcm_dvd_iff, Nat.lcm_dvd_iff, Nat.lcm_dvd_iff]
      constructor
      · rintro ⟨⟨h1, h2⟩, ⟨h3, h4⟩, ⟨h5, h6⟩, h7, h8⟩
        exact ⟨⟨h1, h3, h5, h7⟩, h2, h4, h6, h8⟩
      · rintro ⟨⟨h1, h3, h5, h7⟩, h2, h4, h6, h8⟩
        exact ⟨⟨h1, h2⟩, ⟨h3, h4⟩, ⟨h5, h6⟩, h7, h8⟩
    | free b1 b2 =>
      have kb : Kind _ := .free b1 b2
      rw [or_tf ka a1 kb, Nat.lcm_comm, ft b1 a1 a4]
      exact And.comm
  | free a1 a2 =>
    have ka : Kind _ := .free a1 a2
    cases kb with
    | none =>
      rw [or_none_right ha]
      exact ⟨fun h => ⟨h, within_none⟩, fun h => h.1⟩
    | tied b1 b2 b3 b4 b5 b6 =>
      have kb : Kind _ := .tied b1 b2 b3 b4 b5 b6
      rw [or_ft ka kb b1, ft a1 b1 b4]
    | free b1 b2 =>
      have kb : Kind _ := .free b1 b2
      rw [or_ff ka kb, within_free, within_free, within_free, Nat.dvd_gcd_iff, Nat.lcm_dvd_iff]
      constructor
      · rintro ⟨h1, ⟨h2, h3⟩, h4, h5⟩
        exact ⟨⟨h1, h2, h4⟩, h1, h3, h5⟩
      · rintro ⟨⟨h1, h2, h4⟩, _, h3, h5⟩
        exact ⟨h1, ⟨h2, h3⟩, h4, h5⟩
theorem within_refl {a : N4} (ha : NF a) : within a a := by
  cases ha.kind with
  | none => exact within_none
  | tied a1 => exact (within_tied a1).mpr ⟨Nat.coprime_one_left _, Nat.dvd_refl _, Nat.dvd_refl _, Nat.dvd_refl _⟩
  | free a1 => exact within_free.mpr ⟨rfl, Nat.dvd_refl _, Nat.dvd_refl _⟩
theorem within_left {a b : N4} (ha : NF a) (hb : NF b) : within a (orN a b) := ((or_within ha hb (nf_or ha hb)).mp (within_refl (nf_or ha hb))).1
theorem within_right {a b : N4} (ha : NF a) (hb : NF b) : within b (orN a b) := ((or_within ha hb (nf_or ha hb)).mp (within_refl (nf_or ha hb))).2
theorem within_anti {a b : N4} (ha : NF a) (hb : NF b) (h : within a b) (h' : within b a) : a = b := by
  cases ha.kind with
  | none =>
    cases hb.kind with
    | none => rfl
    | tied b1 =>
      have q := ((within_tied b1).mp h').2.1
      exact absurd (Nat.dvd_one.mp q) (Nat.ne_of_gt b1)
    | free b1 => exact absurd (within_free.mp h').1 (by decide)
  | tied a1 a2 a3 a4 a5 a6 =>
    have q := (within_tied a1).mp h
    cases hb.kind with
    | none => exact absurd (Nat.dvd_one.mp q.2.1) (Nat.ne_of_gt a1)
    | tied b1 =>
      have q' := (within_tied b1).mp h'
      have e1 := Nat.dvd_antisymm q.2.1 q'.2.1
      have e2 := Nat.dvd_antisymm q.2.2.1 q'.2.2.1
      have e3 := Nat.dvd_antisymm q.2.2.2 q'.2.2.2
      dsimp only at e1 e2 e3
      subst e1 e2 e3
      rfl
    | free b1 =>
      have z := (within_free.mp h').1
      exact absurd z (Nat.ne_of_gt (Nat.lt_trans Nat.zero_lt_one a1))
  | free a1 a2 =>
    have q := within_free.mp h
    cases hb.kind with
    | none => exact absurd q.1 (by decide)
    | tied b1 => exact absurd q.1 (Nat.ne_of_gt (Nat.lt_trans Nat.zero_lt_one b1))
    | free b1 =>
      have q' := within_free.mp h'
      have e1 := Nat.dvd_antisymm q'.2.1 q.2.1
      have e2 := Nat.dvd_antisymm q.2.2 q'.2.2
      dsimp only at e1 e2
      subst e1 e2
      rfl
theorem within_trans {a b c : N4} (ha : NF a) (hb : NF b) (hc : NF c) (h : within a b) (h' : within b c) : within a c := by
  have e : orN a b = b := within_anti (nf_or ha hb) hb ((or_within ha hb hb).mpr ⟨h, within_refl hb⟩) (within_right ha hb)
  rw [← e] at h'
  exact ((or_within ha hb hc).mp h').1
theorem within_iff_or {a b : N4} (ha : NF a) (hb : NF b) : within a b ↔ orN a b = b :=
  ⟨fun h => within_anti (nf_or ha hb) hb ((or_within ha hb hb).mpr ⟨h, within_refl hb⟩) (within_right ha hb), fun e => by
    have h := within_left ha hb
    rw [e] at h
    exact h⟩
theorem or_self {a : N4} (ha : NF a) : orN a a = a := (within_iff_or ha ha).mp (within_refl ha)
theorem nf_all : NF ⟨1, 0, 0, 0⟩ := (Kind.free Nat.zero_lt_one (.inl rfl)).nf
theorem within_all {a : N4} (ha : NF a) : within a ⟨1, 0, 0, 0⟩ := by
  cases ha.kind with
  | none => exact within_none
  | tied a1 => exact (within_tied a1).mpr ⟨Nat.coprime_one_left _, Nat.dvd_zero _, Nat.dvd_zero _, Nat.dvd_zero _⟩
  | free a1 => exact within_free.mpr ⟨rfl, Nat.one_dvd _, Nat.dvd_zero _⟩
theorem or_all {a : N4} (ha : NF a) : orN a ⟨1, 0, 0, 0⟩ = ⟨1, 0, 0, 0⟩ := (within_iff_or ha nf_all).mp (within_all ha)
/-- where none is empty, the numbers of the join -/
theorem or_nums {a b : N4} (ha : NF a) (hb : NF b) (h : a.o ≠ 1) (h' : b.o ≠ 1) : (orN a b).o = Nat.lcm a.o b.o ∧ (orN a b).s = Nat.lcm a.s b.s ∧ (orN a b).t = Nat.lcm a.t b.t := by
  have ka := ha.kind
  have kb := hb.kind
  cases ka with
  | none => exact absurd rfl h
  | tied a1 a2 a3 a4 a5 a6 =>
    have ka : Kind _ := .tied a1 a2 a3 a4 a5 a6
    cases kb with
    | none => exact absurd rfl h'
    | tied b1 b2 b3 b4 b5 b6 =>
      have kb : Kind _ := .tied b1 b2 b3 b4 b5 b6
      rw [or_tt ka a1 kb b1]
      exact ⟨rfl, rfl, rfl⟩
    | free b1 b2 =>
      have kb : Kind _ := .free b1 b2
      rw [or_tf ka a1 kb]
      exact ⟨(Nat.lcm_zero_right _).symm, rfl, (Nat.lcm_zero_right _).symm⟩
  | free a1 a2 =>
    have ka : Kind _ := .free a1 a2
    cases kb with
    | none => exact absurd rfl h'
    | tied b1 b2 b3 b4 b5 b6 =>
      have kb : Kind _ := .tied b1 b2 b3 b4 b5 b6
      rw [or_ft ka kb b1]
      exact ⟨(Nat.lcm_zero_left _).symm, rfl, (Nat.lcm_zero_left _).symm⟩
    | free b1 b2 =>
      have kb : Kind _ := .free b1 b2
      rw [or_ff ka kb]
      exact ⟨(Nat.lcm_zero_left _).symm, rfl, (Nat.lcm_zero_left _).symm⟩
/-! ### rings -/
/-- a ring's three numbers and its inverses -/
structure RN where
  o : Nat
  s : Nat
  t : Nat
  but : Bool
  m : Nat
structure RingOk (r : RN) : Prop where
  o1 : r.o ≠ 1
  m0 : 0 < r.m
  but : r.but = true → 0 < r.o → r.m = r.o
  only : r.but = false → r.o = 0
def known (r : RN) (q : Nat) : Prop := if r.but = true then Nat.gcd q r.m = 1 else strip q r.m = 1
def ringIn (r : RN) (a : N4) : Prop := known r a.i ∧ r.o ∣ a.o ∧ r.s ∣ a.s ∧ r.t ∣ a.t
theorem known_mono {r : RN} {q q' : Nat} (hq : 0 < q') (h : q ∣ q') (k : known r q') : known r q := by
  have hp : 0 < q := Nat.pos_of_dvd_of_pos h hq
  unfold known at *
  cases hb : r.but with
  | true =>
    rw [hb, if_pos rfl] at k
    rw [if_pos rfl]
    exact (show Nat.Coprime q' r.m from k).coprime_dvd_left h
  | false =>
    rw [hb, if_neg Bool.false_ne_true] at k
    rw [if_neg Bool.false_ne_true]
    have d := strip_mono (b := r.m) hp h
    rw [k] at d
    exact Nat.dvd_one.mp d
theorem known_one {r : RN} : known r 1 := by
  unfold known
  cases r.but with
  | true => rw [if_pos rfl]; exact Nat.gcd_one_left _
  | false => rw [if_neg Bool.false_ne_true]; exact Nat.dvd_one.mp (strip_dvd 1 r.m)
/-- a ring in one of both is in the join -/
theorem ring_left {r : RN} {a b : N4} (ok : RingOk r) (ha : NF a) (hb : NF b) (h : ringIn r a) : ringIn r (orN a b) := by
  obtain ⟨hk, h1, h2, h3⟩ := h
  have ka := ha.kind
  have kb := hb.kind
  cases ka with
  | none => exact absurd (Nat.dvd_one.mp h1) ok.o1
  | tied a1 a2 a3 a4 a5 a6 =>
    have ka : Kind _ := .tied a1 a2 a3 a4 a5 a6
    have ho : 0 < r.o := Nat.pos_of_dvd_of_pos h1 (Nat.lt_trans Nat.zero_lt_one a1)
    cases kb with
    | none => rw [or_none_right ha]; exact ⟨hk, h1, h2, h3⟩
    | tied b1 b2 b3 b4 b5 b6 =>
      have kb : Kind _ := .tied b1 b2 b3 b4 b5 b6
      rw [or_tt ka a1 kb b1]
      exact ⟨known_one, Nat.dvd_trans h1 (Nat.dvd_lcm_left _ _), Nat.dvd_trans h2 (Nat.dvd_lcm_left _ _), Nat.dvd_trans h3 (Nat.dvd_lcm_left _ _)⟩
    | free b1 b2 =>
      have kb : Kind _ := .free b1 b2
      rw [or_tf ka a1 kb]
      refine ⟨?_, Nat.dvd_zero _, Nat.dvd_trans h2 (Nat.dvd_lcm_left _ _), Nat.dvd_zero _⟩
      unfold known
      cases hbt : r.but with
      | false => exact absurd (ok.only hbt) (Nat.ne_of_gt ho)
      | true =>
        rw [if_pos rfl, ok.but hbt ho]
        exact (strip_cop _ b1).coprime_dvd_right h1
  | free a1 a2 =>
    have ka : Kind _ := .free a1 a2
    cases kb with
    | none => rw [or_none_right ha]; exact ⟨hk, h1, h2, h3⟩
    | tied b1 b2 b3 b4 b5 b6 =>
      have kb : Kind _ := .tied b1 b2 b3 b4 b5 b6
      rw [or_ft ka kb b1]
      exact ⟨known_mono a1 (strip_dvd _ _) hk, h1, Nat.dvd_trans h2 (Nat.dvd_lcm_left _ _), h3⟩
    | free b1 b2 =>
      have kb : Kind _ := .free b1 b2
      rw [or_ff ka kb]
      exact ⟨known_mono a1 (Nat.gcd_dvd_left _ _) hk, h1, Nat.dvd_trans h2 (Nat.dvd_lcm_left _ _), h3⟩
theorem ring_or {r : RN} {a b : N4} (ok : RingOk r) (ha : NF a) (hb : NF b) (h : ringIn r a ∨ ringIn r b) : ringIn r (orN a b) := by
  rcases h with h | h
  · exact ring_left ok ha hb h
  · rw [or_comm ha hb]; exact ring_left ok hb ha h
/-! ### radicals, by the loops -/
/-- the inner loop: rest without a prime -/
def radI : Nat → Nat → Nat → Option Nat
  | 0, _, _ => none
  | f + 1, r, p => if r % p = 0 then radI f (r / p) p else some r
def radO : Nat → Nat → Nat → Nat → Option Nat
  | 0, _, _, _ => none
  | f + 1, d, r, p => if p * p ≤ r then (if r % p = 0 then match radI (f + 1) r p with
      | some r' => radO f (d * p) r' (p + 1)
      | none => none
    else radO f d r (p + 1)) else some (d * r)
def lawRad (n : Nat) : Nat := (((List.range (n - 1)).map (· + 2)).filter fun k => n % k = 0 ∧ ((List.range (k - 2)).map (· + 2)).filter (fun j => j * j ≤ k ∧ k % j = 0) = []).foldl (· * ·) 1
def dL : List Nat := [1, 2, 3, 6, 10, 12, 35, 45]
def radV (d : Nat) : Nat := if d = 12 then 6 else if d = 45 then 15 else d
theorem rad_ok : ∀ d ∈ dL, radO 20 1 d 2 = some (radV d) ∧ lawRad d = radV d ∧ 0 < radV d ∧ radV d ≤ 45 ∧ 0 < d := by decide
end JM

namespace JM
/-! ### the rings of the law, by their descriptions -/
inductive RS where
  | frac
  | whole (d : Nat)
  | rests (n : Nat)
  | sets (n : Nat)
  | mats (b : RS)
  | tri (b : RS)
  | poly (b : RS)
  | dual (b : RS)
  | root (s : Int) (b : RS)
  | words (l : Nat) (b : RS)
  | pairs (a b : RS)
  | quat (b : RS)
  | swp (b : RS)
  | twist (p : Nat) (b : RS)
def pairN (x y : RN) : RN :=
  ⟨Nat.lcm x.o y.o, Nat.lcm x.s y.s, Nat.lcm x.t y.t, x.but && y.but,
   if x.but = true then (if y.but = true then Nat.lcm x.m y.m else strip y.m x.m) else (if y.but = true then strip x.m y.m else Nat.gcd x.m y.m)⟩
def num : RS → RN
  | .frac => ⟨0, 1, 0, true, 1⟩
  | .whole d => ⟨0, 1, 0, false, radV d⟩
  | .rests n => ⟨n, 1, n / Nat.gcd n 2, true, n⟩
  | .sets _ => ⟨2, 1, 1, true, 2⟩
  | .mats b => ⟨(num b).o, (num b).o, (num b).o, (num b).but, (num b).m⟩
  | .tri b => ⟨(num b).o, (num b).o, (num b).o, (num b).but, (num b).m⟩
  | .poly b => ⟨(num b).o, (num b).s, (num b).o, (num b).but, (num b).m⟩
  | .dual b => ⟨(num b).o, (num b).s, (num b).o, (num b).but, (num b).m⟩
  | .root _ b => ⟨(num b).o, (num b).s, (num b).o, (num b).but, (num b).m⟩
  | .words l b => ⟨(num b).o, if l = 1 then (num b).s else (num b).o, (num b).o, (num b).but, (num b).m⟩
  | .pairs a b => pairN (num a) (num b)
  | .quat b => ⟨(num b).o, if 0 < (num b).o then (num b).o / Nat.gcd (num b).o 2 else 0, (num b).o, (num b).but, (num b).m⟩
  | .swp b => ⟨(num b).o, (num b).s, (num b).t, (num b).but, (num b).m⟩
  | .twist p b => ⟨(num b).o, p, (num b).o, (num b).but, (num b).m⟩
def dep : RS → Nat
  | .frac => 1
  | .whole _ => 1
  | .rests _ => 1
  | .sets _ => 1
  | .mats b => 1 + dep b
  | .tri b => 1 + dep b
  | .poly b => 1 + dep b
  | .dual b => 1 + dep b
  | .root _ b => 1 + dep b
  | .words _ b => 1 + dep b
  | .pairs a b => 1 + max (dep a) (dep b)
  | .quat b => 1 + dep b
  | .swp b => 1 + dep b
  | .twist _ b => 1 + dep b
def wf : RS → Prop
  | .frac => True
  | .whole d => d ∈ dL
  | .rests n => 2 ≤ n ∧ n ≤ 64
  | .sets n => 1 ≤ n ∧ n ≤ 10
  | .mats b => wf b
  | .tri b => wf b
  | .poly b => wf b
  | .dual b => wf b
  | .root s b => (-99 ≤ s ∧ s ≤ 99) ∧ wf b
  | .words l b => (1 ≤ l ∧ l ≤ 3) ∧ wf b
  | .pairs a b => wf a ∧ wf b
  | .quat b => (num b).s = 1 ∧ wf b
  | .swp b => wf b
  | .twist p b => (1 ≤ p ∧ p ≤ 64) ∧ wf b ∧ ((∃ n, b = .rests n ∧ p ∣ n) ∨ (∃ d, b = .whole d ∧ Nat.gcd p (radV d) = 1))
theorem dep_pos : ∀ r, 1 ≤ dep r := by
  intro r
  cases r <;> unfold dep <;> omega
theorem RingOk.with {r : RN} (h : RingOk r) (s t : Nat) : RingOk ⟨r.o, s, t, r.but, r.m⟩ := ⟨h.o1, h.m0, h.but, h.only⟩
theorem pos_lcm {a b : Nat} (h : 0 < Nat.lcm a b) : 0 < a ∧ 0 < b := by
  rcases Nat.eq_zero_or_pos a with e | e
  · rw [e, Nat.lcm_zero_left] at h; omega
  · rcases Nat.eq_zero_or_pos b with e' | e'
    · rw [e', Nat.lcm_zero_right] at h; omega
    · exact ⟨e, e'⟩
theorem pair_ok {x y : RN} (hx : RingOk x) (hy : RingOk y) : RingOk (pairN x y) := by
  refine ⟨?_, ?_, ?_, ?_⟩
  · show Nat.lcm x.o y.o ≠ 1
    intro e
    have h : x.o ∣ 1 := e ▸ Nat.dvd_lcm_left x.o y.o
    exact hx.o1 (Nat.dvd_one.mp h)
  · show 0 < (if x.but = true then (if y.but = true then Nat.lcm x.m y.m else strip y.m x.m) else (if y.but = true then strip x.m y.m else Nat.gcd x.m y.m))
    split
    · split
      · exact Nat.lcm_pos hx.m0 hy.m0
      · exact strip_pos _ hy.m0
    · split
      · exact strip_pos _ hx.m0
      · exact Nat.gcd_pos_of_pos_left _ hx.m0
  · intro hb ho
    have hb : (x.but && y.but) = true := hb
    have h1 : x.but = true := by cases h : x.but with
      | true => rfl
      | false => rw [h] at hb; cases hb
    have h2 : y.but = true := by cases h : y.but with
      | true => rfl
      | false => rw [h, Bool.and_false] at hb; cases hb
    have ho : 0 < Nat.lcm x.o y.o := ho
    obtain ⟨o1, o2⟩ := pos_lcm ho
    show (if x.but = true then (if y.but = true then Nat.lcm x.m y.m else strip y.m x.m) else (if y.but = true then strip x.m y.m else Nat.gcd x.m y.m)) = Nat.lcm x.o y.o
    rw [if_pos h1, if_pos h2, hx.but h1 o1, hy.but h2 o2]
  · intro hb
    have hb : (x.but && y.but) = false := hb
    show Nat.lcm x.o y.o = 0
    cases h : x.but with
    | false => rw [hx.only h, Nat.lcm_zero_left]
    | true =>
      rw [h, Bool.true_and] at hb
      rw [hy.only hb, Nat.lcm_zero_right]
theorem num_ok : ∀ {r : RS}, wf r → RingOk (num r)
  | .frac, _ => ⟨by decide, by decide, fun _ h => absurd h (by decide), fun h => by cases h⟩
  | .whole d, h => ⟨(by decide : (0 : Nat) ≠ 1), (rad_ok d h).2.2.1, fun h => (by cases h), fun _ => rfl⟩
  | .rests n, h => ⟨by have := h.1; show n ≠ 1; omega, by have := h.1; show 0 < n; omega, fun _ _ => rfl, fun h => by cases h⟩
  | .sets _, _ => ⟨(by decide : (2 : Nat) ≠ 1), (by decide : 0 < 2), fun _ _ => rfl, fun h => by cases h⟩
  | .mats b, h => (num_ok (r := b) h).with _ _
  | .tri b, h => (num_ok (r := b) h).with _ _
  | .poly b, h => (num_ok (r := b) h).with _ _
  | .dual b, h => (num_ok (r := b) h).with _ _
  | .root _ b, h => (num_ok (r := b) h.2).with _ _
  | .words _ b, h => (num_ok (r := b) h.2).with _ _
  | .pairs a b, h => pair_ok (num_ok (r := a) h.1) (num_ok (r := b) h.2)
  | .quat b, h => (num_ok (r := b) h.2).with _ _
  | .swp b, h => (num_ok (r := b) h).with _ _
  | .twist _ b, h => (num_ok (r := b) h.2.1).with _ _
/-! ### bounds -/
structure Bd (B : Nat) (r : RN) : Prop where
  o : r.o ≤ B
  s : r.s ≤ B
  t : r.t ≤ B
  m : r.m ≤ B
theorem Bd.mono {B C : Nat} {r : RN} (h : Bd B r) (hc : B ≤ C) : Bd C r := ⟨Nat.le_trans h.o hc, Nat.le_trans h.s hc, Nat.le_trans h.t hc, Nat.le_trans h.m hc⟩
theorem lcm_le_mul (a b : Nat) : Nat.lcm a b ≤ a * b := by
  unfold Nat.lcm
  exact Nat.div_le_self _ _
theorem pair_bd {B : Nat} {x y : RN} (hB : 1 ≤ B) (hx : Bd B x) (hy : Bd B y) (mx : 0 < x.m) : Bd (B * B) (pairN x y) := by
  have sq : B ≤ B * B := Nat.le_mul_of_pos_left B hB
  refine ⟨Nat.le_trans (lcm_le_mul _ _) (Nat.mul_le_mul hx.o hy.o), Nat.le_trans (lcm_le_mul _ _) (Nat.mul_le_mul hx.s hy.s), Nat.le_trans (lcm_le_mul _ _) (Nat.mul_le_mul hx.t hy.t), ?_⟩
  show (if x.but = true then (if y.but = true then Nat.lcm x.m y.m else strip y.m x.m) else (if y.but = true then strip x.m y.m else Nat.gcd x.m y.m)) ≤ B * B
  split
  · split
    · exact Nat.le_trans (lcm_le_mul _ _) (Nat.mul_le_mul hx.m hy.m)
    · exact Nat.le_trans strip_le (Nat.le_trans hy.m sq)
  · split
    · exact Nat.le_trans strip_le (Nat.le_trans hx.m sq)
    · exact Nat.le_trans (Nat.gcd_le_left _ mx) (Nat.le_trans hx.m sq)
def NB : Nat → Nat
  | 0 => 64
  | 1 => 64
  | d + 2 => NB (d + 1) * NB (d + 1)
theorem NB_one : ∀ d, 64 ≤ NB d
  | 0 => Nat.le_refl 64
  | 1 => Nat.le_refl 64
  | d + 2 => by
    have h := NB_one (d + 1)
    show 64 ≤ NB (d + 1) * NB (d + 1)
    exact Nat.le_trans h (Nat.le_mul_of_pos_left _ (by omega))
theorem NB_step (d : Nat) : NB d ≤ NB (1 + d) := by
  rw [Nat.add_comm]
  match d with
  | 0 => exact Nat.le_refl 64
  | d + 1 =>
    have h := NB_one (d + 1)
    exact Nat.le_mul_of_pos_left _ (by omega)
theorem NB_mono {d e : Nat} (h : d ≤ e) : NB d ≤ NB e := by
  induction h with
  | refl => exact Nat.le_refl _
  | @step m _ ih =>
    have s := NB_step m
    rw [Nat.add_comm] at s
    exact Nat.le_trans ih s
theorem Bd.up {r : RN} {d : Nat} (h : Bd (NB d) r) (s t : Nat) (hs : s = r.o ∨ s = r.s) (ht : t = r.o ∨ t = r.t) : Bd (NB (1 + d)) ⟨r.o, s, t, r.but, r.m⟩ := by
  have m := NB_step d
  refine ⟨Nat.le_trans h.o m, ?_, ?_, Nat.le_trans h.m m⟩
  · rcases hs with e | e <;> (show s ≤ _; rw [e])
    · exact Nat.le_trans h.o m
    · exact Nat.le_trans h.s m
  · rcases ht with e | e <;> (show t ≤ _; rw [e])
    · exact Nat.le_trans h.o m
    · exact Nat.le_trans h.t m
theorem num_bd : ∀ {r : RS}, wf r → Bd (NB (dep r)) (num r)
  | .frac, _ => ⟨by decide, by decide, by decide, by decide⟩
  | .whole d, h => ⟨(by decide : 0 ≤ 64), (by decide : 1 ≤ 64), (by decide : 0 ≤ 64), Nat.le_trans (rad_ok d h).2.2.2.1 (show 45 ≤ 64 by decide)⟩
  | .rests n, h => ⟨h.2, (by decide : 1 ≤ 64), Nat.le_trans (Nat.div_le_self _ _) h.2, h.2⟩
  | .sets _, _ => ⟨(by decide : 2 ≤ 64), (by decide : 1 ≤ 64), (by decide : 1 ≤ 64), (by decide : 2 ≤ 64)⟩
  | .mats b, h => (num_bd (r := b) h).up _ _ (.inl rfl) (.inl rfl)
  | .tri b, h => (num_bd (r := b) h).up _ _ (.inl rfl) (.inl rfl)
  | .poly b, h => (num_bd (r := b) h).up _ _ (.inr rfl) (.inl rfl)
  | .dual b, h => (num_bd (r := b) h).up _ _ (.inr rfl) (.inl rfl)
  | .root _ b, h => (num_bd (r := b) h.2).up _ _ (.inr rfl) (.inl rfl)
  | .words l b, h => (num_bd (r := b) h.2).up _ _ (by
      by_cases e : l = 1
      · rw [if_pos e]; exact .inr rfl
      · rw [if_neg e]; exact .inl rfl) (.inl rfl)
  | .pairs a b, h => by
    have ha := (num_bd (r := a) h.1).mono (NB_mono (Nat.le_max_left (dep a) (dep b)))
    have hb := (num_bd (r := b) h.2).mono (NB_mono (Nat.le_max_right (dep a) (dep b)))
    have h1 := NB_one (max (dep a) (dep b))
    have z := pair_bd (by omega) ha hb (num_ok h.1).m0
    show Bd (NB (1 + max (dep a) (dep b))) (pairN (num a) (num b))
    have p := dep_pos a
    have q : 1 ≤ max (dep a) (dep b) := Nat.le_trans p (Nat.le_max_left _ _)
    generalize max (dep a) (dep b) = m at *
    match m, q with
    | m + 1, _ => rw [Nat.add_comm 1 (m + 1)]; exact z
  | .quat b, h => by
    have z := num_bd (r := b) h.2
    have m := NB_step (dep b)
    refine ⟨Nat.le_trans z.o m, ?_, Nat.le_trans z.o m, Nat.le_trans z.m m⟩
    show (if 0 < (num b).o then (num b).o / Nat.gcd (num b).o 2 else 0) ≤ _
    split
    · exact Nat.le_trans (Nat.div_le_self _ _) (Nat.le_trans z.o m)
    · exact Nat.zero_le _
  | .swp b, h => (num_bd (r := b) h).up _ _ (.inr rfl) (.inr rfl)
  | .twist p b, h => by
    have z := num_bd (r := b) h.2.1
    have m := NB_step (dep b)
    refine ⟨Nat.le_trans z.o m, ?_, Nat.le_trans z.o m, Nat.le_trans z.m m⟩
    have := h.1.2
    have := NB_one (1 + dep b)
    show p ≤ NB (1 + dep b)
    omega
theorem num_29 {r : RS} (h : wf r) (hd : dep r ≤ 3) : Bd (2 ^ 24) (num r) := (num_bd h).mono (Nat.le_trans (NB_mono hd) (by decide))
end JM

/-! rules of our own over the layer: own operators, in, ==, a staticmethod by its class, super().__init__, properties and methods of any class below Ring, comprehensions over zip -/
namespace J
open PySem PySem.Spec PyProof.Rows L2
section
variable {X : Cx} {k : Nat} {f C p g : Addr} {sp : Sp} {x m : Str} {np pos apos : Pos} {e o : Expr} {es : List Expr} {ta : TE} {t : TA}
/-! ### calls by a positional promise -/
def tCR (sp : Sp) (t : TA) : TE := fun σ H Q => t σ H fun vs H1 => sp vs H1 Q E0
/-- a def of the module, its promise -/
structure GF (P : Program) (w : World) (K : PySem.W.Frag) (mg : Str → Option Value) (base : Heap) (k : Nat) (x : Str) (sp : Sp) : Prop where
  f : FnR P w K mg base CX0 k (He.ga K x) sp
  m : mg x = some (.ref (He.ga K x))
  kp : PySem.W.keepIn K (.ref (He.ga K x)) = true
theorem pe_cf (F : GF X.prog X.w X.K X.mg X.base k x sp) (hr : Room k X.A) (hg : Gl X x) (hx : Passes CX0 X E0) (ha : PA X (e :: es) t) (hdb : (x == ("__debug__" : Str)) = false := by decide)
    (he : starEach (e :: es) X.env = (false, eval e X.env) :: starEach es X.env := by rfl) (hpl : (backTo pos (starEach es X.env)).any (·.1) = false := by rfl) :
    PE X (.Call (.Name x np) (e :: es) [] pos) (tCR sp t) := by
  refine ⟨fun pins s σ H Q I h => ?_⟩
  refine wpAny_Call_Name_kw (ld_glob I hg F.m ?_ hdb)
  refine PySem.W.callWith_K (h₀ := X.base) I.ok.mod.kin F.kp (thn (ha.run pos pins s σ H _ I h) fun us s1 ⟨vs, H1, I1, r, q⟩ => ⟨I1.kIn, ?_⟩) he hpl
  exact wpAny_call (run_fnR F.f hr hx I1 r q)
/-- C(e, ..), C() of an own class by a positional promise of its __init__ -/
structure GC (P : Program) (w : World) (K : PySem.W.Frag) (mg : Str → Option Value) (base : Heap) (k : Nat) (x : Str) (sp : Sp) : Prop where
  f : FnR P w K mg base CX0 k (He.ma K (He.ga K x) "__init__") sp
  m : mg x = some (.ref (He.ga K x))
  cmk : Mk K (He.ga K x) (He.ma K (He.ga K x) "__init__")
def tMk (C : Addr) (sp : Sp) (t : TA) : TE := fun σ H Q => t σ H fun vs H1 => ∀ x dx, H1 x = none → H1 dx = none → dx ≠ x →
  sp (V.ref x :: vs) (upd (upd H1 dx (.own x)) x (.ins C dx [])) (fun v H2 => v = .non ∧ Q (.ref x) H2) E0
theorem pe_mk (F : GC X.prog X.w X.K X.mg X.base k x sp) (hr : Room (k + 1) X.A) (hg : Gl X x) (hx : Passes CX0 X E0) (ha : PA X (e :: es) t) (hdb : (x == ("__debug__" : Str)) = false := by decide)
    (he : starEach (e :: es) X.env = (false, eval e X.env) :: starEach es X.env := by rfl) (hpl : (backTo pos (starEach es X.env)).any (·.1) = false := by rfl) : PE X (.Call (.Name x np) (e :: es) [] pos) (tMk (He.ga X.K x) sp t) := by
  refine ⟨fun pins s σ H Q I h => ?_⟩
  refine wpAny_Call_Name_kw (ld_glob I hg F.m ?_ hdb)
  refine PySem.W.callWith_K (h₀ := X.base) I.ok.mod.kin F.cmk.kp (thn (ha.run pos pins s σ H _ I h) fun us s1 ⟨vs, H1, I1, r, q⟩ => ⟨I1.kIn, ?_⟩) he hpl
  exact StX.run_makeR F.cmk F.f hr hx I1 r q
theorem pe_mk0 (F : GC X.prog X.w X.K X.mg X.base k x sp) (hr : Room (k + 1) X.A) (hg : Gl X x) (hx : Passes CX0 X E0) (hdb : (x == ("__debug__" : Str)) = false := by decide) : PE X (.Call (.Name x np) [] [] pos) (tMk (He.ga X.K x) sp tNil) := by
  refine ⟨fun pins s σ H Q I h => ?_⟩
  refine wpAny_Call_Name_kw (ld_glob I hg F.m ?_ hdb)
  exact PySem.W.callWith_K0 I.kIn F.cmk.kp (StX.run_makeR (us := []) (vs := []) F.cmk F.f hr hx I .nil h)
/-! ### properties, methods of an object of any class that has them -/
def tPr (K : PySem.W.Frag) (f : Str) (p g : Addr) (sp : Sp) (ta : TE) : TE := fun σ H Q => ta σ H fun x H1 => ∃ a C dx fs, x = .ref a ∧ H1 a = some (.ins C dx fs) ∧ Cls K C ∧ PropOf K C f p g ∧ sp [.ref a] H1 Q E0
theorem pe_pr {f : Str} (he : PE X e ta) (F : FnR X.prog X.w X.K X.mg X.base CX0 k g sp) (hr : Room (k + 1) X.A) (hx : Passes CX0 X.nox E0) (hb : attributeBase e f X.env (eval e X.env) = eval e X.env := by rfl) :
    PE X (.Attribute e f pos) (tPr X.K f p g sp ta) := by
  refine ⟨fun pins s σ H Q I h => ?_⟩
  refine attr_of hb (thn (he.run pins s σ H _ I h) fun u s1 ⟨x, H1, I1, rx, a, C, dx, fs, ex, ea, c, hp, q⟩ => ?_)
  subst ex
  obtain rfl : u = Value.ref a := rx
  obtain ⟨mA, O, _, _, _, _⟩ := ins_get I1.hok ea
  obtain ⟨od, J, _⟩ := O.look
  obtain ⟨rest, hrec⟩ := hp.rec_
  have I2 := I1.tok (s1.toks + 1)
  have hc : (PySem.W.clsIn X.K C).isSome = true := by
    obtain ⟨cd, hc, _⟩ := PySem.W.any_some c.hd
    rw [hc]
    rfl
  refine PySem.W.get_bind I1.kIn J (PySem.W.plainGet_of (c.get f)).1 (PySem.W.findObj_data hc hp.at_ hp.get hp.tak) (PySem.W.plainGet_of (c.get f)).2 (wpAny_call (PySem.W.prop_get (s := { s1 with toks := s1.toks + 1 }) I1.kIn hrec ?_))
  refine codeAny_mono (F X.A.in1 X.stack { s1 with toks := s1.toks + 1 } H1 [.ref a] [.ref a] Q E0 hr.in1 I2.env0.in1 (.cons rfl .nil) q) fun r s' hq => ?_
  cases r with
  | error er => exact False.elim (hx pins σ H1 { s1 with toks := s1.toks + 1 } er s' (I2.wish _) hq)
  | ok fl =>
    cases fl with
    | ret u =>
      obtain ⟨v, H', I3, rv, q3⟩ := I2.after hq
      show wpAny _ _ (handedOut u) _ _ _
      rw [PySem.W.handedOut_of (handed_of rv)]
      exact wpAny_pure ⟨v, H', I3, rv, q3⟩
    | next => exact False.elim hq
    | brk => exact False.elim hq
    | cont => exact False.elim hq
def tMe (K : PySem.W.Frag) (m : Str) (g : Addr) (sp : Sp) (ta : TE) (t : TA) : TE := fun σ H Q => ta σ H fun x H1 => ∃ a C dx fs, x = .ref a ∧ H1 a = some (.ins C dx fs) ∧ Cls K C ∧ Meth K C m g ∧ fs.lookup m = none ∧ t σ H1 fun vs H2 => sp (x :: vs) H2 Q E0
theorem pe_me0 {pl : Sem Bool} (he : PE X o ta) (F : FnR X.prog X.w X.K X.mg X.base CX0 k g sp) (hr : Room k X.A) (hx : Passes CX0 X E0)
    (ht : eval (.Call (.Attribute o m apos) [] [] pos) X.env = (do
      let ov ← eval o X.env
      standAt apos.atName
      let (f, first) ← holding [ov] (getMethod ov m pl)
      callWith pos f first (backTo pos (starEach [] X.env)) (backToKw pos (keywordEach [] X.env))) := by rfl) : PE X (.Call (.Attribute o m apos) [] [] pos) (tMe X.K m g sp ta tNil) := by
  refine ⟨fun pins s σ H Q I h => ?_⟩
  refine PySem.W.methodCall_KW (pl := pl) (thn (he.run pins s σ H _ I h) fun u s1 ⟨x, H1, I1, rx, a, C, dx, fs, ex, ea, c, hm, l, q⟩ => ?_) ht
  subst ex
  obtain rfl : u = Value.ref a := rx
  refine getmeth_ok I1 ea c hm l ?_
  exact PySem.W.callWith_K0 (first := [.ref a]) I1.kIn hm.kp (wpAny_call (run_fnR (us := [.ref a]) (vs := [.ref a]) F hr hx I1 (.cons rfl .nil) q))
theorem pe_me {pl : Sem Bool} (he : PE X o ta) (F : FnR X.prog X.w X.K X.mg X.base CX0 k g sp) (hr : Room k X.A) (hx : Passes CX0 X E0) (ha : PA X (e :: es) t)
    (hst : starEach (e :: es) X.env = (false, eval e X.env) :: starEach es X.env := by rfl) (hpl : (backTo pos (starEach es X.env)).any (·.1) = false := by rfl)
    (ht : eval (.Call (.Attribute o m apos) (e :: es) [] pos) X.env = (do
      let ov ← eval o X.env
      standAt apos.atName
      let (f, first) ← holding [ov] (getMethod ov m pl)
      callWith pos f first (backTo pos (starEach (e :: es) X.env)) (backToKw pos (keywordEach [] X.env))) := by rfl) : PE X (.Call (.Attribute o m apos) (e :: es) [] pos) (tMe X.K m g sp ta t) := by
  refine ⟨fun pins s σ H Q I h => ?_⟩
  refine PySem.W.methodCall_KW (pl := pl) (thn (he.run pins s σ H _ I h) fun u s1 ⟨x, H1, I1, rx, a, C, dx, fs, ex, ea, c, hm, l, q⟩ => ?_) ht
  subst ex
  obtain rfl : u = Value.ref a := rx
  refine getmeth_ok I1 ea c hm l ?_
  refine PySem.W.callWith_K (first := [.ref a]) (h₀ := X.base) I.ok.mod.kin hm.kp (thn (ha.run pos pins s1 σ H1 _ I1 q) fun us s2 ⟨vs, H2, I2, r, q2⟩ => ⟨I2.kIn, ?_⟩) hst hpl
  exact wpAny_call (run_fnR (us := .ref a :: us) (vs := .ref a :: vs) F hr hx I2 (.cons rfl r) q2)
/-! ### own operators, ==, in -/
def rO (C : Addr) (sp : Sp) : R2 := fun x y H Q => ∃ a dx fs b dy gs, x = .ref a ∧ y = .ref b ∧ H a = some (.ins C dx fs) ∧ H b = some (.ins C dy gs) ∧ sp [x, y] H Q E0
theorem op_bin {op : Operator} (hs : PySem.W.findIn X.K (.ref C) (PySem.dunder op.info.2) = some (some (.ref f))) (hc : PySem.W.selfFirst X.K C = true) (hf : PySem.W.isFn X.K (.ref f) = true) (F : FnR X.prog X.w X.K X.mg X.base CX0 k f sp) (hr : Room k X.A) (hx : Passes CX0 X E0) :
    OpR X (binaryOp op) (rO C sp) := by
  intro pins s σ H x y v u Q I rx ry h
  obtain ⟨a, dx, fs, b, dy, gs, rfl, rfl, ha, hb, q⟩ := h
  cases (show v = Value.ref a from rx)
  cases (show u = Value.ref b from ry)
  obtain ⟨_, O, _⟩ := ins_get I.hok ha
  obtain ⟨od, J, _⟩ := O.look
  obtain ⟨_, O', _⟩ := ins_get I.hok hb
  obtain ⟨od', J', _⟩ := O'.look
  obtain ⟨m, hF⟩ := I.fr
  refine PySem.W.binop_K hF I.ok.mod.kin J J'.type hc hs hf ?_
  refine wpAny_mono (wpAny_call (run_fnR (us := [.ref a, .ref b]) (vs := [.ref a, .ref b]) F hr hx I (.cons rfl (.cons rfl .nil)) q)) (fun w s' z => ?_) fun _ _ x => x
  obtain ⟨z', H', I', rz, qz⟩ := z
  exact SlX.cmpback rz ⟨z', H', I', rz, qz⟩
theorem op_cmp {op : CmpOp} (hop : ∀ a b, compareOp op a b = richCompare op a b) (hs : PySem.W.findIn X.K (.ref C) (cmpInfo op).2.1 = some (some (.ref f))) (hf : PySem.W.isFn X.K (.ref f) = true) (F : FnR X.prog X.w X.K X.mg X.base CX0 k f sp) (hr : Room k X.A) (hx : Passes CX0 X E0) :
    OpR X (compareOp op) (rO C sp) := by
  intro pins s σ H x y v u Q I rx ry h
  obtain ⟨a, dx, fs, b, dy, gs, rfl, rfl, ha, hb, q⟩ := h
  cases (show v = Value.ref a from rx)
  cases (show u = Value.ref b from ry)
  obtain ⟨_, O, _⟩ := ins_get I.hok ha
  obtain ⟨od, J, _⟩ := O.look
  obtain ⟨_, O', _⟩ := ins_get I.hok hb
  obtain ⟨od', J', _⟩ := O'.look
  obtain ⟨m, hF⟩ := I.fr
  rw [hop]
  refine PySem.W.cmp_K (op := op) (tb := .ref C) hr.units0 hF I.ok.mod.kin J J'.type (by unfold PySem.W.notFirst; simp) hs hf ?_
  refine wpAny_mono (wpAny_call (run_fnR (us := [.ref a, .ref b]) (vs := [.ref a, .ref b]) F hr hx I (.cons rfl (.cons rfl .nil)) q)) (fun w s' z => ?_) fun _ _ x => x
  obtain ⟨z', H', I', rz, qz⟩ := z
  exact SlX.cmpback rz ⟨z', H', I', rz, qz⟩
/-- x in o, o an instance of C, its __contains__ at f that gives a bool -/
def rIn_ (C : Addr) (neg : Bool) (sp : Sp) : R2 := fun x y H Q => ∃ b dy gs, y = .ref b ∧ H b = some (.ins C dy gs) ∧ sp [y, x] H (fun z H' => ∃ c, z = .bl c ∧ Q (.bl (if neg then !c else c)) H') E0
theorem op_in_ (hs : PySem.W.findIn X.K (.ref C) "__contains__" = some (some (.ref f))) (hf : PySem.W.isFn X.K (.ref f) = true) (F : FnR X.prog X.w X.K X.mg X.base CX0 k f sp) (hr : Room k X.A) (hx : Passes CX0 X E0) : OpR X (compareOp .In) (rIn_ C false sp) := by
  intro pins s σ H x y v u Q I rx ry h
  obtain ⟨b, dy, gs, rfl, hb, q⟩ := h
  cases (show u = Value.ref b from ry)
  obtain ⟨_, O, _⟩ := ins_get I.hok hb
  obtain ⟨od, J, _⟩ := O.look
  obtain ⟨m, hF⟩ := I.fr
  refine PySem.W.in_K hF I.ok.mod.kin J hs hf ?_
  refine wpAny_mono (wpAny_call (run_fnR (us := [.ref b, v]) (vs := [.ref b, x]) F hr hx I (.cons rfl (.cons rx .nil)) q)) (fun w s' z => ?_) fun _ _ x => x
  obtain ⟨z', H', I', rz, c, ez, qz⟩ := z
  subst ez
  cases (show w = Value.bool c from rz)
  exact wpAny_truthy_bool ⟨.bl c, H', I', rfl, qz⟩
theorem op_nin_ (hs : PySem.W.findIn X.K (.ref C) "__contains__" = some (some (.ref f))) (hf : PySem.W.isFn X.K (.ref f) = true) (F : FnR X.prog X.w X.K X.mg X.base CX0 k f sp) (hr : Room k X.A) (hx : Passes CX0 X E0) : OpR X (compareOp .NotIn) (rIn_ C true sp) := by
  intro pins s σ H x y v u Q I rx ry h
  obtain ⟨b, dy, gs, rfl, hb, q⟩ := h
  cases (show u = Value.ref b from ry)
  obtain ⟨_, O, _⟩ := ins_get I.hok hb
  obtain ⟨od, J, _⟩ := O.look
  obtain ⟨m, hF⟩ := I.fr
  refine PySem.W.notIn_K hF I.ok.mod.kin J hs hf ?_
  refine wpAny_mono (wpAny_call (run_fnR (us := [.ref b, v]) (vs := [.ref b, x]) F hr hx I (.cons rfl (.cons rx .nil)) q)) (fun w s' z => ?_) fun _ _ x => x
  obtain ⟨z', H', I', rz, c, ez, qz⟩ := z
  subst ez
  cases (show w = Value.bool c from rz)
  exact wpAny_truthy_bool ⟨.bl (!c), H', I', rfl, qz⟩
/-! ### C.m(), m a staticmethod -/
theorem pe_stat0 {pl : Sem Bool} (he : PE X o ta) (r : ClX.CRead X.K C (.type "type")) (c : Stat X.K C m p g) (F : FnR X.prog X.w X.K X.mg X.base CX0 k g sp) (hr : Room k X.A) (hx : Passes CX0 X E0)
    (ht : eval (.Call (.Attribute o m apos) [] [] pos) X.env = (do
      let ov ← eval o X.env
      standAt apos.atName
      let (f, first) ← holding [ov] (getMethod ov m pl)
      callWith pos f first (backTo pos (starEach [] X.env)) (backToKw pos (keywordEach [] X.env))) := by rfl) :
    PE X (.Call (.Attribute o m apos) [] [] pos) (fun σ H Q => ta σ H fun x H1 => x = .ref C ∧ sp [] H1 Q E0) := by
  refine ⟨fun pins s σ H Q I h => ?_⟩
  refine PySem.W.methodCall_KW (pl := pl) (thn (he.run pins s σ H _ I h) fun u s1 ⟨x, H1, I1, rx, ex, q⟩ => ?_) ht
  subst ex
  obtain rfl : u = Value.ref C := rx
  obtain ⟨rest, hp⟩ := c.rc
  refine PySem.W.method_cls I1.kIn r.ga (PySem.W.cls_bind I1.kIn r.rd c.at_ ?_)
  refine wpAny_call (PySem.W.sm_get (s := { s1 with toks := s1.toks + 1 }) I1.kIn hp (PySem.W.handed_on rfl ?_))
  have I2 := I1.tok (s1.toks + 1)
  exact PySem.W.callWith_K0 (first := []) I2.kIn c.kp (wpAny_call (run_fnR (us := []) (vs := []) F hr hx I2 .nil q))
end
/-! ### super().__init__(..) -/
/-- a block whose activation is known -/
structure PSsA (X : Cx) (c : Code) (sts : List Stmt) (t : TS) : Prop where
  run : ∀ (pins : List (Addr × Obj)) (s : Shared) (σ : L2.St) (H : Hp) (D : Ends), Inv X pins σ H s → t D σ H → PySem.wpAt (model X.prog X.w) X.A c (execs sts X.env) (SP X pins D) X.xe s
section
variable {X : Cx} {c : Code} {st : Stmt} {rest : List Stmt} {t u : TS}
theorem psA_of {sts : List Stmt} (h : PSs X sts t) : PSsA X c sts t := ⟨fun pins s σ H D I q => PySem.wpAt_of_wpAny (h.run pins s σ H D I q)⟩
theorem psA_cons (h1 : PS X st t) (h2 : PSsA X c rest u) : PSsA X c (st :: rest) (tSeq t u) := by
  refine ⟨fun pins s σ H D I q => ?_⟩
  refine PySem.ks_wpAt_execs_cons (PySem.wpAt_of_wpAny (thn (h1.run pins s σ H { D with nx := u D } I q) fun f s' z => ?_))
  cases f with
  | next =>
    obtain ⟨σ', H', I', q'⟩ := z
    exact h2.run pins s' σ' H' D I' q'
  | brk => exact z
  | cont => exact z
  | ret v => exact z
end
/-- super().__init__(args): self in slot 0 -/
def tSup (K : PySem.W.Frag) (D f2 : Addr) (sp : Sp) (ta : TA) (u : TS) : TS := fun E σ H => ∃ a C dx fs, σ[0]? = some (some (.ref a)) ∧ H a = some (.ins C dx fs) ∧ Sup K C D f2 ∧ ta σ H fun vs H1 => sp (.ref a :: vs) H1 (fun _ H2 => u E σ H2) E0
section
variable {X : Cx} {rest : List Stmt} {u : TS} {sp : Sp} {k : Nat} {D f2 f cc cda : Addr} {e : Expr} {es : List Expr} {ta : TA} {p0 p1 apos pos pos2 : Pos} {body : List Stmt} {fd : FuncData} {ar : Arg}
  {oc ccl cl : Value} {od cdd cld : Option Addr} {osl ccs csl : Array (Option Value)} {vs : Array Value} {file : Str} {tf : Tok}
theorem psA_super (hf : X.K.lookup f = some ⟨oc, od, .func fd, osl⟩) (hfu : X.env.func = some f) (hco : X.env.code = .ref cda) (hcode : X.K.lookup cda = some ⟨ccl, cdd, .fields vs, ccs⟩) (hvs : vs[2]? = some (.str file tf))
    (hfile : ((X.prog.main.file : Str) == file) = true) (hcl : X.env.cells.lookup ("__class__" : Str) = some cc) (hcell : X.K.lookup cc = some ⟨cl, cld, .cell (some (.ref D)), csl⟩) (hsup : supOk X.K = true)
    (hp : (fd.params.posonlyargs ++ fd.params.args).head? = some ar) (hN : X.N[0]? = some ar.arg) (hka : X.env.scope.names.lookup ar.arg = some .local)
    (hks : X.env.kindOf "super" = some .globalImplicit) (hkc : X.env.kindOf "__class__" = some .free) (hk : X.env.scope.kind = .function) (htop : (X.prog.main.scope.names.lookup ("super" : Str)).isSome = false)
    (hfi : PySem.W.fnIn X.K f2 = true) (F : FnR X.prog X.w X.K X.mg X.base CX0 k f2 sp) (hr : Room k X.A) (hx : Passes CX0 X E0) (hfn : PySem.W.typeIn X.K (.ref f2) = some (.type "function"))
    (ha : PA X (e :: es) ta) (hrest : PSsA X (.func body X.env) rest u)
    (he : starEach (e :: es) X.env = (false, eval e X.env) :: starEach es X.env := by rfl) (hpl : (backTo pos (starEach es X.env)).any (·.1) = false := by rfl)
    (hi : interactive X.env = false := by rfl) (hs : swapsWith (.Call (.Attribute (.Call (.Name "super" p0) [] [] p1) "__init__" apos) (e :: es) [] pos) none pos2.line X.env = pure false := by rfl)
    (pl : Sem Bool) (hme : eval (.Call (.Attribute (.Call (.Name "super" p0) [] [] p1) "__init__" apos) (e :: es) [] pos) X.env = (do
      let ov ← attributeBase (.Call (.Name "super" p0) [] [] p1) "__init__" X.env (eval (.Call (.Name "super" p0) [] [] p1) X.env)
      standAt apos.atName
      let (f, first) ← holding [ov] (getMethod ov "__init__" pl)
      callWith pos f first (backTo pos (starEach (e :: es) X.env)) []) := by rfl) :
    PSsA X (.func body X.env) (.Expr (.Call (.Attribute (.Call (.Name "super" p0) [] [] p1) "__init__" apos) (e :: es) [] pos) pos2 :: rest) (tSup X.K D f2 sp ta u) := by
  refine ⟨fun pins s σ H D' I h => ?_⟩
  obtain ⟨a, C, dx, fs, hσ, ha1, S, h⟩ := h
  have X1 : X.K.In s.heap := I.kIn
  obtain ⟨sup1, sup2⟩ := He.ba hsup
  obtain ⟨mA, O, _⟩ := ins_get I.hok ha1
  obtain ⟨odx, J, _⟩ := O.look
  obtain ⟨cdD, hcdD⟩ := Option.isSome_iff_exists.mp (show (PySem.W.clsIn X.K D).isSome = true from S.cd)
  obtain ⟨cdC, hcdC⟩ := Option.isSome_iff_exists.mp (show (PySem.W.clsIn X.K C).isSome = true from S.cc)
  obtain ⟨oD, hD1, hD2⟩ : ∃ oD, s.heap.get? D = some oD ∧ oD.data = .cls cdD := by
    unfold PySem.W.clsIn at hcdD
    split at hcdD
    · rename_i c d cd' sl ho
      cases hcdD
      exact ⟨_, X1 _ _ ho, rfl⟩
    · cases hcdD
  obtain ⟨of2, hof, hofc⟩ : ∃ of, s.heap.get? f2 = some of ∧ of.cls = .type "function" := by
    have ht' : (X.K.lookup f2).map (·.cls) = some (.type "function") := hfn
    cases z : X.K.lookup f2 with
    | none => rw [z] at ht'; cases ht'
    | some of => rw [z] at ht'; exact ⟨of, X1 _ _ z, Option.some.inj ht'⟩
  refine PySem.ks_wpAt_execs_cons (PySem.ks_wpAt_Expr_any ?_ hi hs)
  refine PySem.ks_wpAt_MethodCall (pl := pl) ?_ hme
  obtain ⟨m, hn, hl⟩ := id I.loc
  obtain ⟨us, rus, hus⟩ := hl 0 ar.arg (.ref a) hN hσ (.inl hka)
  obtain rfl : us = Value.ref a := rus
  have hloc : m ar.arg = some (.ref a) := by
    rcases hus with ⟨_, z⟩ | ⟨z, _⟩
    · exact z
    · have hka' : X.env.kindOf ar.arg = some .local := hka
      rcases z with z | z <;> rw [hka'] at z <;> cases z
  obtain ⟨mb, hmb1, hmb2⟩ := I.ok.mod.blt
  refine PySem.ks_wpAt_super_base (env := X.env) hks hkc (by decide) hfu (X1 _ _ hf) rfl hp hco (X1 _ _ hcode) rfl hvs hfile htop ?_
  have hgl : s.heap.Ns X.env.globals X.mg := by
    rw [I.ok.glob]
    obtain ⟨o, es', ep, ho, r⟩ := I.ok.mod.glob
    exact ⟨o, es', ep, I.bk _ _ ho, r⟩
  have hbl : s.heap.Ns X.env.builtins mb := by
    rw [I.ok.blt]
    obtain ⟨o, es', ep, ho, r⟩ := hmb1
    exact ⟨o, es', ep, I.bk _ _ ho, r⟩
  refine PySem.W.ks_loadName_global hk hks (PySem.Calls.loadGlobal_builtin (env := X.env) hgl (PySem.W.mg_none_of (I.ok.mod.kin) I.ok.mod.glob (He.eqO_ok sup1)) hbl ((hmb2 "super" (by decide)).trans (by decide +kernel)) ⟨rfl, ?_⟩)
  refine wpAny_loadName_free hk hkc hcl ⟨_, X1 _ _ hcell, rfl⟩ ?_
  refine wpAny_loadName_local hk hka hn hloc ?_
  refine PySem.ks_wpAny_isType_cls hD1 hD2 ⟨rfl, ?_⟩
  obtain ⟨hh, gg, dd, tt, os⟩ := s
  refine PySem.ks_wpAny_call_super hD1 hD2 J.at_ J.cls (fun c e => ?_) (PySem.W.looks_mroIn X1 S.mro) (fun h' e1 k1 => ?_)
  · have := J.no
    unfold PySem.W.notCls at this
    rw [e] at this
    exact Bool.noConfusion this
  have I1 := ClX.pin_new (t' := tt) I k1 (Nat.le_refl _) e1 (fun v z => nomatch z)
  have hfnd : PySem.W.alongIn X.K "__init__" ((cdC.mro.dropWhile (· != .ref D)).drop 1) = some (some (.ref f2)) := by
    have z := S.fnd
    unfold PySem.W.ks_superIn at z
    rw [hcdC] at z
    exact z
  have X2 : X.K.In h' := I1.kIn
  have hneC : a ≠ C := by
    rintro rfl
    unfold PySem.W.clsIn at hcdC
    split at hcdC
    · rename_i c d cd' sl ho
      have e := X1 _ _ ho
      rw [J.at_] at e
      cases e
    · cases hcdC
  refine PySem.ks_wpAny_getMethod_super (l₀ := cdC.mro) (C := C) (x := a) (D := D) e1 (PySem.W.looks_opaque X2 (He.eqO_ok sup2)) (fun A Q E s k q => wpAny_bind ((PySem.W.looks_clsIn X2 hcdC) A _ E s k (wpAny_pure q))) rfl X2 hfnd (k1 _ _ hof) hofc hneC (by decide) ?_
  have I2 := ClX.pin_new (o := PySem.W.methodObj (.ref f2) (.ref a)) (a := h'.objs.size) (t' := tt + 1) I1 (fun _ _ z => Heap.get?_push_of_some _ z) (Nat.le_refl _) (Heap.get?_push_size h' rfl) (fun v z => nomatch z)
  refine ClX.callwith_cm (g := f2) (C := a) I2 (ClX.base_none I1 (Nat.le_refl _)) hfi (thn (ha.run pos _ _ σ H _ I2 h) fun us s3 ⟨vs3, H2, I3, rv, q2⟩ => ⟨⟨ClX.pin_at I3, I3.kIn⟩, ?_⟩) he hpl
  refine thn (ClX.run_cm (sp := sp) (Q := fun _ H2 => u D' σ H2) F hr hx I3 rv q2) fun r s4 z => ?_
  obtain ⟨v, H4, I4, _, q4⟩ := z
  exact hrest.run pins s4 σ H4 D' (ClX.unpin I4) q4
end
end J
namespace J
open PySem PySem.Spec PyProof.Rows L2
section
variable {P : Program} {w : World} {K : PySem.W.Frag} {mg : Str → Option Value} {base : Heap} {k : Nat} {sp : Sp} {d : Dd} {N ps : List Str}
/-- a def without captured cells and without defaults -/
theorem fn_plain (F : ∃ fd, FunG K d (d.at_ K) fd) (S : FnScope N ps d.scope) (len : ∀ vs H Q E, sp vs H Q E → vs.length = ps.length)
    (hb : ∀ (kV doc pm : Value) (an : Option Addr) (cdv ct : Value) (us : List Value), us.length = ps.length → bindArgs (PySem.W.fnOf d.name d.qual d.params d.body d.scope .none kV doc pm an cdv ct) ⟨us, []⟩ = pure (ps.zip us))
    (hbody : ∀ (cdv : Value) (A : Around) (outer : List Env) (s : Shared) (H : Hp) (vs : List V) (Q : VK) (E : XK), Room k (A.deeper (envOfC d.qual d.scope s.heap.objs.size (d.at_ K) cdv)) → sp vs H Q E →
      ∃ t, PSs (cxOf CX0 P w K mg base N d.qual d.scope (d.at_ K) cdv A outer s H E).nox d.body t ∧ t { nx := fun _ H' => Q .non H', rt := Q } (start N vs) H)
    (hc : d.clo = [] := by rfl) (hd : d.dfl = [] := by rfl) (hk : d.kwd = [] := by rfl) : FnR P w K mg base CX0 (k + 1) (d.at_ K) sp := by
  obtain ⟨fd, F⟩ := F
  have FD := F.funD hc
  rw [hd, hk] at FD
  have ok : FnOk P w K mg base CX0 (k + 1) (d.at_ K) fd ps sp := FD.ok S len fun cdv A outer s H vs Q E hr h => by
    obtain ⟨t, h1, h2⟩ := hbody cdv A outer s H vs Q E hr h
    exact ⟨t, h1.nox, h2⟩
  have b := FD.bindsN hb
  refine (ok.raw b .nil).imp fun vs H Q E q => ?_
  rw [List.append_nil]
  exact q
/-- .. of the module, by its name -/
theorem gf_of (c : Says K) (X : K.In base) (G : base.Ns mainGlobals mg) {x : Str} (hx : (He.Fa.glo x).ok K = true) (F : ∃ fd, FunG K d (d.at_ K) fd) (h : FnR P w K mg base CX0 k (d.at_ K) sp) (e : d.at_ K = He.ga K x := by rfl) : GF P w K mg base k x sp := by
  obtain ⟨fd, F⟩ := F
  have kp := F.kp
  rw [e] at h kp
  exact ⟨h, He.glo_ok X G hx, kp⟩
/-- def f( *v) -/
theorem fn_starred {pv : Str} (F : ∃ fd, FunG K d (d.at_ K) fd) (S : FnScope N [pv] d.scope)
    (hb : ∀ (kV doc pm : Value) (an : Option Addr) (cdv ct : Value) (us rest : List Value), us.length = ([] : List Str).length → bindArgs (PySem.W.fnOf d.name d.qual d.params d.body d.scope .none kV doc pm an cdv ct) ⟨us ++ rest, []⟩ = (newTuple rest >>= fun t => pure (([] : List Str).zip us ++ [(pv, t)])))
    (hbody : ∀ (cdv : Value) (A : Around) (outer : List Env) (s : Shared) (H : Hp) (vs : List V) (Q : VK) (E : XK), Room k (A.deeper (envOfC d.qual d.scope s.heap.objs.size (d.at_ K) cdv)) → sp vs H Q E →
      ∃ t, PSs (cxOf CX0 P w K mg base N d.qual d.scope (d.at_ K) cdv A outer s H E).nox d.body t ∧ t { nx := fun _ H' => Q .non H', rt := Q } (start N vs) H)
    (hc : d.clo = [] := by rfl) (hd : d.dfl = [] := by rfl) : FnR P w K mg base CX0 (k + 1) (d.at_ K) (fun vs H Q E => vs.length ≤ sizeLine ∧ ∀ p, H p = none → sp [V.ref p] (upd H p (.tup vs)) Q E) := by
  obtain ⟨fd, F⟩ := F
  obtain ⟨oc, od, cl, dV, kV, doc, pm, an, cdv, ct, osl, e, hcl, lk, hcd, hD, _⟩ := F.ex
  rw [hd] at hD
  obtain rfl : dV = .none := by
    rcases hD with ⟨_, z⟩ | ⟨z, _⟩
    · exact z
    · exact absurd rfl z
  have e0 : cl = [] := by
    rw [hc] at hcl
    exact List.map_eq_nil_iff.mp hcl
  subst e0
  subst e
  refine FnR.imp (StX.fn_star (ps := []) (pv := pv) (N := N) (sp := sp) lk hcd S StX.cxUp_none (hb kV doc pm an cdv ct) fun A outer s H vs Q E hr h => ?_) fun vs H Q E q => ⟨[], vs, rfl, rfl, q.1, q.2⟩
  obtain ⟨t, h1, h2⟩ := hbody cdv A outer s H vs Q E hr h
  exact ⟨t, h1.nox, h2⟩
/-- the words of a def that has captured __class__ -/
abbrev nfOf (d : Dd) (cc cda : Addr) : NdefX.NF := ⟨d.name, d.qual, d.params, d.body, d.scope, [(("__class__" : Str), cc)], cda⟩
/-- what its body may lean on -/
structure SupEnv (K : PySem.W.Frag) (d : Dd) (D cc cda : Addr) : Prop where
  fn : ∃ (oc : Value) (od : Option Addr) (osl : Array (Option Value)) (fd : FuncData), K.lookup (d.at_ K) = some ⟨oc, od, .func fd, osl⟩ ∧ fd.params = d.params
  code : ∃ (ccl : Value) (cdd : Option Addr) (vs : Array Value) (ccs : Array (Option Value)) (tf : Tok) (file : Str), K.lookup cda = some ⟨ccl, cdd, .fields vs, ccs⟩ ∧ vs[2]? = some (.str file tf) ∧ ((PySem.Challenge.pw_numbertypes_k44_whole_joins_of_realms.main.file : Str) == file) = true
  cell : ∃ (cl : Value) (cld : Option Addr) (csl : Array (Option Value)), K.lookup cc = some ⟨cl, cld, .cell (some (.ref D)), csl⟩
/-- an __init__ that calls super().__init__: positional, the values of its defaults behind the first j fill up -/
theorem fn_super {D : Addr} {j : Nat} (F : ∃ fd, FunG K d (d.at_ K) fd) (hcb : cellB K (d.at_ K) D = true) (S : NdefX.NScope N ps ["__class__"] d.scope) (len : ∀ vs H Q E, sp vs H Q E → vs.length = ps.length) (hclo : d.clo = [("__class__" : Str)] := by rfl)
    (hb : ∀ (dV kV doc pm : Value) (an : Option Addr) (cc : Addr) (cdv ct : Value) (us : List Value), us.length = ps.length → (d.dfl = [] → dV = .none) → (d.dfl ≠ [] → ∃ T, dV = .ref T) →
      (bindArgs (PySem.W.fnX d.name d.qual d.params d.body d.scope [("__class__", cc)] dV kV doc pm an cdv ct) ⟨us, []⟩ = pure (ps.zip us) ∨
       ∃ (T : Addr) (k : Option (Array Value) → Sem (List (Str × Value))), dV = .ref T ∧ d.dfl ≠ [] ∧ bindArgs (PySem.W.fnX d.name d.qual d.params d.body d.scope [("__class__", cc)] dV kV doc pm an cdv ct) ⟨us, []⟩ = seqItems? (.ref T) >>= k ∧ ∀ its : List Value, its.length = d.dfl.length → k (some its.toArray) = pure (ps.zip us)))
    (hbody : ∀ (cc cda : Addr) (A : Around) (outer : List Env) (s : Shared) (H : Hp) (vs : List V) (Q : VK) (E : XK), SupEnv K d D cc cda → Room k (A.deeper (NdefX.envF (nfOf d cc cda) (d.at_ K) s.heap.objs.size)) → sp vs H Q E →
      ∃ t, PSsA (NdefX.ncx CX0 P w K mg base N (nfOf d cc cda) (d.at_ K) A outer s H E).nox (.func d.body (NdefX.envF (nfOf d cc cda) (d.at_ K) s.heap.objs.size)) d.body t ∧ t { nx := fun _ H' => Q .non H', rt := Q } (NdefX.startF N vs [some (.ref D)]) H) :
    FnR P w K mg base CX0 (k + 1) (d.at_ K) sp := by
  obtain ⟨fd, F⟩ := F
  obtain ⟨oc, od, cl, dV, kV, doc, pm, an, cdv, ct, osl, e, hcl, lk, hcd, hD, hK⟩ := F.ex
  subst e
  unfold cellB at hcb
  rw [lk] at hcb
  rw [hclo] at hcl
  obtain ⟨cc, rfl⟩ : ∃ cc, cl = [(("__class__" : Str), cc)] := by
    cases cl with
    | nil => cases hcl
    | cons a r =>
      obtain ⟨n, cc⟩ := a
      rw [List.map_cons] at hcl
      injection hcl with h1 h2
      have h1 : n = "__class__" := h1
      rw [List.map_eq_nil_iff.mp h2, h1]
      exact ⟨cc, rfl⟩
  · replace hcb : (match K.lookup cc with
      | some ⟨_, _, .cell (some (.ref E)), _⟩ => decide (E = D) && fileB K cdv
      | _ => false) = true := hcb
    split at hcb
    · rename_i c1 c2 E c3 hcc
      obtain ⟨hE, hfile⟩ := He.ba hcb
      have hE := of_decide_eq_true hE
      subst hE
      unfold fileB at hfile
      split at hfile
      · rename_i cda
        split at hfile
        · rename_i f1 f2 vs f3 hcda
          split at hfile
          · rename_i z tk hvs
            have SE : SupEnv K d E cc cda := ⟨⟨oc, od, osl, _, lk, rfl⟩, ⟨f1, f2, vs, f3, tk, z, hcda, hvs, hfile⟩, ⟨c1, c2, c3, hcc⟩⟩
            intro A outer s H us vs0 Q X hr e0 r hsp
            have hl := len _ _ _ _ hsp
            have KX : K.In s.heap := e0.mod.kin.keeps fun b o e => (e0.bs b o e).1
            have lim : s.heap.NoLimit := e0.mod.nolimit.keeps fun b o e => (e0.bs b o e).1
            have hus : us.length = ps.length := by rw [← r.length]; exact hl
            have hbind : BindsTo s (PySem.W.fnX d.name d.qual d.params d.body d.scope [("__class__", cc)] dV kV doc pm an (.ref cda) ct) ⟨us, []⟩ (ps.zip us) := by
              rcases hb dV kV doc pm an cc (.ref cda) ct us hus (fun h0 => by
                rcases hD with ⟨_, z⟩ | ⟨z, _⟩
                · exact z
                · exact absurd h0 z) (fun h0 => by
                rcases hD with ⟨z, _⟩ | ⟨_, T', o, its, mm, e5, _⟩
                · exact absurd z h0
                · exact ⟨T', e5⟩) with z | ⟨T, kk, e1, e2, e3, e4⟩
              · exact .of_eq z
              · subst e1
                rcases hD with ⟨z, _⟩ | ⟨_, T', o, its, mm, e5, lT, oT, rT⟩
                · exact absurd z e2
                · cases e5
                  refine BindsTo.of_looks fun M => ?_
                  rw [e3]
                  exact looks_items KX lT oT (.of_pure (e4 its rT.length.symm))
            refine PySem.ks_codeAny_call_defAt (fd := PySem.W.fnX d.name d.qual d.params d.body d.scope [("__class__", cc)] dV kV doc pm an (.ref cda) ct) (body := d.body) hr.depth (KX _ _ lk) rfl lim (PySem.W.codeRec_of KX hcd) rfl hbind (fun x hx => S.nocell x hx) (fun x hx => S.par x.1 (List.of_mem_zip hx).1) (fun h₀ hns hk₀ => ?_) S.co S.gen S.kind
            have C : NdefX.CellsAt (nfOf d cc cda).cl ["__class__"] [some (.ref E)] s.heap H := by
              have hcell : s.heap.IsCell cc (some (.ref E)) := ⟨_, KX _ _ hcc, rfl⟩
              have hfree : H cc = none := (e0.bs cc _ (e0.mod.kin _ _ hcc)).2
              have lk1 : ∀ y c, List.lookup y [(("__class__" : Str), cc)] = some c → c = cc ∧ y = "__class__" := fun y c z => by
                have z2 : (match y == ("__class__" : Str) with | true => some cc | false => none) = some c := z
                cases q : (y == ("__class__" : Str)) with
                | true =>
                  rw [q] at z2
                  exact ⟨(Option.some.inj z2).symm, beq_iff_eq.mp q⟩
                | false =>
                  rw [q] at z2
                  cases z2
              refine ⟨rfl, fun y c z => ?_, fun x y c z1 z2 => ?_, fun i y z => ?_⟩
              · obtain ⟨e1, _⟩ := lk1 y c z
                subst e1
                exact ⟨hfree, _, hcell⟩
              · rw [(lk1 x c z1).2, (lk1 y c z2).2]
              · match i, z with
                | 0, z =>
                  have z : y = "__class__" := (Option.some.inj z).symm
                  subst z
                  refine ⟨cc, by first | rfl | simp [List.lookup], fun v hv => ?_⟩
                  have hv : V.ref E = v := Option.some.inj (Option.some.inj hv)
                  subst hv
                  exact ⟨_, rfl, hcell⟩
            obtain ⟨t, ht, hq⟩ := hbody cc cda A outer s H vs0 Q X SE (hr.deeper _) hsp
            have I : Inv (NdefX.ncx CX0 P w K mg base N (nfOf d cc cda) (d.at_ K) A outer s H X) [] (NdefX.startF N vs0 [some (.ref E)]) H { s with heap := h₀, toks := s.toks + (ps.zip us).length } := NdefX.inv_startN S hr.hd e0 hl r C hns hk₀
            refine PySem.ks_wpAt_mono (ht.run [] _ _ H _ (I.wish _) hq) (fun fl s' hs => ?_) fun e s' hs => hs.elim
            have fin : ∀ {σ' : L2.St} {H' : Hp} {v : V} {u : Value}, Inv (NdefX.ncx CX0 P w K mg base N (nfOf d cc cda) (d.at_ K) A outer s H X).nox [] σ' H' s' → RelV v u → Q v H' → CE outer P w H s Q u s' :=
              fun {σ' H' v u} Jn rv q => ⟨v, H', Jn.os, Jn.bare, Jn.base, Jn.hok, rv, q⟩
            cases fl with
            | ret u =>
              obtain ⟨v, σ', H', Jn, rv, q⟩ := hs
              exact fin Jn rv q
            | next =>
              obtain ⟨σ', H', Jn, q⟩ := hs
              exact fin (v := V.non) (u := Value.none) Jn rfl q
            | brk =>
              obtain ⟨_, _, _, q⟩ := hs
              exact False.elim q
            | cont =>
              obtain ⟨_, _, _, q⟩ := hs
              exact False.elim q
          · cases hfile
        · cases hfile
      · cases hfile
    · cases hcb
end
end J

/-! comprehensions over zip; small words for readings -/
namespace J
open PySem PySem.Spec PyProof.Rows L2
theorem lc_zipT {K : PySem.W.Frag} {a b : Addr} {xs ys : List V} {g : TG} {tt : TT} {te : TE} {vs : List Nat} {σ : L2.St} {H1 : Hp} {D : Addr} {Qd : Hp → Prop} (hle : xs.length = ys.length) (Pv : Nat → Hp → Prop) (h0 : Pv 0 (upd H1 D (.lst [])))
    (hl : ∀ i H, i ≤ xs.length → Pv i H → SqT K H a xs ∧ SqT K H b ys)
    (hs : ∀ i x y T H, xs[i]? = some x → ys[i]? = some y → Pv i H → H T = none → g (.ref T) (wipe σ vs) (upd H T (.tup [x, y])) fun σ2 H2 => wipe σ2 vs = wipe σ vs ∧ tt σ2 H2 fun b H3 =>
      if b = true then te σ2 H3 fun y H4 => ∃ acc, H4 D = some (.lst acc) ∧ acc.length < sizeLine ∧ Pv (i + 1) (upd H4 D (.lst (acc ++ [y]))) else Pv (i + 1) H3) (hd : ∀ H, Pv xs.length H → Qd H) :
    ∃ W : Nat → Nat → Hp → Prop, (∃ m, W 0 m (upd H1 D (.lst []))) ∧ ∀ i m H, W i m H →
      ((RZ.ItzT K a b).stop i H ∧ Qd H) ∨ ((RZ.ItzT K a b).go i H ∧ ∃ Nx : Hp → Prop, (∀ H', Nx H' → ∃ m', m' < m ∧ W (i + 1) m' H') ∧ ∀ x H', (RZ.ItzT K a b).yld i H x H' → g x (wipe σ vs) H' fun σ2 H2 => wipe σ2 vs = wipe σ vs ∧ tt σ2 H2 fun b H3 =>
        if b = true then te σ2 H3 fun y H4 => ∃ acc, H4 D = some (.lst acc) ∧ acc.length < sizeLine ∧ Nx (upd H4 D (.lst (acc ++ [y]))) else Nx H3) := by
  refine ⟨fun i m H => m = xs.length - i ∧ i ≤ xs.length ∧ Pv i H, ⟨xs.length, by simp, Nat.zero_le _, h0⟩, ?_⟩
  rintro i m H ⟨rfl, hi, p⟩
  obtain ⟨qx, qy⟩ := hl i H hi p
  by_cases hlt : i < xs.length
  · have hx : xs[i]? = some xs[i] := List.getElem?_eq_getElem hlt
    have hlt2 : i < ys.length := by omega
    have hy : ys[i]? = some ys[i] := List.getElem?_eq_getElem hlt2
    refine .inr ⟨⟨xs, ys, _, _, qx, qy, hx, hy⟩, Pv (i + 1), fun H' p' => ⟨xs.length - (i + 1), by omega, rfl, hlt, p'⟩, fun v H' z => ?_⟩
    obtain ⟨T, x', y', rfl, hT, rfl, f1, f2⟩ := z
    exact hs i x' y' T H (f1 xs qx) (f2 ys qy) p hT
  · have e : i = xs.length := by omega
    subst e
    exact .inl ⟨⟨xs, ys, qx, qy, Or.inl (Nat.le_refl _)⟩, hd H p⟩
theorem lc_zipL {K : PySem.W.Frag} {a b : Addr} {xs ys : List V} {g : TG} {tt : TT} {te : TE} {vs : List Nat} {σ : L2.St} {H1 : Hp} {D : Addr} {Qd : Hp → Prop} (hle : xs.length = ys.length) (Pv : Nat → Hp → Prop) (h0 : Pv 0 (upd H1 D (.lst [])))
    (hl : ∀ i H, i ≤ xs.length → Pv i H → SqL K H a xs ∧ SqL K H b ys)
    (hs : ∀ i x y T H, xs[i]? = some x → ys[i]? = some y → Pv i H → H T = none → g (.ref T) (wipe σ vs) (upd H T (.tup [x, y])) fun σ2 H2 => wipe σ2 vs = wipe σ vs ∧ tt σ2 H2 fun b H3 =>
      if b = true then te σ2 H3 fun y H4 => ∃ acc, H4 D = some (.lst acc) ∧ acc.length < sizeLine ∧ Pv (i + 1) (upd H4 D (.lst (acc ++ [y]))) else Pv (i + 1) H3) (hd : ∀ H, Pv xs.length H → Qd H) :
    ∃ W : Nat → Nat → Hp → Prop, (∃ m, W 0 m (upd H1 D (.lst []))) ∧ ∀ i m H, W i m H →
      ((Itz K a b).stop i H ∧ Qd H) ∨ ((Itz K a b).go i H ∧ ∃ Nx : Hp → Prop, (∀ H', Nx H' → ∃ m', m' < m ∧ W (i + 1) m' H') ∧ ∀ x H', (Itz K a b).yld i H x H' → g x (wipe σ vs) H' fun σ2 H2 => wipe σ2 vs = wipe σ vs ∧ tt σ2 H2 fun b H3 =>
        if b = true then te σ2 H3 fun y H4 => ∃ acc, H4 D = some (.lst acc) ∧ acc.length < sizeLine ∧ Nx (upd H4 D (.lst (acc ++ [y]))) else Nx H3) := by
  refine ⟨fun i m H => m = xs.length - i ∧ i ≤ xs.length ∧ Pv i H, ⟨xs.length, by simp, Nat.zero_le _, h0⟩, ?_⟩
  rintro i m H ⟨rfl, hi, p⟩
  obtain ⟨qx, qy⟩ := hl i H hi p
  by_cases hlt : i < xs.length
  · have hx : xs[i]? = some xs[i] := List.getElem?_eq_getElem hlt
    have hlt2 : i < ys.length := by omega
    have hy : ys[i]? = some ys[i] := List.getElem?_eq_getElem hlt2
    refine .inr ⟨⟨xs, ys, _, _, qx, qy, hx, hy⟩, Pv (i + 1), fun H' p' => ⟨xs.length - (i + 1), by omega, rfl, hlt, p'⟩, fun v H' z => ?_⟩
    obtain ⟨T, x', y', rfl, hT, rfl, f1, f2⟩ := z
    exact hs i x' y' T H (f1 xs qx) (f2 ys qy) p hT
  · have e : i = xs.length := by omega
    subst e
    exact .inl ⟨⟨xs, ys, qx, qy, Or.inl (Nat.le_refl _)⟩, hd H p⟩
/-! ### heaps -/
/-- a new object: what stood stands -/
theorem same_new {H : Hp} {p : Addr} {o : HO} (hp : H p = none) : Same H (upd H p o) := fun b u e => by rw [upd_ne (ne_of_none e hp)]; exact e
/-- all but b stands -/
def SameB (b : Addr) (H H' : Hp) : Prop := ∀ a o, a ≠ b → H a = some o → H' a = some o
theorem Same.but {b : Addr} {H H' : Hp} (h : Same H H') : SameB b H H' := fun a o _ e => h a o e
theorem SameB.refl (b : Addr) (H : Hp) : SameB b H H := fun _ _ _ e => e
theorem SameB.trans {b : Addr} {H H1 H2 : Hp} (h : SameB b H H1) (h' : SameB b H1 H2) : SameB b H H2 := fun a o n e => h' a o n (h a o n e)
/-- a new tuple, a new list: told by what it leaves -/
theorem new_tup {H : Hp} {xs : List V} {Q : VK} (h : ∀ p H2, H p = none → Same H H2 → H2 p = some (.tup xs) → Q (.ref p) H2) : ∀ p, H p = none → Q (.ref p) (upd H p (.tup xs)) := fun p hp => h p _ hp (same_new hp) upd_same
theorem new_lst {H : Hp} {xs : List V} {Q : VK} (h : ∀ p H2, H p = none → Same H H2 → H2 p = some (.lst xs) → Q (.ref p) H2) : ∀ p, H p = none → Q (.ref p) (upd H p (.lst xs)) := fun p hp => h p _ hp (same_new hp) upd_same
theorem le_line {n : Nat} (h : n ≤ 1000) : n ≤ sizeLine := Nat.le_trans h (by decide)
/-- an int that is a natural number -/
abbrev nt (n : Nat) : V := .int (n : Int)
theorem emod_nat (a b : Nat) : ((a : Int) % (b : Int)) = ((a % b : Nat) : Int) := (Int.natCast_emod a b).symm
theorem fdiv_nat (a b : Nat) : ((a : Int).fdiv (b : Int)) = ((a / b : Nat) : Int) := by
  rw [Int.fdiv_eq_ediv_of_nonneg _ (by omega)]
  exact (Int.natCast_ediv a b).symm
theorem abs_nat (a : Nat) : (if (a : Int) < 0 then -(a : Int) else (a : Int)) = (a : Int) := by
  rw [if_neg (by omega)]
theorem abs_natAbs (i : Int) : (if i < 0 then -i else i) = ((i.natAbs : Nat) : Int) := by
  split <;> omega
end J

/-! the defs: integers -/
namespace J
open PySem PySem.Spec PyProof.Rows L2
/-- the ground: facts of the written part, the module's names -/
structure Z (K : PySem.W.Frag) (mg : Str → Option Value) (base : Heap) : Prop where
  c : Says K
  x : K.In base
  g : base.Ns mainGlobals mg
section
variable {P : Program} {w : World} {K : PySem.W.Frag} {mg : Str → Option Value} {base : Heap}
theorem Z.free (z : Z K mg base) {x : Str} (h : (He.Fa.free x).ok K = true) : mg x = none := He.free_ok z.x z.g h
/-! ### is_int, in_bounds -/
theorem sc_is_int : FnScope ["value"] ["value"] dFis_int.scope := ⟨rfl, rfl, rfl, by decide +kernel, rfl, by decide +kernel, by decide +kernel⟩
def spIsInt : Sp := fun vs H Q _ => ∃ i : Int, vs = [.int i] ∧ Q (.bl true) H
theorem g_is_int (z : Z K mg base) : GF P w K mg base 1 "is_int" spIsInt := by
  refine gf_of z.c z.x z.g (c_glo_is_int z.c) (f_Fis_int z.c) (fn_plain (f_Fis_int z.c) sc_is_int (fun vs H Q E h => ?_) (fun _ _ _ _ _ _ us hl => match us, hl with | [_], _ => rfl) fun cdv A outer s H vs Q E hr h => ?_)
  · obtain ⟨i, rfl, _⟩ := h; rfl
  · obtain ⟨i, rfl, q⟩ := h
    refine ⟨_, pss_one (ps_ret (pe_and (pe_callB call_isi (by rfl) (z.free (c_free_isinstance z.c)) (by decide +kernel) (pa_cons (pv 0) (pa_cons (pe_bltn (v := .ty "int") (by rfl) (z.free (c_free_int z.c)) (by decide +kernel) rfl) pa_nil)))
      (pe_one (pe_not (pe_callB call_isi (by rfl) (z.free (c_free_isinstance z.c)) (by decide +kernel) (pa_cons (pv 0) (pa_cons (pe_bltn (v := .ty "bool") (by rfl) (z.free (c_free_bool z.c)) (by decide +kernel) rfl) pa_nil))))))), ?_⟩
    refine ⟨_, rfl, _, _, _, _, true, rfl, .ty _, .base (.int _), kit_ty (by decide +kernel), _, rfl, ?_⟩
    exact ⟨_, rfl, _, _, _, _, false, rfl, .ty _, .base (.int _), kit_ty (by decide +kernel), _, rfl, q⟩
theorem sc_in_bounds : FnScope ["value", "least", "most"] ["value", "least", "most"] dFin_bounds.scope := ⟨rfl, rfl, rfl, by decide +kernel, rfl, by decide +kernel, by decide +kernel⟩
def spInB : Sp := fun vs H Q _ => ∃ i a b : Int, vs = [.int i, .int a, .int b] ∧ Q (.bl (decide (a ≤ i ∧ i ≤ b))) H
theorem g_in_bounds (z : Z K mg base) : GF P w K mg base 2 "in_bounds" spInB := by
  refine gf_of z.c z.x z.g (c_glo_in_bounds z.c) (f_Fin_bounds z.c) (fn_plain (f_Fin_bounds z.c) sc_in_bounds (fun vs H Q E h => ?_) (fun _ _ _ _ _ _ us hl => match us, hl with | [_, _, _], _ => rfl) fun cdv A outer s H vs Q E hr h => ?_)
  · obtain ⟨i, a, b, rfl, _⟩ := h; rfl
  · obtain ⟨i, a, b, rfl, q⟩ := h
    have G1 : GF P w K mg base 1 "is_int" spIsInt := g_is_int z
    refine ⟨_, pss_one (ps_ret (pe_and (pe_cf G1 hr (by rfl) pass0 (pa_cons (pv 0) pa_nil)) (pe_one (pe_chain op_le op_le (pv 1) (pv 0) (pv 2))))), ?_⟩
    refine ⟨_, rfl, _, rfl, _, rfl, ?_⟩
    refine ⟨_, rfl, _, rfl, _, _, rfl, rfl, _, rfl, ?_⟩
    by_cases h1 : a ≤ i
    · rw [decide_eq_true h1]
      refine ⟨_, rfl, _, _, rfl, rfl, ?_⟩
      have e : decide (i ≤ b) = decide (a ≤ i ∧ i ≤ b) := decide_eq_decide.mpr ⟨fun h => ⟨h1, h⟩, fun h => h.2⟩
      show Q (.bl (decide (i ≤ b))) H
      rw [e]
      exact q
    · rw [decide_eq_false h1]
      have e : decide (a ≤ i ∧ i ≤ b) = false := decide_eq_false fun h => h1 h.1
      rw [e] at q
      exact q
/-! ### gcd -/
theorem sc_gcd : FnScope ["a", "b", "left", "right"] ["a", "b"] dFgcd.scope := ⟨rfl, rfl, rfl, by decide +kernel, rfl, by decide +kernel, by decide +kernel⟩
def spGcd : Sp := fun vs H Q _ => ∃ a b : Int, vs = [.int a, .int b] ∧ Q (nt (Int.gcd a b)) H
def wGcd (a b : Int) (H : Hp) : Nat → L2.St → Hp → Prop := fun m σ H' => ∃ l : Nat, σ = [some (.int a), some (.int b), some (nt l), some (nt m)] ∧ Nat.gcd l m = Int.gcd a b ∧ H' = H
theorem g_gcd (z : Z K mg base) : GF P w K mg base 1 "gcd" spGcd := by
  refine gf_of z.c z.x z.g (c_glo_gcd z.c) (f_Fgcd z.c) (fn_plain (f_Fgcd z.c) sc_gcd (fun vs H Q E h => ?_) (fun _ _ _ _ _ _ us hl => match us, hl with | [_, _], _ => rfl) fun cdv A outer s H vs Q E hr h => ?_)
  · obtain ⟨a, b, rfl, _⟩ := h; rfl
  · obtain ⟨a, b, rfl, q⟩ := h
    refine ⟨_, pss_cons (ps_par (i := 2) (j := 3) rfl sc_gcd.nd rfl rfl (by decide) rfl rfl (pa_cons (pe_callB call_abs (by rfl) (z.free (c_free_abs z.c)) (by decide +kernel) (pa_cons (pv 0) pa_nil)) (pa_cons (pe_callB call_abs (by rfl) (z.free (c_free_abs z.c)) (by decide +kernel) (pa_cons (pv 1) pa_nil)) pa_nil)) (by rfl))
      (pss_cons (ps_while PassesOwn.never (pt_cmpR op_gt (pv 3) pe_int (nomark _)) (pss_one (ps_par (i := 2) (j := 3) rfl sc_gcd.nd rfl rfl (by decide) rfl rfl (pa_cons (pv 3) (pa_cons (pe_op op_mod (pe_callTy call_int1 (by rfl) (z.free (c_free_int z.c)) (by decide +kernel) (pa_cons (pv 2) pa_nil)) (pv 3)) pa_nil)) (by rfl))))
      (pss_one (ps_ret (pv 2)))), ?_⟩
    refine ⟨_, rfl, _, rfl, _, rfl, _, rfl, _, _, rfl, ?_⟩
    refine ⟨wGcd a b H, ⟨b.natAbs, a.natAbs, ?_, rfl, rfl⟩, ?_⟩
    · rw [abs_natAbs, abs_natAbs] <;> rfl
    · rintro m σ H' ⟨l, rfl, hg, rfl⟩
      refine ⟨_, rfl, _, _, rfl, rfl, _, rfl, ?_⟩
      refine ite2 (fun h => ?_) (fun h => ?_)
      · have hm : 0 < m := by have := of_decide_eq_true h; omega
        refine ⟨fun σ' H'' => ∃ m', m' < m ∧ wGcd a b H' m' σ' H'', fun _ _ h => h, ?_⟩
        refine ⟨_, rfl, _, rfl, .inl ⟨_, rfl, _, rfl, _, _, rfl, rfl, by omega, _, _, rfl, ?_⟩⟩
        refine ⟨l % m, Nat.mod_lt _ hm, m, ?_, ?_, rfl⟩
        · rfl
        · rw [← hg, Nat.gcd_comm l m, Nat.gcd_rec m l, Nat.gcd_comm]
      · have hm : m = 0 := by
          have h1 : ¬ ((0 : Int) < (m : Int)) := fun z => h (decide_eq_true z)
          omega
        subst hm
        rw [Nat.gcd_zero_right] at hg
        subst hg
        exact ⟨_, rfl, q⟩
end
end J

namespace J
open PySem PySem.Spec PyProof.Rows L2
section
variable {P : Program} {w : World} {K : PySem.W.Frag} {mg : Str → Option Value} {base : Heap}
/-! ### multiple, common: two numbers -/
theorem sc_multiple : FnScope ["numbers", "found", "number"] ["numbers"] dFmultiple.scope := ⟨rfl, rfl, rfl, by decide +kernel, rfl, by decide +kernel, by decide +kernel⟩
def spMul0 : Sp := fun vs H Q _ => ∃ (p : Addr) (a b : Nat), vs = [.ref p] ∧ H p = some (.tup [nt a, nt b]) ∧ a < 2 ^ 29 ∧ b < 2 ^ 29 ∧ Q (nt (Nat.lcm a b)) H
def spMul : Sp := fun vs H Q _ => ∃ a b : Nat, vs = [nt a, nt b] ∧ a < 2 ^ 29 ∧ b < 2 ^ 29 ∧ ∀ H', Same H H' → Q (nt (Nat.lcm a b)) H'
def mulAt (a b : Nat) : Nat → Nat
  | 0 => 1
  | 1 => a
  | _ => Nat.lcm a b
theorem lcm_calc {f n : Nat} (hf : 0 < f) : f / Nat.gcd f n * n = Nat.lcm f n := by
  rw [Nat.lcm_eq_mul_div, Nat.div_mul_right_comm (Nat.gcd_dvd_left f n)]
theorem lcm_calcI {f n : Nat} (hf : 0 < f) : (if ((f : Int).fdiv ((Nat.gcd f n : Nat) : Int) * (n : Int)) < 0 then -((f : Int).fdiv ((Nat.gcd f n : Nat) : Int) * (n : Int)) else ((f : Int).fdiv ((Nat.gcd f n : Nat) : Int) * (n : Int))) = ((Nat.lcm f n : Nat) : Int) := by
  rw [fdiv_nat, ← lcm_calc hf]
  have e : ((f / Nat.gcd f n : Nat) : Int) * (n : Int) = ((f / Nat.gcd f n * n : Nat) : Int) := by simp
  rw [e, abs_nat]
theorem g_multiple (z : Z K mg base) : GF P w K mg base 2 "multiple" spMul := by
  refine gf_of z.c z.x z.g (c_glo_multiple z.c) (f_Fmultiple z.c) (FnR.imp (fn_starred (sp := spMul0) (f_Fmultiple z.c) sc_multiple (fun _ _ _ _ _ _ us rest hl => match us, rest, hl with | [], [], _ => rfl | [], _ :: _, _ => rfl) fun cdv A outer s H vs Q E hr h => ?_) ?_)
  · obtain ⟨p, a, b, rfl, hp, ha, hb, q⟩ := h
    have G1 : GF P w K mg base 1 "gcd" spGcd := g_gcd z
    refine ⟨_, pss_cons (ps_set (i := 1) sc_multiple.nd rfl (.inl rfl) pe_int) (pss_cons (ps_for PassesOwn.never rfl (pi_tup (pv 0)) (pg_name (i := 2) sc_multiple.nd rfl (.inl rfl))
      (pss_cons (ps_if (pt_cmpR op_eq (pv 2) pe_int (nomark _)) (pss_one (ps_ret pe_int)) pss_nil) (pss_one (ps_set (i := 1) sc_multiple.nd rfl (.inl rfl) (pe_callB call_abs (by rfl) (z.free (c_free_abs z.c)) (by decide +kernel)
        (pa_cons (pe_op op_mul (pe_op op_fdivN (pv 1) (pe_cf G1 hr (by rfl) pass0 (pa_cons (pv 1) (pa_cons (pv 2) pa_nil)))) (pv 2)) pa_nil))))))
      (pss_one (ps_ret (pv 1)))), ?_⟩
    refine ⟨_, rfl, p, rfl, ⟨_, SqT.of hp⟩, for_tup (xs := [nt a, nt b]) (fun i σ H' => H' = H ∧ ∃ f o, σ = [some (.ref p), some (nt f), o] ∧ f = mulAt a b i ∧ 0 < f) ⟨rfl, 1, none, rfl, rfl, Nat.zero_lt_one⟩ (fun i σ H' _ h => by rw [h.1]; exact SqT.of hp) ?_ ?_⟩
    · rintro i x σ H' hx ⟨rfl, f, o, rfl, hf, h0⟩
      obtain ⟨n, rfl, hn, hnext, hz⟩ : ∃ n : Nat, x = nt n ∧ n < 2 ^ 29 ∧ mulAt a b (i + 1) = Nat.lcm f n ∧ (n = 0 → Nat.lcm a b = 0) := by
        match i, hx, hf with
        | 0, hx, hf =>
          refine ⟨a, (Option.some.inj hx).symm, ha, ?_, fun h => by rw [h]; exact Nat.lcm_zero_left b⟩
          rw [hf]
          exact (Nat.lcm_one_left a).symm
        | 1, hx, hf =>
          refine ⟨b, (Option.some.inj hx).symm, hb, ?_, fun h => by rw [h]; exact Nat.lcm_zero_right a⟩
          rw [hf] <;> rfl
        | i + 2, hx, hf => simp at hx
      refine ⟨_, rfl, rfl, _, rfl, ite2 (fun h => ?_) (fun h => ?_)⟩
      · have h1 : V.int (n : Int) = V.int 0 := of_decide_eq_true h
        have h2 : (n : Int) = 0 := V.int.inj h1
        have h3 : n = 0 := by omega
        rw [hz h3] at q
        exact q
      · have h1 : n ≠ 0 := fun e => h (by rw [e] <;> rfl)
        refine ⟨_, rfl, _, rfl, _, rfl, _, _, rfl, ?_⟩
        have hgp : 0 < Nat.gcd f n := Nat.gcd_pos_of_pos_left n h0
        have hgl : Nat.gcd f n ≤ n := Nat.le_of_dvd (by omega) (Nat.gcd_dvd_right f n)
        refine ⟨_, _, rfl, rfl, ⟨?_, ?_⟩, _, rfl, _, _, rfl, rfl, .inr ⟨by omega, by omega⟩, _, rfl, ?_⟩
        · show ((Nat.gcd f n : Nat) : Int) ≠ 0
          omega
        · show Int.natAbs ((Nat.gcd f n : Nat) : Int) < _
          omega
        · refine ⟨rfl, Nat.lcm f n, some (nt n), ?_, hnext.symm, Nat.lcm_pos h0 (by omega)⟩
          show [some (V.ref p), some (V.int (if ((f : Int).fdiv ((Nat.gcd f n : Nat) : Int) * (n : Int)) < 0 then -((f : Int).fdiv ((Nat.gcd f n : Nat) : Int) * (n : Int)) else ((f : Int).fdiv ((Nat.gcd f n : Nat) : Int) * (n : Int)))), some (nt n)] = _
          rw [lcm_calcI h0]
    · rintro σ H' ⟨rfl, f, o, rfl, hf, _⟩
      refine ⟨_, rfl, ?_⟩
      rw [hf]
      exact q
  · rintro vs H Q E ⟨a, b, rfl, ha, hb, q⟩
    exact ⟨le_line (show 2 ≤ 1000 by decide), fun p hp => ⟨p, a, b, rfl, upd_same, ha, hb, q _ (same_new hp)⟩⟩
theorem sc_common : FnScope ["numbers", "found", "number"] ["numbers"] dFcommon.scope := ⟨rfl, rfl, rfl, by decide +kernel, rfl, by decide +kernel, by decide +kernel⟩
def spCom0 : Sp := fun vs H Q _ => ∃ (p : Addr) (a b : Nat), vs = [.ref p] ∧ H p = some (.tup [nt a, nt b]) ∧ Q (nt (Nat.gcd a b)) H
def spCom : Sp := fun vs H Q _ => ∃ a b : Nat, vs = [nt a, nt b] ∧ ∀ H', Same H H' → Q (nt (Nat.gcd a b)) H'
def comAt (a b : Nat) : Nat → Nat
  | 0 => 0
  | 1 => a
  | _ => Nat.gcd a b
theorem g_common (z : Z K mg base) : GF P w K mg base 2 "common" spCom := by
  refine gf_of z.c z.x z.g (c_glo_common z.c) (f_Fcommon z.c) (FnR.imp (fn_starred (sp := spCom0) (f_Fcommon z.c) sc_common (fun _ _ _ _ _ _ us rest hl => match us, rest, hl with | [], [], _ => rfl | [], _ :: _, _ => rfl) fun cdv A outer s H vs Q E hr h => ?_) ?_)
  · obtain ⟨p, a, b, rfl, hp, q⟩ := h
    have G1 : GF P w K mg base 1 "gcd" spGcd := g_gcd z
    refine ⟨_, pss_cons (ps_set (i := 1) sc_common.nd rfl (.inl rfl) pe_int) (pss_cons (ps_for PassesOwn.never rfl (pi_tup (pv 0)) (pg_name (i := 2) sc_common.nd rfl (.inl rfl))
      (pss_one (ps_set (i := 1) sc_common.nd rfl (.inl rfl) (pe_cf G1 hr (by rfl) pass0 (pa_cons (pv 1) (pa_cons (pv 2) pa_nil))))))
      (pss_one (ps_ret (pv 1)))), ?_⟩
    refine ⟨_, rfl, p, rfl, ⟨_, SqT.of hp⟩, for_tup (xs := [nt a, nt b]) (fun i σ H' => H' = H ∧ ∃ f o, σ = [some (.ref p), some (nt f), o] ∧ f = comAt a b i) ⟨rfl, 0, none, rfl, rfl⟩ (fun i σ H' _ h => by rw [h.1]; exact SqT.of hp) ?_ ?_⟩
    · rintro i x σ H' hx ⟨rfl, f, o, rfl, hf⟩
      obtain ⟨n, rfl, hnext⟩ : ∃ n : Nat, x = nt n ∧ comAt a b (i + 1) = Nat.gcd f n := by
        match i, hx, hf with
        | 0, hx, hf =>
          refine ⟨a, (Option.some.inj hx).symm, ?_⟩
          rw [hf]
          exact (Nat.gcd_zero_left a).symm
        | 1, hx, hf =>
          refine ⟨b, (Option.some.inj hx).symm, ?_⟩
          rw [hf] <;> rfl
        | i + 2, hx, hf => simp at hx
      exact ⟨_, rfl, _, rfl, _, _, rfl, rfl, Nat.gcd f n, _, rfl, hnext.symm⟩
    · rintro σ H' ⟨rfl, f, o, rfl, hf⟩
      refine ⟨_, rfl, ?_⟩
      rw [hf]
      exact q
  · rintro vs H Q E ⟨a, b, rfl, q⟩
    exact ⟨le_line (show 2 ≤ 1000 by decide), fun p hp => ⟨p, a, b, rfl, upd_same, q _ (same_new hp)⟩⟩
/-! ### divides -/
theorem sc_divides : FnScope ["one", "other"] ["one", "other"] dFdivides.scope := ⟨rfl, rfl, rfl, by decide +kernel, rfl, by decide +kernel, by decide +kernel⟩
def spDiv : Sp := fun vs H Q _ => ∃ a b : Nat, vs = [nt a, nt b] ∧ Q (.bl (decide (a ∣ b))) H
theorem g_divides (z : Z K mg base) : GF P w K mg base 1 "divides" spDiv := by
  refine gf_of z.c z.x z.g (c_glo_divides z.c) (f_Fdivides z.c) (fn_plain (f_Fdivides z.c) sc_divides (fun vs H Q E h => ?_) (fun _ _ _ _ _ _ us hl => match us, hl with | [_, _], _ => rfl) fun cdv A outer s H vs Q E hr h => ?_)
  · obtain ⟨a, b, rfl, _⟩ := h; rfl
  · obtain ⟨a, b, rfl, q⟩ := h
    refine ⟨_, pss_one (ps_ret (pe_ifExp (pt_cmpR op_eq (pv 0) pe_int (nomark _)) (pe_cmpR op_eq (pv 1) pe_int (nomark _))
      (pe_cmpR op_eq (pe_op op_mod (pe_callTy call_int1 (by rfl) (z.free (c_free_int z.c)) (by decide +kernel) (pa_cons (pv 1) pa_nil)) (pv 0)) pe_int (nomark _)))), ?_⟩
    refine ⟨_, rfl, rfl, _, rfl, ite2 (fun h => ?_) (fun h => ?_)⟩
    · have h1 : (a : Int) = 0 := V.int.inj (of_decide_eq_true h)
      have h2 : a = 0 := by omega
      subst h2
      refine ⟨_, rfl, rfl, ?_⟩
      have e : decide (V.int (b : Int) = V.int 0) = decide (0 ∣ b) := decide_eq_decide.mpr ⟨fun h => by
          have h1 := V.int.inj h
          have h2 : b = 0 := by omega
          rw [h2]
          exact Nat.dvd_refl 0, fun h => by rw [Nat.zero_dvd.mp h] <;> rfl⟩
      show Q (.bl (decide (V.int (b : Int) = V.int 0))) H
      rw [e]
      exact q
    · have ha : 0 < a := by
        rcases Nat.eq_zero_or_pos a with e | e
        · exact absurd (by rw [e] <;> rfl) h
        · exact e
      refine ⟨_, rfl, .inl ⟨_, rfl, _, rfl, _, _, rfl, rfl, by omega, rfl, ?_⟩⟩
      have e : decide (V.int ((b : Int) % (a : Int)) = V.int 0) = decide (a ∣ b) := decide_eq_decide.mpr ⟨fun h => by
          have h1 := V.int.inj h
          rw [emod_nat] at h1
          exact Nat.dvd_of_mod_eq_zero (by omega), fun h => by rw [emod_nat, Nat.mod_eq_zero_of_dvd h] <;> rfl⟩
      show Q (.bl (decide (V.int ((b : Int) % (a : Int)) = V.int 0))) H
      rw [e]
      exact q
/-! ### stripped -/
theorem sc_stripped : FnScope ["number", "base", "rest", "part"] ["number", "base"] dFstripped.scope := ⟨rfl, rfl, rfl, by decide +kernel, rfl, by decide +kernel, by decide +kernel⟩
def spStrip : Sp := fun vs H Q _ => ∃ n b : Nat, vs = [nt n, nt b] ∧ 0 < b ∧ b < 2 ^ 29 ∧ Q (nt (JM.strip n b)) H
def wStrip (n b : Nat) (H : Hp) : Nat → L2.St → Hp → Prop := fun m σ H' => σ = [some (nt n), some (nt b), some (nt m), some (nt (Nat.gcd m b))] ∧ 0 < m ∧ JM.strip m b = JM.strip n b ∧ H' = H
theorem g_stripped (z : Z K mg base) : GF P w K mg base 2 "stripped" spStrip := by
  refine gf_of z.c z.x z.g (c_glo_stripped z.c) (f_Fstripped z.c) (fn_plain (f_Fstripped z.c) sc_stripped (fun vs H Q E h => ?_) (fun _ _ _ _ _ _ us hl => match us, hl with | [_, _], _ => rfl) fun cdv A outer s H vs Q E hr h => ?_)
  · obtain ⟨a, b, rfl, _⟩ := h; rfl
  · obtain ⟨n, b, rfl, hb0, hb1, q⟩ := h
    have G1 : GF P w K mg base 1 "gcd" spGcd := g_gcd z
    refine ⟨_, pss_cons (ps_if (pt_cmpR op_eq (pv 0) pe_int (nomark _)) (pss_one (ps_ret pe_int)) pss_nil)
      (pss_cons (ps_par (i := 2) (j := 3) rfl sc_stripped.nd rfl rfl (by decide) rfl rfl (pa_cons (pv 0) (pa_cons (pe_cf G1 hr (by rfl) pass0 (pa_cons (pv 0) (pa_cons (pv 1) pa_nil))) pa_nil)) (by rfl))
      (pss_cons (ps_while PassesOwn.never (pt_cmpR op_gt (pv 3) pe_int (nomark _))
        (pss_cons (ps_set (i := 2) sc_stripped.nd rfl (.inl rfl) (pe_op op_fdivN (pv 2) (pv 3))) (pss_one (ps_set (i := 3) sc_stripped.nd rfl (.inl rfl) (pe_cf G1 hr (by rfl) pass0 (pa_cons (pv 2) (pa_cons (pv 1) pa_nil)))))))
      (pss_one (ps_ret (pv 2))))), ?_⟩
    refine ⟨_, rfl, rfl, _, rfl, ite2 (fun h => ?_) (fun h => ?_)⟩
    · have h1 : (n : Int) = 0 := V.int.inj (of_decide_eq_true h)
      have h2 : n = 0 := by omega
      subst h2
      exact q
    · have hn : 0 < n := by
        rcases Nat.eq_zero_or_pos n with e | e
        · exact absurd (by rw [e] <;> rfl) h
        · exact e
      refine ⟨_, rfl, _, rfl, _, rfl, _, _, rfl, _, _, rfl, ?_⟩
      refine ⟨wStrip n b H, ⟨n, rfl, hn, rfl, rfl⟩, ?_⟩
      rintro m σ H' ⟨rfl, hm, he, rfl⟩
      refine ⟨_, rfl, _, _, rfl, rfl, _, rfl, ite2 (fun h => ?_) (fun h => ?_)⟩
      · have hg : 1 < Nat.gcd m b := by have := of_decide_eq_true h; omega
        have hgl : Nat.gcd m b ≤ b := Nat.gcd_le_right m hb0
        obtain ⟨s1, s2, s3⟩ := JM.strip_step hm hg
        refine ⟨fun σ' H'' => ∃ m', m' < m ∧ wStrip n b H' m' σ' H'', fun _ _ h => h, ?_⟩
        refine ⟨_, rfl, _, rfl, _, _, rfl, rfl, ⟨by omega, by omega⟩, _, rfl, _, rfl, _, _, rfl, m / Nat.gcd m b, s3, ?_, s2, s1.symm.trans he, rfl⟩
        show [some (nt n), some (nt b), some (V.int ((m : Int).fdiv ((Nat.gcd m b : Nat) : Int))), some (nt (Int.gcd ((m : Int).fdiv ((Nat.gcd m b : Nat) : Int)) (b : Int)))] = _
        rw [fdiv_nat] <;> rfl
      · have hg : ¬ 1 < Nat.gcd m b := fun z => h (decide_eq_true (by omega))
        have e := JM.strip_stop hm hg
        refine ⟨_, rfl, ?_⟩
        rw [← he, e] at q
        exact q
end
end J

namespace J
open PySem PySem.Spec PyProof.Rows L2
section
variable {P : Program} {w : World} {K : PySem.W.Frag} {mg : Str → Option Value} {base : Heap}
theorem Z.most (z : Z K mg base) : ∃ t, mg ("MOST" : Str) = some (.int 1000000 t) := He.int_ok z.x z.g (c_MOST z.c)
/-! ### radical -/
theorem sc_radical : FnScope ["number", "found", "rest", "prime"] ["number"] dFradical.scope := ⟨rfl, rfl, rfl, by decide +kernel, rfl, by decide +kernel, by decide +kernel⟩
def spRad : Sp := fun vs H Q _ => ∃ d n r : Nat, vs = [nt d] ∧ 1 ≤ d ∧ d ≤ 1000000 ∧ n ≤ 900 ∧ JM.radO n 1 d 2 = some r ∧ Q (nt r) H
def wRadO (d res : Nat) (H : Hp) : Nat → L2.St → Hp → Prop := fun m σ H' => ∃ f r p : Nat, σ = [some (nt d), some (nt f), some (nt r), some (nt p)] ∧ JM.radO m f r p = some res ∧ 2 ≤ p ∧ p + m ≤ 1000 ∧ r ≤ 1000000 ∧ H' = H
def wRadI (d f p res : Nat) (H : Hp) : Nat → L2.St → Hp → Prop := fun m σ H' => ∃ r : Nat, σ = [some (nt d), some (nt f), some (nt r), some (nt p)] ∧ JM.radI m r p = some res ∧ r ≤ 1000000 ∧ H' = H
theorem radI_le : ∀ {m r p res : Nat}, JM.radI m r p = some res → res ≤ r
  | 0, r, p, res, h => by cases h
  | m + 1, r, p, res, h => by
    unfold JM.radI at h
    split at h
    · exact Nat.le_trans (radI_le h) (Nat.div_le_self r p)
    · cases h; exact Nat.le_refl _
theorem g_radical (z : Z K mg base) : GF P w K mg base 3 "radical" spRad := by
  refine gf_of z.c z.x z.g (c_glo_radical z.c) (f_Fradical z.c) (fn_plain (f_Fradical z.c) sc_radical (fun vs H Q E h => ?_) (fun _ _ _ _ _ _ us hl => match us, hl with | [_], _ => rfl) fun cdv A outer s H vs Q E hr h => ?_)
  · obtain ⟨d, n, r, rfl, _⟩ := h; rfl
  · obtain ⟨d, n, res, rfl, hd1, hd2, hn, hres, q⟩ := h
    have G1 : GF P w K mg base 2 "in_bounds" spInB := g_in_bounds z
    obtain ⟨tM, hM⟩ := z.most
    have ti : PySem.bootBuiltins "int" = some (.type "int") := by decide +kernel
    refine ⟨_, pss_cons (ps_if (pt_not (pt_val (pe_cf G1 hr (by rfl) pass0 (pa_cons (pv 0) (pa_cons pe_int (pa_cons (pe_glob (v := .int 1000000) (by rfl) hM ⟨_, rfl⟩) pa_nil)))))) (pss_one ps_never) pss_nil)
      (pss_cons (ps_par3 (i := 1) (j := 2) (l := 3) rfl sc_radical.nd rfl rfl rfl (by decide) (by decide) (by decide) rfl rfl rfl (pa_cons pe_int (pa_cons (pv 0) (pa_cons pe_int pa_nil))) (by rfl))
      (pss_cons (ps_while PassesOwn.never (pt_cmpR op_le (pe_op op_mul (pv 3) (pv 3)) (pv 2) (nomark _))
        (pss_cons (ps_if (pt_cmpR op_eq (pe_op op_mod (pe_callTy call_int1 (by rfl) (z.free (c_free_int z.c)) (by decide +kernel) (pa_cons (pv 2) pa_nil)) (pv 3)) pe_int (nomark _))
          (pss_cons (ps_set (i := 1) sc_radical.nd rfl (.inl rfl) (pe_op op_mul (pv 1) (pv 3)))
            (pss_one (ps_while PassesOwn.never (pt_cmpR op_eq (pe_op op_mod (pe_callTy call_int1 (by rfl) (z.free (c_free_int z.c)) (by decide +kernel) (pa_cons (pv 2) pa_nil)) (pv 3)) pe_int (nomark _))
              (pss_one (ps_set (i := 2) sc_radical.nd rfl (.inl rfl) (pe_op op_fdivN (pv 2) (pv 3))))))) pss_nil)
          (pss_one (ps_set (i := 3) sc_radical.nd rfl (.inl rfl) (pe_op op_add (pv 3) pe_int)))))
      (pss_one (ps_ret (pe_op op_mul (pv 1) (pv 2)))))), ?_⟩
    refine ⟨_, rfl, _, _, _, rfl, _, rfl, iteNS ⟨by omega, by omega⟩ ?_⟩
    refine ⟨_, rfl, _, _, _, rfl, ?_⟩
    refine ⟨wRadO d res H, ⟨n, 1, d, 2, rfl, hres, by omega, by omega, hd2, rfl⟩, ?_⟩
    rintro m σ H' ⟨f, r, p, rfl, hro, hp2, hpm, hr6, rfl⟩
    refine ⟨_, rfl, _, rfl, _, _, rfl, rfl, .inl ⟨by omega, by omega⟩, _, rfl, _, _, rfl, rfl, _, rfl, ite2 (fun h => ?_) (fun h => ?_)⟩
    · have hle : p * p ≤ r := by
        have := of_decide_eq_true h
        omega
      match m, hro, hpm with
      | 0, hro, hpm => cases hro
      | m + 1, hro, hpm =>
        unfold JM.radO at hro
        rw [if_pos hle] at hro
        refine ⟨fun σ' H'' => ∃ m', m' < m + 1 ∧ wRadO d res H' m' σ' H'', fun _ _ h => h, ?_⟩
        refine ⟨_, rfl, .inl ⟨_, rfl, _, rfl, _, _, rfl, rfl, by omega, rfl, _, rfl, ite2 (fun h2 => ?_) (fun h2 => ?_)⟩⟩
        · have h3 : r % p = 0 := by
            have h4 := V.int.inj (of_decide_eq_true h2)
            rw [emod_nat] at h4
            omega
          rw [if_pos h3] at hro
          cases hri : JM.radI (m + 1) r p with
          | none => rw [hri] at hro; cases hro
          | some r' =>
            rw [hri] at hro
            have hro : JM.radO m (f * p) r' (p + 1) = some res := hro
            refine ⟨_, rfl, _, rfl, _, _, rfl, rfl, .inr ⟨by omega, by omega⟩, ?_⟩
            refine ⟨wRadI d (f * p) p r' H', ⟨m + 1, r, ?_, hri, hr6, rfl⟩, ?_⟩
            · show [some (nt d), some (V.int ((f : Int) * (p : Int))), some (nt r), some (nt p)] = _
              have e : (f : Int) * (p : Int) = ((f * p : Nat) : Int) := by simp
              rw [e]
            · rintro k σ H'' ⟨r2, rfl, hri2, hr26, rfl⟩
              refine ⟨_, rfl, .inl ⟨_, rfl, _, rfl, _, _, rfl, rfl, by omega, rfl, _, rfl, ite2 (fun h5 => ?_) (fun h5 => ?_)⟩⟩
              · have h6 : r2 % p = 0 := by
                  have h4 := V.int.inj (of_decide_eq_true h5)
                  rw [emod_nat] at h4
                  omega
                match k, hri2 with
                | 0, hri2 => cases hri2
                | k + 1, hri2 =>
                  unfold JM.radI at hri2
                  rw [if_pos h6] at hri2
                  refine ⟨fun σ' H2 => ∃ m', m' < k + 1 ∧ wRadI d (f * p) p r' H'' m' σ' H2, fun _ _ h => h, ?_⟩
                  refine ⟨_, rfl, _, rfl, _, _, rfl, rfl, ⟨by omega, by omega⟩, k, Nat.lt_succ_self k, r2 / p, ?_, hri2, Nat.le_trans (Nat.div_le_self _ _) hr26, rfl⟩
                  show [some (nt d), some (nt (f * p)), some (V.int ((r2 : Int).fdiv (p : Int))), some (nt p)] = _
                  rw [fdiv_nat]
              · have h6 : ¬ r2 % p = 0 := fun e => h5 (by
                  refine decide_eq_true ?_
                  show V.int ((r2 : Int) % (p : Int)) = V.int 0
                  rw [emod_nat, e] <;> rfl)
                have e : r2 = r' := by
                  match k, hri2 with
                  | 0, hri2 => cases hri2
                  | k + 1, hri2 =>
                    unfold JM.radI at hri2
                    rw [if_neg h6] at hri2
                    exact Option.some.inj hri2
                subst e
                exact ⟨_, rfl, _, _, rfl, rfl, m, Nat.lt_succ_self m, f * p, r2, p + 1, rfl, hro, by omega, by omega, hr26, rfl⟩
        · have h3 : ¬ r % p = 0 := fun e => h2 (by
            refine decide_eq_true ?_
            show V.int ((r : Int) % (p : Int)) = V.int 0
            rw [emod_nat, e] <;> rfl)
          rw [if_neg h3] at hro
          exact ⟨_, rfl, _, _, rfl, rfl, m, Nat.lt_succ_self m, f, r, p + 1, rfl, hro, by omega, by omega, hr6, rfl⟩
    · have hgt : ¬ p * p ≤ r := fun e => h (decide_eq_true (by
        show (p : Int) * (p : Int) ≤ (r : Int)
        have e2 : (p : Int) * (p : Int) = ((p * p : Nat) : Int) := by simp
        rw [e2]
        omega))
      match m, hro with
      | 0, hro => cases hro
      | m + 1, hro =>
        unfold JM.radO at hro
        rw [if_neg hgt] at hro
        have e := Option.some.inj hro
        refine ⟨_, rfl, _, rfl, _, _, rfl, rfl, .inr ⟨by omega, by omega⟩, ?_⟩
        show Q (.int ((f : Int) * (r : Int))) H'
        have e2 : (f : Int) * (r : Int) = ((f * r : Nat) : Int) := by simp
        rw [e2, e]
        exact q
/-- of the numbers that the law draws -/
theorem spRad_of {d : Nat} (h : d ∈ JM.dL) {H : Hp} {Q : VK} {E : XK} (q : Q (nt (JM.radV d)) H) : spRad [nt d] H Q E := by
  obtain ⟨h1, h2, h3, h4, h5⟩ := JM.rad_ok d h
  have hle : ∀ d ∈ JM.dL, d ≤ 1000000 := by decide
  exact ⟨d, 20, _, rfl, h5, hle d h, by decide, h1, q⟩
end
end J

/-! rings: the objects, getters, Ring.__init__ -/
namespace J
open PySem PySem.Spec PyProof.Rows L2
open JM (RN RS num dep)
/-- o.f = .. as a target -/
def gFld (K : PySem.W.Frag) (to : TE) (f : Str) : TG := fun v σ H Q => to σ H fun x H1 => ∃ a C dx fs, x = .ref a ∧ H1 a = some (.ins C dx fs) ∧ Cls K C ∧ NoAttr K C f ∧ fs.length < 1000 ∧ Q σ (upd H1 a (.ins C dx (putF f v fs)))
theorem pg_fld {X : Cx} {o : Expr} {to : TE} {f : Str} {pos : Pos} (ho : PE X o to)
    (ha : ∀ v, assign (.Attribute o f pos) X.env v = (do
      let ov ← holding [v] (eval o X.env)
      standAt pos.atName
      holding [v, ov] (setAttr ov f v)
      release [v, ov] []) := by intro _; rfl) : PG X (.Attribute o f pos) (gFld X.K to f) := by
  refine ⟨fun pins s σ H v u Q I r h => ?_⟩
  rw [ha]
  refine wpAny_bind (wpAny_holding (thn (ho.run pins s σ H _ I h) fun ov s1 ⟨x, H1, I1, r1, a, C, dx, fs, ex, ea, c, n, l, q1⟩ => ?_))
  subst ex
  obtain rfl : ov = Value.ref a := r1
  refine wpAny_bind (wpAny_standAt (wpAny_bind (wpAny_holding ?_)))
  exact setattr_ok I1 ea c n l r fun s3 I3 => wpAny_release ⟨σ, _, I3, q1⟩
/-! ### the objects -/
def txB (d : Nat) : Nat := 64 * 4 ^ d
def leaf (K : PySem.W.Frag) (C : Addr) (fs : List (Str × V)) : RS → Prop
  | .whole d => C = He.ga K "Whole" ∧ fs.lookup ("base" : Str) = some (nt (JM.radV d))
  | .rests _ => C = He.ga K "Rests"
  | _ => True
def butV (b : Bool) : V := V.str (if b = true then ("but" : Str) else ("only" : Str))
structure RO (K : PySem.W.Frag) (H : Hp) (a C dx : Addr) (fs : List (Str × V)) (p q : Addr) (key : V) (txt : Str) (r : RS) : Prop where
  at_ : H a = some (.ins C dx fs)
  cl : RCls K C
  n : fs.lookup ("_numbers" : Str) = some (.ref p)
  np : H p = some (.tup [nt (num r).o, nt (num r).s, nt (num r).t])
  i : fs.lookup ("_inverses" : Str) = some (.ref q)
  ip : H q = some (.tup [butV (num r).but, nt (num r).m])
  d : fs.lookup ("_depth" : Str) = some (nt (dep r))
  t : fs.lookup ("_text" : Str) = some (V.str txt)
  tl : txt.length ≤ txB (dep r)
  k : fs.lookup ("_key" : Str) = some key
  nt_ : fs.lookup ("text" : Str) = none
  lf : leaf K C fs r
  wf : JM.wf r
def ROb (K : PySem.W.Frag) (H : Hp) (a : Addr) (r : RS) : Prop := ∃ C dx fs p q key txt, RO K H a C dx fs p q key txt r
/-- all that is no list stands -/
def KeepT (H H' : Hp) : Prop := ∀ a o, (∀ xs, o ≠ HO.lst xs) → H a = some o → H' a = some o
theorem Same.keepT {H H' : Hp} (h : Same H H') : KeepT H H' := fun a o _ e => h a o e
theorem SameB.keepT {b : Addr} {xs : List V} {H H' : Hp} (hb : H b = some (.lst xs)) (h : SameB b H H') : KeepT H H' := fun a o n e => h a o (fun z => by
  subst z
  rw [hb] at e
  exact n xs (Option.some.inj e).symm) e
theorem KeepT.trans {H H1 H2 : Hp} (h : KeepT H H1) (h' : KeepT H1 H2) : KeepT H H2 := fun a o n e => h' a o n (h a o n e)
theorem ROb.keepT {K : PySem.W.Frag} {H H' : Hp} {a : Addr} {r : RS} (h : ROb K H a r) (k : KeepT H H') : ROb K H' a r := by
  obtain ⟨C, dx, fs, p, q, key, txt, o⟩ := h
  exact ⟨C, dx, fs, p, q, key, txt, k _ _ (fun _ z => by cases z) o.at_, o.cl, o.n, k _ _ (fun _ z => by cases z) o.np, o.i, k _ _ (fun _ z => by cases z) o.ip, o.d, o.t, o.tl, o.k, o.nt_, o.lf, o.wf⟩
theorem ROb.same {K : PySem.W.Frag} {H H' : Hp} {a : Addr} {r : RS} (h : ROb K H a r) (k : Same H H') : ROb K H' a r := h.keepT (Same.keepT k)
section
variable {P : Program} {w : World} {K : PySem.W.Frag} {mg : Str → Option Value} {base : Heap}
/-! ### getters -/
def spNum (K : PySem.W.Frag) (f : RN → Nat) : Sp := fun vs H Q _ => ∃ a r, vs = [.ref a] ∧ ROb K H a r ∧ Q (nt (f (num r))) H
theorem sc_ones : FnScope ["self"] ["self"] dMRing_ones.scope := ⟨rfl, rfl, rfl, by decide +kernel, rfl, by decide +kernel, by decide +kernel⟩
theorem sc_swaps : FnScope ["self"] ["self"] dMRing_swaps.scope := ⟨rfl, rfl, rfl, by decide +kernel, rfl, by decide +kernel, by decide +kernel⟩
theorem sc_squares : FnScope ["self"] ["self"] dMRing_squares.scope := ⟨rfl, rfl, rfl, by decide +kernel, rfl, by decide +kernel, by decide +kernel⟩
theorem sc_depth : FnScope ["self"] ["self"] dMRing_depth.scope := ⟨rfl, rfl, rfl, by decide +kernel, rfl, by decide +kernel, by decide +kernel⟩
theorem sc_text : FnScope ["self"] ["self"] dMRing_text.scope := ⟨rfl, rfl, rfl, by decide +kernel, rfl, by decide +kernel, by decide +kernel⟩
theorem m_ones (z : Z K mg base) : FnR P w K mg base CX0 1 (recAt K (He.ma K (He.ga K "Ring") "ones") "property") (spNum K RN.o) := by
  refine fn_plain (f_MRing_ones z.c) sc_ones (fun vs H Q E h => ?_) (fun _ _ _ _ _ _ us hl => match us, hl with | [_], _ => rfl) fun cdv A outer s H vs Q E hr h => ?_
  · obtain ⟨a, r, rfl, _⟩ := h; rfl
  · obtain ⟨a, r, rfl, ⟨C, dx, fs, p, q, key, txt, o⟩, h⟩ := h
    refine ⟨_, pss_one (ps_ret (pe_ix ix_tup (pe_fld (pv 0) rfl) pe_int (fun _ _ => rfl))), ?_⟩
    exact ⟨_, rfl, a, C, dx, fs, _, rfl, o.at_, o.cl.cls, o.cl.na "_numbers" (by decide), o.n, p, _, _, _, rfl, rfl, SqT.of o.np, atI_nat (j := 0) rfl, h⟩
theorem m_swaps (z : Z K mg base) : FnR P w K mg base CX0 1 (recAt K (He.ma K (He.ga K "Ring") "swaps") "property") (spNum K RN.s) := by
  refine fn_plain (f_MRing_swaps z.c) sc_swaps (fun vs H Q E h => ?_) (fun _ _ _ _ _ _ us hl => match us, hl with | [_], _ => rfl) fun cdv A outer s H vs Q E hr h => ?_
  · obtain ⟨a, r, rfl, _⟩ := h; rfl
  · obtain ⟨a, r, rfl, ⟨C, dx, fs, p, q, key, txt, o⟩, h⟩ := h
    refine ⟨_, pss_one (ps_ret (pe_ix ix_tup (pe_fld (pv 0) rfl) pe_int (fun _ _ => rfl))), ?_⟩
    exact ⟨_, rfl, a, C, dx, fs, _, rfl, o.at_, o.cl.cls, o.cl.na "_numbers" (by decide), o.n, p, _, _, _, rfl, rfl, SqT.of o.np, atI_nat (j := 1) rfl, h⟩
theorem m_squares (z : Z K mg base) : FnR P w K mg base CX0 1 (recAt K (He.ma K (He.ga K "Ring") "squares") "property") (spNum K RN.t) := by
  refine fn_plain (f_MRing_squares z.c) sc_squares (fun vs H Q E h => ?_) (fun _ _ _ _ _ _ us hl => match us, hl with | [_], _ => rfl) fun cdv A outer s H vs Q E hr h => ?_
  · obtain ⟨a, r, rfl, _⟩ := h; rfl
  · obtain ⟨a, r, rfl, ⟨C, dx, fs, p, q, key, txt, o⟩, h⟩ := h
    refine ⟨_, pss_one (ps_ret (pe_ix ix_tup (pe_fld (pv 0) rfl) pe_int (fun _ _ => rfl))), ?_⟩
    exact ⟨_, rfl, a, C, dx, fs, _, rfl, o.at_, o.cl.cls, o.cl.na "_numbers" (by decide), o.n, p, _, _, _, rfl, rfl, SqT.of o.np, atI_nat (j := 2) rfl, h⟩
def spDepth (K : PySem.W.Frag) : Sp := fun vs H Q _ => ∃ a r, vs = [.ref a] ∧ ROb K H a r ∧ Q (nt (dep r)) H
theorem m_depth (z : Z K mg base) : FnR P w K mg base CX0 1 (recAt K (He.ma K (He.ga K "Ring") "depth") "property") (spDepth K) := by
  refine fn_plain (f_MRing_depth z.c) sc_depth (fun vs H Q E h => ?_) (fun _ _ _ _ _ _ us hl => match us, hl with | [_], _ => rfl) fun cdv A outer s H vs Q E hr h => ?_
  · obtain ⟨a, r, rfl, _⟩ := h; rfl
  · obtain ⟨a, r, rfl, ⟨C, dx, fs, p, q, key, txt, o⟩, h⟩ := h
    refine ⟨_, pss_one (ps_ret (pe_fld (pv 0) rfl)), ?_⟩
    exact ⟨_, rfl, a, C, dx, fs, _, rfl, o.at_, o.cl.cls, o.cl.na "_depth" (by decide), o.d, h⟩
def spText (K : PySem.W.Frag) : Sp := fun vs H Q _ => ∃ a r, vs = [.ref a] ∧ ROb K H a r ∧ ∀ t : Str, t.length ≤ txB (dep r) → Q (.str t) H
theorem m_text (z : Z K mg base) : FnR P w K mg base CX0 1 (He.ma K (He.ga K "Ring") "text") (spText K) := by
  refine fn_plain (f_MRing_text z.c) sc_text (fun vs H Q E h => ?_) (fun _ _ _ _ _ _ us hl => match us, hl with | [_], _ => rfl) fun cdv A outer s H vs Q E hr h => ?_
  · obtain ⟨a, r, rfl, _⟩ := h; rfl
  · obtain ⟨a, r, rfl, ⟨C, dx, fs, p, q, key, txt, o⟩, h⟩ := h
    refine ⟨_, pss_one (ps_ret (pe_fld (pv 0) rfl)), ?_⟩
    exact ⟨_, rfl, a, C, dx, fs, _, rfl, o.at_, o.cl.cls, o.cl.na "_text" (by decide), o.t, h txt o.tl⟩
/-! ### Ring.__init__ -/
def initF (k t n i d : V) (fs : List (Str × V)) : List (Str × V) := putF "_depth" d (putF "_inverses" i (putF "_numbers" n (putF "_text" t (putF "_key" k fs))))
def spRInit (K : PySem.W.Frag) : Sp := fun vs H Q _ => ∃ (a C dx : Addr) (fs : List (Str × V)) (kp : Addr) (n i : V) (txt : Str) (rest : List V) (d : V), vs = [.ref a, .ref kp, n, i, d] ∧ H a = some (.ins C dx fs) ∧ RCls K C ∧ fs.length < 900 ∧ H kp = some (.tup (.str txt :: rest)) ∧
  ∀ H', SameB a H H' → H' a = some (.ins C dx (initF (.ref kp) (.str txt) n i d fs)) → Q .non H'
theorem sc_rinit : FnScope ["self", "key", "numbers", "inverses", "depth"] ["self", "key", "numbers", "inverses", "depth"] dMRing_init.scope := ⟨rfl, rfl, rfl, by decide +kernel, rfl, by decide +kernel, by decide +kernel⟩
theorem sameB_upd {a : Addr} {H : Hp} {o : HO} : SameB a H (upd H a o) := fun b u n e => by rw [upd_ne n]; exact e
theorem m_rinit (z : Z K mg base) : FnR P w K mg base CX0 1 (He.ma K (He.ga K "Ring") "__init__") (spRInit K) := by
  refine fn_plain (f_MRing_init z.c) sc_rinit (fun vs H Q E h => ?_) (fun _ _ _ _ _ _ us hl => match us, hl with | [_, _, _, _, _], _ => rfl) fun cdv A outer s H vs Q E hr h => ?_
  · obtain ⟨a, C, dx, fs, kp, n, i, txt, rest, d, rfl, _⟩ := h; rfl
  · obtain ⟨a, C, dx, fs, kp, n, i, txt, rest, d, rfl, ha, cl, hl, hk, q⟩ := h
    refine ⟨_, pss_cons (ps_fld (pv 0) (pv 1) rfl) (pss_cons (ps_fld (pv 0) (pe_ix ix_tup (pv 1) pe_int (fun _ _ => rfl)) rfl) (pss_cons (ps_fld (pv 0) (pv 2) rfl) (pss_cons (ps_fld (pv 0) (pv 3) rfl) (pss_one (ps_fld (pv 0) (pv 4) rfl))))), ?_⟩
    have hne : kp ≠ a := fun e => by rw [e, ha] at hk; cases hk
    have l1 := length_putF "_key" (.ref kp) fs
    have l2 := length_putF "_text" (.str txt) (putF "_key" (.ref kp) fs)
    have l3 := length_putF "_numbers" n (putF "_text" (.str txt) (putF "_key" (.ref kp) fs))
    have l4 := length_putF "_inverses" i (putF "_numbers" n (putF "_text" (.str txt) (putF "_key" (.ref kp) fs)))
    refine ⟨_, rfl, _, rfl, a, C, dx, fs, rfl, ha, cl.cls, cl.na "_key" (by decide), by omega, ?_⟩
    refine ⟨_, rfl, kp, _, _, _, rfl, rfl, SqT.of (by rw [upd_ne hne]; exact hk), atI_nat (j := 0) rfl, _, rfl, a, C, dx, _, rfl, upd_same, cl.cls, cl.na "_text" (by decide), by omega, ?_⟩
    refine ⟨_, rfl, _, rfl, a, C, dx, _, rfl, upd_same, cl.cls, cl.na "_numbers" (by decide), by omega, ?_⟩
    refine ⟨_, rfl, _, rfl, a, C, dx, _, rfl, upd_same, cl.cls, cl.na "_inverses" (by decide), by omega, ?_⟩
    refine ⟨_, rfl, _, rfl, a, C, dx, _, rfl, upd_same, cl.cls, cl.na "_depth" (by decide), by omega, ?_⟩
    refine q _ ?_ upd_same
    rw [upd_upd, upd_upd, upd_upd, upd_upd]
    exact sameB_upd
end
end J

/-! rings: based, shallow, inverses -/
namespace J
open PySem PySem.Spec PyProof.Rows L2
open JM (RN RS num dep)
section
variable {P : Program} {w : World} {K : PySem.W.Frag} {mg : Str → Option Value} {base : Heap}
theorem Z.cls (z : Z K mg base) {x : Str} (h : (He.Fa.glo x).ok K = true) : mg x = some (.ref (He.ga K x)) := He.glo_ok z.x z.g h
theorem ty_ins {H : Hp} {a C dx : Addr} {fs : List (Str × V)} (e : H a = some (.ins C dx fs)) (cl : Cls K C) (t : TyC K C) : TyX K H (.ref a) (.ref C) := .base (.ins e cl t.ha t.hn t.htk t.hm)
theorem iteDF {c A B : Prop} [Decidable c] (hc : ¬ c) (h : B) : if decide c = true then A else B := by
  rw [decide_eq_false hc]
  exact iteF h
theorem iteDT {c A B : Prop} [Decidable c] (hc : c) (h : A) : if decide c = true then A else B := by
  rw [decide_eq_true hc]
  exact iteT h
/-- a getter's descriptor -/
abbrev pG (K : PySem.W.Frag) (x : Str) : Addr := He.ma K (He.ga K "Ring") x
theorem iteNS0 {a b : Prop} (h : b) : if (!true) = true then a else b := h
/-! ### based -/
theorem sc_based : FnScope ["base"] ["base"] dFbased.scope := ⟨rfl, rfl, rfl, by decide +kernel, rfl, by decide +kernel, by decide +kernel⟩
def spBased (K : PySem.W.Frag) : Sp := fun vs H Q _ => ∃ a r, vs = [.ref a] ∧ ROb K H a r ∧ Q .non H
theorem g_based (z : Z K mg base) : GF P w K mg base 1 "based" (spBased K) := by
  refine gf_of z.c z.x z.g (c_glo_based z.c) (f_Fbased z.c) (fn_plain (f_Fbased z.c) sc_based (fun vs H Q E h => ?_) (fun _ _ _ _ _ _ us hl => match us, hl with | [_], _ => rfl) fun cdv A outer s H vs Q E hr h => ?_)
  · obtain ⟨a, r, rfl, _⟩ := h; rfl
  · obtain ⟨a, r, rfl, ⟨C, dx, fs, p, q, key, txt, o⟩, h⟩ := h
    refine ⟨_, pss_one (ps_if (pt_not (pt_val (pe_callB call_isi (by rfl) (z.free (c_free_isinstance z.c)) (by decide +kernel) (pa_cons (pv 0) (pa_cons (pe_glob (v := .ref (He.ga K "Ring")) (by rfl) (z.cls (c_glo_Ring z.c)) rfl) pa_nil))))) (pss_one ps_never) pss_nil), ?_⟩
    exact ⟨_, rfl, _, _, _, _, true, rfl, .own _, ty_ins o.at_ o.cl.cls o.cl.ty, o.cl.isr, _, rfl, iteNS0 h⟩
/-! ### shallow -/
theorem sc_shallow : FnScope ["bases", "depth", "base"] ["bases"] dFshallow.scope := ⟨rfl, rfl, rfl, by decide +kernel, rfl, by decide +kernel, by decide +kernel⟩
def deps (rs : List RS) : List Int := rs.map fun r => (dep r : Int)
def mxD : List RS → Nat
  | [] => 0
  | r :: rs => max (dep r) (mxD rs)
theorem mxD_ge {r : RS} : ∀ {rs : List RS}, r ∈ rs → dep r ≤ mxD rs
  | x :: xs, h => by
    rcases List.mem_cons.mp h with e | e
    · rw [e]; exact Nat.le_max_left _ _
    · exact Nat.le_trans (mxD_ge e) (Nat.le_max_right _ _)
theorem mxD_mem : ∀ {rs : List RS}, rs ≠ [] → ∃ r ∈ rs, dep r = mxD rs
  | [x], _ => ⟨x, .head _, by show dep x = max (dep x) 0; omega⟩
  | x :: y :: xs, _ => by
    obtain ⟨r, hr, e⟩ := mxD_mem (rs := y :: xs) (by simp)
    by_cases h : dep x ≤ mxD (y :: xs)
    · exact ⟨r, .tail _ hr, by show _ = max (dep x) (mxD (y :: xs)); omega⟩
    · exact ⟨x, .head _, by show _ = max (dep x) (mxD (y :: xs)); omega⟩
def RObs (K : PySem.W.Frag) (H : Hp) : List V → List RS → Prop
  | [], [] => True
  | .ref a :: vs, r :: rs => ROb K H a r ∧ RObs K H vs rs
  | _, _ => False
theorem RObs.same {H H' : Hp} (k : Same H H') : ∀ {vs : List V} {rs : List RS}, RObs K H vs rs → RObs K H' vs rs
  | [], [], _ => trivial
  | .ref a :: vs, r :: rs, h => ⟨h.1.same k, RObs.same k h.2⟩
theorem RObs.length {H : Hp} : ∀ {vs : List V} {rs : List RS}, RObs K H vs rs → vs.length = rs.length
  | [], [], _ => rfl
  | .ref a :: vs, r :: rs, h => by rw [List.length_cons, List.length_cons, RObs.length h.2]
theorem RObs.get {H : Hp} : ∀ {vs : List V} {rs : List RS} {i : Nat} {x : V}, RObs K H vs rs → vs[i]? = some x → ∃ a r, x = .ref a ∧ rs[i]? = some r ∧ ROb K H a r
  | .ref a :: vs, r :: rs, 0, x, h, e => ⟨a, r, (Option.some.inj e).symm, rfl, h.1⟩
  | .ref a :: vs, r :: rs, i + 1, x, h, e => RObs.get (i := i) h.2 e
theorem take_snoc {α : Type} {xs : List α} {i : Nat} {x : α} (h : xs[i]? = some x) : xs.take (i + 1) = xs.take i ++ [x] := by
  rw [List.take_add_one, h]
  rfl
def spShal0 (K : PySem.W.Frag) : Sp := fun vs H Q _ => ∃ p xs rs, vs = [.ref p] ∧ H p = some (.tup xs) ∧ RObs K H xs rs ∧ rs ≠ [] ∧ rs.length ≤ 10 ∧ mxD rs ≤ 3 ∧ ∀ H', Same H H' → Q (nt (1 + mxD rs)) H'
def spShal (K : PySem.W.Frag) : Sp := fun vs H Q _ => ∃ rs, RObs K H vs rs ∧ rs ≠ [] ∧ rs.length ≤ 10 ∧ mxD rs ≤ 3 ∧ ∀ H', Same H H' → Q (nt (1 + mxD rs)) H'
theorem g_shallow (z : Z K mg base) : GF P w K mg base 3 "shallow" (spShal K) := by
  refine gf_of z.c z.x z.g (c_glo_shallow z.c) (f_Fshallow z.c) (FnR.imp (fn_starred (sp := spShal0 K) (f_Fshallow z.c) sc_shallow (fun _ _ _ _ _ _ us rest hl => match us, rest, hl with | [], [], _ => rfl | [], _ :: _, _ => rfl) fun cdv A outer s H vs Q E hr h => ?_) ?_)
  · obtain ⟨p, xs, rs, rfl, hp, hb, hne, hl10, hm, q⟩ := h
    obtain ⟨u, hcv⟩ := cval_of (c_cval_MD z.c)
    refine ⟨_, pss_cons (ps_set (i := 1) sc_shallow.nd rfl (.inl rfl) (pe_op op_add pe_int (pe_callB (cr_max rfl) (by rfl) (z.free (c_free_max z.c)) (by decide +kernel)
        (pa_cons (pe_lc (own := [("base", 2)]) (g := gName 2) (tt := tYes) (te := tPr K "depth" (pG K "depth") _ _ _) rfl sc_shallow.nd (pi_tup (pv 0)) (blkOk_by (by kernel_rfl)) (fun _ _ _ _ _ => pg_name sc_shallow.nd rfl (.inl rfl)) (fun _ _ _ _ _ => pts_nil) (fun _ _ _ _ _ => pe_pr (pv 2) (m_depth z) hr pass0)) pa_nil))))
      (pss_cons (ps_if (pt_cmpR op_gt (pv 1) (ClX.pe_cval (pe_glob (v := .ref (He.ga K "Ring")) (by rfl) (z.cls (c_glo_Ring z.c)) rfl)) (nomark _)) (pss_one ps_never) pss_nil)
      (pss_one (ps_ret (pv 1)))), ?_⟩
    refine ⟨_, rfl, p, rfl, ⟨_, SqT.of hp⟩, fun D hD => ?_⟩
    have hlen := hb.length
    refine lc_tup (xs := xs) (fun i H' => Same H H' ∧ H' D = some (.lst ((deps (rs.take i)).map V.int))) ⟨same_new hD, upd_same⟩ (fun i H' _ h => SqT.of (h.1 _ _ hp)) ?_ ?_
    · rintro i x H' hx ⟨k, hd⟩
      obtain ⟨a, r, rfl, hr, ho⟩ := (hb.same k).get hx
      have hi : i < rs.length := by
        rcases Nat.lt_or_ge i rs.length with h | h
        · exact h
        · rw [List.getElem?_eq_none h] at hr; cases hr
      obtain ⟨C, dx, fs, p2, q2, key, txt, o⟩ := id ho
      refine ⟨rfl, .ref a, rfl, a, C, dx, fs, rfl, o.at_, o.cl.cls, o.cl.p4, a, r, rfl, ho, _, hd, ?_, ?_, ?_⟩
      · have := le_line (n := rs.length + 1) (by omega)
        simp only [deps, List.length_map, List.length_take]
        omega
      · intro b v e
        have : b ≠ D := fun z => by rw [z, hD] at e; cases e
        rw [upd_ne this]
        exact k _ _ e
      · rw [upd_same, take_snoc hr]
        simp [deps]
    · rintro H' ⟨k, hd⟩
      rw [hlen, List.take_length] at hd
      refine ⟨D, deps rs, rfl, SqL.of hd, ?_, fun m hmem hmax => ?_⟩
      · simp only [deps, List.length_map]
        rcases rs with _ | ⟨r, rs⟩
        · exact absurd rfl hne
        · simp
      · have hmx : m = (mxD rs : Int) := by
          obtain ⟨r, hr, e⟩ := mxD_mem hne
          have h1 := hmax (mxD rs : Int) (List.mem_map.mpr ⟨r, hr, by rw [e]⟩)
          obtain ⟨r', hr', e'⟩ := List.mem_map.mp hmem
          have h2 := mxD_ge hr'
          omega
        subst hmx
        refine ⟨_, _, rfl, rfl, ?_⟩
        have e1 : (1 : Int) + (mxD rs : Int) = ((1 + mxD rs : Nat) : Int) := by omega
        refine ⟨_, rfl, _, .type "type", .int 4, u, rfl, cread_of (c_cread_Ring z.c), hcv, _, _, rfl, rfl, _, rfl, iteDF (by omega) ?_⟩
        refine ⟨_, rfl, ?_⟩
        show Q (.int ((1 : Int) + (mxD rs : Int))) H'
        rw [e1]
        exact q _ k
  · rintro vs H Q E ⟨rs, hb, hne, hl10, hm, q⟩
    have := hb.length
    refine ⟨le_line (by omega), fun p hp => ⟨p, vs, rs, rfl, upd_same, hb.same (same_new hp), hne, hl10, hm, fun H' k => q _ (fun a o e => k _ _ (same_new hp _ _ e))⟩⟩
end
end J

/-! rings: inverses -/
namespace J
open PySem PySem.Spec PyProof.Rows L2
open JM (RN RS num dep)
section
variable {P : Program} {w : World} {K : PySem.W.Frag} {mg : Str → Option Value} {base : Heap}
theorem but_dec {b : Bool} : decide (butV b = V.str ("but" : Str)) = b := by
  cases b with
  | true => rfl
  | false => exact decide_eq_false fun e => by injection e with e; revert e; decide
theorem only_dec {b : Bool} : decide (butV b = V.str ("only" : Str)) = !b := by
  cases b with
  | true => exact decide_eq_false fun e => by injection e with e; revert e; decide
  | false => rfl
theorem dec_one {n : Nat} : decide (nt n = V.int 1) = decide (n = 1) := decide_eq_decide.mpr ⟨fun h => by have := V.int.inj h; omega, fun h => by rw [h] <;> rfl⟩
theorem dec_zero {n : Nat} : decide (nt n = V.int 0) = decide (n = 0) := decide_eq_decide.mpr ⟨fun h => by have := V.int.inj h; omega, fun h => by rw [h] <;> rfl⟩
theorem lnb {xs : List V} (h : Nat.ble xs.length 1000 = true) : xs.length ≤ sizeLine := le_line (Nat.le_of_ble_eq_true h)
/-! ### inverse_known -/
theorem sc_iknown : FnScope ["inverses", "q"] ["inverses", "q"] dFinverse_known.scope := ⟨rfl, rfl, rfl, by decide +kernel, rfl, by decide +kernel, by decide +kernel⟩
def knownB (b : Bool) (m q : Nat) : Bool := if b = true then decide (Nat.gcd q m = 1) else decide (JM.strip q m = 1)
def spKnown : Sp := fun vs H Q _ => ∃ (p : Addr) (b : Bool) (m q : Nat), vs = [.ref p, nt q] ∧ H p = some (.tup [butV b, nt m]) ∧ 0 < q ∧ 0 < m ∧ m < 2 ^ 29 ∧ Q (.bl (knownB b m q)) H
theorem g_iknown (z : Z K mg base) : GF P w K mg base 3 "inverse_known" spKnown := by
  refine gf_of z.c z.x z.g (c_glo_inverse_known z.c) (f_Finverse_known z.c) (fn_plain (f_Finverse_known z.c) sc_iknown (fun vs H Q E h => ?_) (fun _ _ _ _ _ _ us hl => match us, hl with | [_, _], _ => rfl) fun cdv A outer s H vs Q E hr h => ?_)
  · obtain ⟨p, b, m, q, rfl, _⟩ := h; rfl
  · obtain ⟨p, b, m, q, rfl, hp, hq, hm, hm2, h⟩ := h
    have G1 : GF P w K mg base 1 "gcd" spGcd := g_gcd z
    have G2 : GF P w K mg base 2 "stripped" spStrip := g_stripped z
    have hx : ∀ {i : Expr}, True := fun {_} => trivial
    refine ⟨_, pss_cons (ps_if (pt_cmpR op_eq (pv 1) pe_int (nomark _)) (pss_one ps_never) pss_nil)
      (pss_cons (ps_if (pt_cmpR op_eq (pe_ix ix_tup (pv 0) pe_int (fun _ _ => rfl)) pe_str (nomark _)) (pss_one (ps_ret (pe_cmpR op_eq (pe_cf G1 (hr.mono (by decide)) (by rfl) pass0 (pa_cons (pv 1) (pa_cons (pe_ix ix_tup (pv 0) pe_int (fun _ _ => rfl)) pa_nil))) pe_int (nomark _)))) pss_nil)
      (pss_one (ps_ret (pe_cmpR op_eq (pe_cf G2 hr (by rfl) pass0 (pa_cons (pe_callB call_abs (by rfl) (z.free (c_free_abs z.c)) (by decide +kernel) (pa_cons (pv 1) pa_nil)) (pa_cons (pe_ix ix_tup (pv 0) pe_int (fun _ _ => rfl)) pa_nil))) pe_int (nomark _))))), ?_⟩
    refine ⟨_, rfl, rfl, _, rfl, iteDF (fun e => ?_) ?_⟩
    · have := V.int.inj e
      omega
    · refine ⟨_, rfl, p, _, _, _, rfl, rfl, SqT.of hp, atI_nat (j := 0) rfl, rfl, _, rfl, ?_⟩
      rw [but_dec]
      cases b with
      | true =>
        refine iteT ⟨_, rfl, _, rfl, p, _, _, _, rfl, rfl, SqT.of hp, atI_nat (j := 1) rfl, _, _, rfl, rfl, ?_⟩
        show Q (.bl (decide (nt (Nat.gcd q m) = V.int 1))) H
        rw [dec_one]
        exact h
      | false =>
        refine iteF ⟨_, rfl, _, rfl, _, rfl, p, _, _, _, rfl, rfl, SqT.of hp, atI_nat (j := 1) rfl, q, m, ?_, hm, hm2, rfl, ?_⟩
        · rw [abs_nat]
        · show Q (.bl (decide (nt (JM.strip q m) = V.int 1))) H
          rw [dec_one]
          exact h
/-! ### inverses_of_both -/
theorem sc_iboth : FnScope ["one", "other", "only", "but"] ["one", "other"] dFinverses_of_both.scope := ⟨rfl, rfl, rfl, by decide +kernel, rfl, by decide +kernel, by decide +kernel⟩
def pairM (b : Bool) (m : Nat) (b' : Bool) (m' : Nat) : Nat := if b = true then (if b' = true then Nat.lcm m m' else JM.strip m' m) else (if b' = true then JM.strip m m' else Nat.gcd m m')
def spBoth : Sp := fun vs H Q _ => ∃ (p p' : Addr) (b b' : Bool) (m m' : Nat), vs = [.ref p, .ref p'] ∧ H p = some (.tup [butV b, nt m]) ∧ H p' = some (.tup [butV b', nt m']) ∧ 0 < m ∧ m < 2 ^ 29 ∧ 0 < m' ∧ m' < 2 ^ 29 ∧
  ∀ u H', Same H H' → H' u = some (.tup [butV (b && b'), nt (pairM b m b' m')]) → Q (.ref u) H'
theorem g_iboth (z : Z K mg base) : GF P w K mg base 3 "inverses_of_both" spBoth := by
  refine gf_of z.c z.x z.g (c_glo_inverses_of_both z.c) (f_Finverses_of_both z.c) (fn_plain (f_Finverses_of_both z.c) sc_iboth (fun vs H Q E h => ?_) (fun _ _ _ _ _ _ us hl => match us, hl with | [_, _], _ => rfl) fun cdv A outer s H vs Q E hr h => ?_)
  · obtain ⟨p, p', b, b', m, m', rfl, _⟩ := h; rfl
  · obtain ⟨p, p', b, b', m, m', rfl, hp, hp', hm0, hm, hm0', hm', h⟩ := h
    have G1 : GF P w K mg base 2 "multiple" spMul := g_multiple z
    have G2 : GF P w K mg base 2 "common" spCom := g_common z
    have G3 : GF P w K mg base 2 "stripped" spStrip := g_stripped z
    refine ⟨_, pss_cons (ps_if ((pw_and (pt_cmpR op_eq (pe_ix ix_tup (pv 0) pe_int (fun _ _ => rfl)) pe_str (nomark _)) (pw_and1 (pt_cmpR op_eq (pe_ix ix_tup (pv 1) pe_int (fun _ _ => rfl)) pe_str (nomark _)))).pt)
        (pss_one (ps_ret (pe_tup (pa_cons pe_str (pa_cons (pe_cf G1 hr (by rfl) pass0 (pa_cons (pe_ix ix_tup (pv 0) pe_int (fun _ _ => rfl)) (pa_cons (pe_ix ix_tup (pv 1) pe_int (fun _ _ => rfl)) pa_nil))) pa_nil))))) pss_nil)
      (pss_cons (ps_if ((pw_and (pt_cmpR op_eq (pe_ix ix_tup (pv 0) pe_int (fun _ _ => rfl)) pe_str (nomark _)) (pw_and1 (pt_cmpR op_eq (pe_ix ix_tup (pv 1) pe_int (fun _ _ => rfl)) pe_str (nomark _)))).pt)
        (pss_one (ps_ret (pe_tup (pa_cons pe_str (pa_cons (pe_cf G2 hr (by rfl) pass0 (pa_cons (pe_ix ix_tup (pv 0) pe_int (fun _ _ => rfl)) (pa_cons (pe_ix ix_tup (pv 1) pe_int (fun _ _ => rfl)) pa_nil))) pa_nil))))) pss_nil)
      (pss_cons (ps_asg (pe_ifExp (pt_cmpR op_eq (pe_ix ix_tup (pv 0) pe_int (fun _ _ => rfl)) pe_str (nomark _)) (pe_tup (pa_cons (pv 0) (pa_cons (pv 1) pa_nil))) (pe_tup (pa_cons (pv 1) (pa_cons (pv 0) pa_nil))))
        (pg_tup rfl (pgs_cons (pg_name (i := 2) sc_iboth.nd rfl (.inl rfl)) (pgs_cons (pg_name (i := 3) sc_iboth.nd rfl (.inl rfl)) pgs_nil))))
      (pss_one (ps_ret (pe_tup (pa_cons pe_str (pa_cons (pe_cf G3 hr (by rfl) pass0 (pa_cons (pe_ix ix_tup (pv 2) pe_int (fun _ _ => rfl)) (pa_cons (pe_ix ix_tup (pv 3) pe_int (fun _ _ => rfl)) pa_nil))) pa_nil))))))), ?_⟩
    refine ⟨_, rfl, p, _, _, _, rfl, rfl, SqT.of hp, atI_nat (j := 0) rfl, rfl, _, rfl, ?_⟩
    rw [but_dec]
    cases b with
    | true =>
      refine iteT ⟨_, rfl, p', _, _, _, rfl, rfl, SqT.of hp', atI_nat (j := 0) rfl, rfl, _, rfl, ?_⟩
      rw [but_dec]
      cases b' with
      | true =>
        refine iteT ⟨_, rfl, p, _, _, _, rfl, rfl, SqT.of hp, atI_nat (j := 1) rfl, _, rfl, p', _, _, _, rfl, rfl, SqT.of hp', atI_nat (j := 1) rfl, m, m', rfl, hm, hm', fun H' k => ⟨lnb rfl, new_tup fun u H2 hu k2 e => ?_⟩⟩
        exact h u H2 (k.trans k2) e
      | false =>
        refine iteF ⟨_, rfl, p, _, _, _, rfl, rfl, SqT.of hp, atI_nat (j := 0) rfl, rfl, _, rfl, ?_⟩
        rw [only_dec]
        refine iteF (iteF ⟨_, rfl, p, _, _, _, rfl, rfl, SqT.of hp, atI_nat (j := 0) rfl, rfl, _, rfl, ?_⟩)
        rw [only_dec]
        refine iteF ⟨_, rfl, _, rfl, lnb rfl, fun u0 hu0 => ?_⟩
        have k0 := same_new (o := .tup [V.ref p', V.ref p]) hu0
        refine ⟨u0, _, rfl, SqT.of upd_same, rfl, _, _, rfl, _, _, rfl, rfl, _, rfl, p', _, _, _, rfl, rfl, SqT.of (k0 _ _ hp'), atI_nat (j := 1) rfl, _, rfl, p, _, _, _, rfl, rfl, SqT.of (k0 _ _ hp), atI_nat (j := 1) rfl, m', m, rfl, hm0, hm, lnb rfl, new_tup fun u H2 hu k2 e => ?_⟩
        exact h u H2 (k0.trans k2) e
    | false =>
      refine iteF (iteF ⟨_, rfl, p, _, _, _, rfl, rfl, SqT.of hp, atI_nat (j := 0) rfl, rfl, _, rfl, ?_⟩)
      rw [only_dec]
      refine iteT ⟨_, rfl, p', _, _, _, rfl, rfl, SqT.of hp', atI_nat (j := 0) rfl, rfl, _, rfl, ?_⟩
      rw [only_dec]
      cases b' with
      | false =>
        refine iteT ⟨_, rfl, p, _, _, _, rfl, rfl, SqT.of hp, atI_nat (j := 1) rfl, _, rfl, p', _, _, _, rfl, rfl, SqT.of hp', atI_nat (j := 1) rfl, m, m', rfl, fun H' k => ⟨lnb rfl, new_tup fun u H2 hu k2 e => ?_⟩⟩
        exact h u H2 (k.trans k2) e
      | true =>
        refine iteF ⟨_, rfl, p, _, _, _, rfl, rfl, SqT.of hp, atI_nat (j := 0) rfl, rfl, _, rfl, ?_⟩
        rw [only_dec]
        refine iteT ⟨_, rfl, _, rfl, lnb rfl, fun u0 hu0 => ?_⟩
        have k0 := same_new (o := .tup [V.ref p, V.ref p']) hu0
        refine ⟨u0, _, rfl, SqT.of upd_same, rfl, _, _, rfl, _, _, rfl, rfl, _, rfl, p, _, _, _, rfl, rfl, SqT.of (k0 _ _ hp), atI_nat (j := 1) rfl, _, rfl, p', _, _, _, rfl, rfl, SqT.of (k0 _ _ hp'), atI_nat (j := 1) rfl, m, m', rfl, hm0', hm', lnb rfl, new_tup fun u H2 hu k2 e => ?_⟩
        exact h u H2 (k0.trans k2) e
end
end J

/-! rings: making, what all share -/
namespace J
open PySem PySem.Spec PyProof.Rows L2
open JM (RN RS num dep)
abbrev PW : Program := PySem.Challenge.pw_numbertypes_k44_whole_joins_of_realms
theorem fn_type {K : PySem.W.Frag} {f : Addr} (h : PySem.W.isFn K (.ref f) = true) : PySem.W.typeIn K (.ref f) = some (.type "function") := by
  unfold PySem.W.isFn at h
  simpa using h
/-! ### texts -/
theorem it_len {i : Int} (h : i.natAbs < 10 ^ 10) : (Str.ofString (toString i)).length ≤ 11 := by
  rw [PySem.ofString_length]
  exact int_text_length_le10 (by decide) h
theorem it_log {i : Int} (h : i.natAbs < 10 ^ 10) : i.natAbs.log2 < 1920 := by
  by_cases e : i.natAbs = 0
  · rw [e]; decide
  · exact (Nat.log2_lt e).mpr (Nat.lt_of_lt_of_le h (Nat.le_trans (by decide : 10 ^ 10 ≤ 2 ^ 40) (Nat.pow_le_pow_right (by decide) (by decide))))
theorem jl {a b : Str} {m n : Nat} (h : a.length ≤ m) (h' : b.length ≤ n) : (a ++ b).length ≤ m + n := by
  rw [Str.length_append]; omega
theorem szl {a : Str} {m : Nat} (h : a.length ≤ m) (h' : m ≤ 1000000) : a.length ≤ sizeLine := by
  have : sizeLine = 2 ^ 24 := rfl
  omega
theorem e0l : Str.empty.length ≤ 0 := Nat.le_refl 0
section
variable {l1 l2 l3 : Str} {te te' : TE} {σ : L2.St} {H : Hp} {B : Nat} {Q : Str → Hp → Prop} {i : Int}
theorem jsA (h1 : l1.length ≤ 30) (h2 : l2.length ≤ 30) (hB : B ≤ 10000) (ht : ∀ k : VK, (∀ t : Str, t.length ≤ B → k (.str t) H) → te σ H k) (q : ∀ out : Str, out.length ≤ 60 + B → Q out H) : tJs [tC (.str l1), tFmt te, tC (.str l2)] Str.empty σ H Q := by
  have a1 := jl e0l h1
  refine ⟨l1, rfl, szl a1 (by omega), ht _ fun t htl => .inl ⟨t, rfl, szl htl (by omega), t, rfl, szl (jl a1 htl) (by omega), l2, rfl, szl (jl (jl a1 htl) h2) (by omega), q _ (Nat.le_trans (jl (jl a1 htl) h2) (by omega))⟩⟩
theorem jsC (h1 : l1.length ≤ 30) (h2 : l2.length ≤ 30) (hi : i.natAbs < 10 ^ 10) (ht : ∀ k : VK, k (.int i) H → te σ H k) (q : ∀ out : Str, out.length ≤ 71 → Q out H) : tJs [tC (.str l1), tFmt te, tC (.str l2)] Str.empty σ H Q := by
  have a1 := jl e0l h1
  refine ⟨l1, rfl, szl a1 (by omega), ht _ (.inr ⟨i, rfl, it_log hi, _, rfl, szl (jl a1 (it_len hi)) (by omega), l2, rfl, szl (jl (jl a1 (it_len hi)) h2) (by omega), q _ (Nat.le_trans (jl (jl a1 (it_len hi)) h2) (by omega))⟩)⟩
theorem jsB (h1 : l1.length ≤ 30) (h2 : l2.length ≤ 30) (h3 : l3.length ≤ 30) (hB : B ≤ 10000) (hi : i.natAbs < 10 ^ 10) (ht : ∀ k : VK, k (.int i) H → te σ H k) (ht' : ∀ k : VK, (∀ t : Str, t.length ≤ B → k (.str t) H) → te' σ H k)
    (q : ∀ out : Str, out.length ≤ 101 + B → Q out H) : tJs [tC (.str l1), tFmt te, tC (.str l2), tFmt te', tC (.str l3)] Str.empty σ H Q := by
  have a1 := jl e0l h1
  have a2 := jl a1 (it_len hi)
  have a3 := jl a2 h2
  refine ⟨l1, rfl, szl a1 (by omega), ht _ (.inr ⟨i, rfl, it_log hi, _, rfl, szl a2 (by omega), l2, rfl, szl a3 (by omega), ht' _ fun t htl => .inl ⟨t, rfl, szl htl (by omega), t, rfl, szl (jl a3 htl) (by omega), l3, rfl, szl (jl (jl a3 htl) h3) (by omega), q _ (Nat.le_trans (jl (jl a3 htl) h3) (by omega))⟩⟩)⟩
theorem jsD (h1 : l1.length ≤ 30) (h2 : l2.length ≤ 30) (h3 : l3.length ≤ 30) (hB : B ≤ 10000) (ht : ∀ k : VK, (∀ t : Str, t.length ≤ B → k (.str t) H) → te σ H k) (ht' : ∀ k : VK, (∀ t : Str, t.length ≤ B → k (.str t) H) → te' σ H k)
    (q : ∀ out : Str, out.length ≤ 90 + B + B → Q out H) : tJs [tC (.str l1), tFmt te, tC (.str l2), tFmt te', tC (.str l3)] Str.empty σ H Q := by
  have a1 := jl e0l h1
  refine ⟨l1, rfl, szl a1 (by omega), ht _ fun t htl => .inl ⟨t, rfl, szl htl (by omega), t, rfl, szl (jl a1 htl) (by omega), l2, rfl, szl (jl (jl a1 htl) h2) (by omega), ht' _ fun u hu => .inl ⟨u, rfl, szl hu (by omega), u, rfl, szl (jl (jl (jl a1 htl) h2) hu) (by omega), l3, rfl, szl (jl (jl (jl (jl a1 htl) h2) hu) h3) (by omega), q _ (Nat.le_trans (jl (jl (jl (jl a1 htl) h2) hu) h3) (by omega))⟩⟩⟩
end
theorem txB_mono {d e : Nat} (h : d ≤ e) : txB d ≤ txB e := Nat.mul_le_mul_left 64 (Nat.pow_le_pow_right (by decide) h)
theorem txB_up {n d : Nat} (h : n ≤ 190 + 2 * txB d) (hd : 1 ≤ d) : n ≤ txB (1 + d) := by
  have h1 : 256 ≤ txB d := txB_mono (d := 1) hd
  have h2 : txB (1 + d) = 4 * txB d := by
    unfold txB
    rw [Nat.pow_add]
    omega
  omega
theorem txB_3 {d : Nat} (h : d ≤ 3) : txB d ≤ 10000 := Nat.le_trans (txB_mono h) (by decide)
theorem txB_1 {n d : Nat} (h : n ≤ 200) (hd : 1 ≤ d) : n ≤ txB d := Nat.le_trans h (Nat.le_trans (by decide : 200 ≤ txB 1) (txB_mono hd))
section
variable {w : World} {K : PySem.W.Frag} {mg : Str → Option Value} {base : Heap}
/-! ### reading a base -/
section
variable {σ : L2.St} {H : Hp} {Q : VK} {j : Nat} {b C dx p q : Addr} {fs : List (Str × V)} {key : V} {txt : Str} {r : RS}
theorem RO.ob (o : RO K H b C dx fs p q key txt r) : ROb K H b r := ⟨C, dx, fs, p, q, key, txt, o⟩
theorem rd_ones (o : RO K H b C dx fs p q key txt r) (hσ : σ[j]? = some (some (.ref b))) (h : Q (nt (num r).o) H) : tPr K "ones" (pG K "ones") (recAt K (pG K "ones") "property") (spNum K RN.o) (tVar j) σ H Q :=
  ⟨_, hσ, b, C, dx, fs, rfl, o.at_, o.cl.cls, o.cl.p1, b, r, rfl, o.ob, h⟩
theorem rd_swaps (o : RO K H b C dx fs p q key txt r) (hσ : σ[j]? = some (some (.ref b))) (h : Q (nt (num r).s) H) : tPr K "swaps" (pG K "swaps") (recAt K (pG K "swaps") "property") (spNum K RN.s) (tVar j) σ H Q :=
  ⟨_, hσ, b, C, dx, fs, rfl, o.at_, o.cl.cls, o.cl.p2, b, r, rfl, o.ob, h⟩
theorem rd_squares (o : RO K H b C dx fs p q key txt r) (hσ : σ[j]? = some (some (.ref b))) (h : Q (nt (num r).t) H) : tPr K "squares" (pG K "squares") (recAt K (pG K "squares") "property") (spNum K RN.t) (tVar j) σ H Q :=
  ⟨_, hσ, b, C, dx, fs, rfl, o.at_, o.cl.cls, o.cl.p3, b, r, rfl, o.ob, h⟩
theorem rd_text (o : RO K H b C dx fs p q key txt r) (hσ : σ[j]? = some (some (.ref b))) (h : ∀ t : Str, t.length ≤ txB (dep r) → Q (.str t) H) : tMe K "text" (pG K "text") (spText K) (tVar j) tNil σ H Q :=
  ⟨_, hσ, b, C, dx, fs, rfl, o.at_, o.cl.cls, o.cl.txt, o.nt_, b, r, rfl, o.ob, h⟩
theorem rd_key (o : RO K H b C dx fs p q key txt r) (hσ : σ[j]? = some (some (.ref b))) (h : Q key H) : tFld K (tVar j) "_key" σ H Q :=
  ⟨_, hσ, b, C, dx, fs, key, rfl, o.at_, o.cl.cls, o.cl.na _ (by decide), o.k, h⟩
theorem rd_inv (o : RO K H b C dx fs p q key txt r) (hσ : σ[j]? = some (some (.ref b))) (h : Q (.ref q) H) : tFld K (tVar j) "_inverses" σ H Q :=
  ⟨_, hσ, b, C, dx, fs, _, rfl, o.at_, o.cl.cls, o.cl.na _ (by decide), o.i, h⟩
theorem RO.ne {a C' dx' : Addr} (o : RO K H b C dx fs p q key txt r) (ha : H a = some (.ins C' dx' [])) : b ≠ a ∧ p ≠ a ∧ q ≠ a := by
  refine ⟨fun e => ?_, fun e => ?_, fun e => ?_⟩
  · have h := o.at_
    rw [e, ha] at h
    cases h
    exact nomatch o.n
  · have h := o.np
    rw [e, ha] at h
    cases h
  · have h := o.ip
    rw [e, ha] at h
    cases h
theorem RO.sameB {a : Addr} {H' : Hp} (o : RO K H b C dx fs p q key txt r) (n : b ≠ a ∧ p ≠ a ∧ q ≠ a) (k : SameB a H H') : RO K H' b C dx fs p q key txt r :=
  ⟨k _ _ n.1 o.at_, o.cl, o.n, k _ _ n.2.1 o.np, o.i, k _ _ n.2.2 o.ip, o.d, o.t, o.tl, o.k, o.nt_, o.lf, o.wf⟩
end
theorem RO.same {H H' : Hp} {b C dx p q : Addr} {fs : List (Str × V)} {key : V} {txt : Str} {r : RS} (o : RO K H b C dx fs p q key txt r) (k : Same H H') : RO K H' b C dx fs p q key txt r :=
  ⟨k _ _ o.at_, o.cl, o.n, k _ _ o.np, o.i, k _ _ o.ip, o.d, o.t, o.tl, o.k, o.nt_, o.lf, o.wf⟩
/-! ### the promise of an __init__ -/
def spIni (K : PySem.W.Frag) (x : Str) (G : List V → Hp → RS → Prop) : Sp := fun vs H Q _ => ∃ a dx us r, vs = V.ref a :: us ∧ H a = some (.ins (He.ga K x) dx []) ∧ G us H r ∧ ∀ H', SameB a H H' → ROb K H' a r → Q .non H'
theorem same_mk {H1 H2 : Hp} {x dx : Addr} {o o' : HO} (hx : H1 x = none) (hd : H1 dx = none) (h : SameB x (upd (upd H1 dx o) x o') H2) : Same H1 H2 := fun b u e => by
  have e1 : b ≠ x := ne_of_none e hx
  have e2 : b ≠ dx := ne_of_none e hd
  exact h b u e1 (by rw [upd_ne e1, upd_ne e2]; exact e)
theorem ini_mk {x : Str} {G : List V → Hp → RS → Prop} {us : List V} {r : RS} {H1 : Hp} {Q : VK} (hG : ∀ H', Same H1 H' → G us H' r) (q : ∀ p H2, H1 p = none → Same H1 H2 → ROb K H2 p r → Q (.ref p) H2) :
    ∀ y dx, H1 y = none → H1 dx = none → dx ≠ y → spIni K x G (V.ref y :: us) (upd (upd H1 dx (.own y)) y (.ins (He.ga K x) dx [])) (fun v H2 => v = .non ∧ Q (.ref y) H2) E0 := fun y dx hy hd hne =>
  ⟨y, dx, us, r, rfl, upd_same, hG _ (fun b u e => by rw [upd_ne (ne_of_none e hy), upd_ne (ne_of_none e hd)]; exact e), fun H' k o => ⟨rfl, q y H' hy (same_mk hy hd k) o⟩⟩
theorem ro_init {H : Hp} {a C dx kp p q : Addr} {txt : Str} {fs : List (Str × V)} {r : RS} (ha : H a = some (.ins C dx (initF (.ref kp) (.str txt) (.ref p) (.ref q) (nt (dep r)) fs))) (cl : RCls K C)
    (np : H p = some (.tup [nt (num r).o, nt (num r).s, nt (num r).t])) (ip : H q = some (.tup [butV (num r).but, nt (num r).m])) (tl : txt.length ≤ txB (dep r)) (ht : fs.lookup ("text" : Str) = none)
    (lf : leaf K C (initF (.ref kp) (.str txt) (.ref p) (.ref q) (nt (dep r)) fs) r) (wf : JM.wf r) :
    RO K H a C dx (initF (.ref kp) (.str txt) (.ref p) (.ref q) (nt (dep r)) fs) p q (.ref kp) txt r := by
  refine ⟨ha, cl, ?_, np, ?_, ip, ?_, ?_, tl, ?_, ?_, lf, wf⟩ <;> unfold initF
  · rw [lookup_putF, if_neg (by decide), lookup_putF, if_neg (by decide), lookup_putF, if_pos rfl]
  · rw [lookup_putF, if_neg (by decide), lookup_putF, if_pos rfl]
  · rw [lookup_putF, if_pos rfl]
  · rw [lookup_putF, if_neg (by decide), lookup_putF, if_neg (by decide), lookup_putF, if_neg (by decide), lookup_putF, if_pos rfl]
  · rw [lookup_putF, if_neg (by decide), lookup_putF, if_neg (by decide), lookup_putF, if_neg (by decide), lookup_putF, if_neg (by decide), lookup_putF, if_pos rfl]
  · rw [lookup_putF, if_neg (by decide), lookup_putF, if_neg (by decide), lookup_putF, if_neg (by decide), lookup_putF, if_neg (by decide), lookup_putF, if_neg (by decide)]
    exact ht
theorem fin_init {H Hc : Hp} {a C dx k p i : Addr} {fs : List (Str × V)} {txt : Str} {rest : List V} {r : RS} {Q : VK} (q : ∀ H', SameB a H H' → ∀ fs2, fs2 = initF (.ref k) (.str txt) (.ref p) (.ref i) (nt (dep r)) fs → RO K H' a C dx fs2 p i (.ref k) txt r → Q .non H')
    (kc : SameB a H Hc) (ha : Hc a = some (.ins C dx fs)) (cl : RCls K C) (hl : fs.length < 900)
    (hk : Hc k = some (.tup (.str txt :: rest))) (hp : Hc p = some (.tup [nt (num r).o, nt (num r).s, nt (num r).t])) (hi : Hc i = some (.tup [butV (num r).but, nt (num r).m])) (tl : txt.length ≤ txB (dep r)) (ht : fs.lookup ("text" : Str) = none)
    (lf : leaf K C (initF (.ref k) (.str txt) (.ref p) (.ref i) (nt (dep r)) fs) r) (wf : JM.wf r) :
    spRInit K [.ref a, .ref k, .ref p, .ref i, nt (dep r)] Hc (fun _ H2 => Q .non H2) E0 := by
  have n1 : p ≠ a := fun e => by rw [e, ha] at hp; cases hp
  have n2 : i ≠ a := fun e => by rw [e, ha] at hi; cases hi
  exact ⟨a, C, dx, fs, k, _, _, txt, rest, _, rfl, ha, cl, hl, hk, fun H' sb ha' => q H' (kc.trans sb) _ rfl (ro_init ha' cl (sb _ _ n1 hp) (sb _ _ n2 hi) tl ht lf wf)⟩
/-! ### Fractions -/
def GFrac : List V → Hp → RS → Prop := fun us _ r => us = [] ∧ r = .frac
theorem sc_frac : NdefX.NScope ["self", "__class__"] ["self"] ["__class__"] dMFractions_init.scope := NdefX.nscope_by (by decide +kernel)
theorem m_frac (z : Z K mg base) : FnR PW w K mg base CX0 4 (He.ma K (He.ga K "Fractions") "__init__") (spIni K "Fractions" GFrac) := by
  refine fn_super (j := 0) (f_MFractions_init z.c) (c_cell_Fractions z.c) sc_frac (fun vs H Q E h => ?_) rfl (fun dV _ _ _ _ _ _ _ us hl hd _ => by cases hd rfl; exact (match us, hl with | [_], _ => .inl rfl)) fun cc cda A outer s H vs Q E SE hr h => ?_
  · obtain ⟨a, dx, us, r, rfl, _, ⟨rfl, _⟩, _⟩ := h; rfl
  · obtain ⟨a, dx, us, r, rfl, ha, ⟨rfl, rfl⟩, q⟩ := h
    obtain ⟨oc, od, osl, fd, hf, hpar⟩ := SE.fn
    obtain ⟨ccl, cdd, vs, ccs, tf, file, hcode, hvs, hfile⟩ := SE.code
    obtain ⟨cl, cld, csl, hcell⟩ := SE.cell
    refine ⟨_, psA_super hf rfl rfl hcode hvs hfile rfl hcell (c_sup0 z.c) (by rw [hpar]; rfl) rfl rfl rfl rfl rfl (by kernel_rfl) (c_fni_Ring_init z.c) (m_rinit z) (hr.mono (by decide)) pass0 (fn_type (c_fn_Ring_init z.c))
      (pa_cons (pe_tup (pa_cons pe_str pa_nil)) (pa_cons (pe_tup (pa_cons pe_int (pa_cons pe_int (pa_cons pe_int pa_nil)))) (pa_cons (pe_tup (pa_cons pe_str (pa_cons pe_int pa_nil))) (pa_cons pe_int pa_nil)))) (psA_of pss_nil) (pl := _), ?_⟩
    refine ⟨a, _, dx, [], rfl, ha, sup_of (c_sup_Fractions_Fractions z.c), ?_⟩
    refine ⟨lnb rfl, fun k hk => ⟨lnb rfl, fun p hp => ⟨lnb rfl, fun i hi => ?_⟩⟩⟩
    have k1 := same_new (o := .tup [V.str (Str.ofString "fractions")]) hk
    have k2 := same_new (o := .tup [V.int 0, V.int 1, V.int 0]) hp
    have k3 := same_new (o := .tup [V.str (Str.ofString "but"), V.int 1]) hi
    exact fin_init (r := .frac) (fun H' kk _ _ o => q H' kk o.ob) (Same.but ((k1.trans k2).trans k3)) (k3 _ _ (k2 _ _ (k1 _ _ ha))) (rcls_of (c_rc_Fractions z.c)) (by decide) (k3 _ _ (k2 _ _ upd_same)) (k3 _ _ upd_same) upd_same (by decide) rfl trivial trivial
end
end J

/-! rings: the constructors (printed by genE.py) -/
namespace J
open PySem PySem.Spec PyProof.Rows L2
open JM (RN RS num dep)
section
variable {w : World} {K : PySem.W.Frag} {mg : Str → Option Value} {base : Heap}
theorem mx1 {r : RS} (h : dep r ≤ 3) : mxD [r] ≤ 3 := by show max (dep r) 0 ≤ 3; omega
theorem mx1e {r : RS} : 1 + mxD [r] = 1 + dep r := by show 1 + max (dep r) 0 = 1 + dep r; omega
section
variable {σ : L2.St} {H : Hp} {Q : VK} {j l : Nat} {b C dx p q : Addr} {fs : List (Str × V)} {key : V} {txt : Str} {r : RS}
theorem rd_pick {n : Nat} (o : RO K H b C dx fs p q key txt r) (hl : σ[l]? = some (some (nt n))) (hσ : σ[j]? = some (some (.ref b))) (h : Q (nt (if n = 1 then (num r).s else (num r).o)) H) :
    tIf (tTest (tOp rEq (tVar l) (tC (.int 1)))) (tPr K "swaps" (pG K "swaps") (recAt K (pG K "swaps") "property") (spNum K RN.s) (tVar j)) (tPr K "ones" (pG K "ones") (recAt K (pG K "ones") "property") (spNum K RN.o) (tVar j)) σ H Q := by
  refine ⟨_, hl, rfl, _, rfl, ?_⟩
  rw [dec_one]
  by_cases e : n = 1
  · rw [if_pos e] at h
    exact iteDT e (rd_swaps o hσ h)
  · rw [if_neg e] at h
    exact iteDF e (rd_ones o hσ h)
theorem rd_half {n : Nat} (hn : n < 2 ^ 29) (hσ : σ[j]? = some (some (nt n))) (h : Q (nt (if 0 < n then n / Nat.gcd n 2 else 0)) H) :
    tIf (tTest (tOp (rI0 fun i j => .bl (decide (j < i))) (tVar j) (tC (.int 0)))) (tOp (rI CDivN fun i j => .int (i.fdiv j)) (tVar j) (tCR spGcd (tCons (tVar j) (tCons (tC (.int 2)) tNil)))) (tC (.int 0)) σ H Q := by
  refine ⟨_, hσ, _, _, rfl, rfl, _, rfl, ?_⟩
  by_cases e : 0 < n
  · rw [if_pos e] at h
    have g1 : Nat.gcd n 2 ≤ 2 := Nat.gcd_le_right n (by decide)
    have g2 : 0 < Nat.gcd n 2 := Nat.gcd_pos_of_pos_left 2 e
    refine iteDT (by omega) ⟨_, hσ, _, hσ, n, 2, rfl, _, _, rfl, rfl, ⟨?_, ?_⟩, ?_⟩
    · show ((Nat.gcd n 2 : Nat) : Int) ≠ 0
      omega
    · show ((Nat.gcd n 2 : Nat) : Int).natAbs < 1073741824
      omega
    · show Q (V.int ((n : Int).fdiv ((Nat.gcd n 2 : Nat) : Int))) H
      rw [fdiv_nat]
      exact h
  · rw [if_neg e] at h
    exact iteDF (by omega) h
theorem kit_self {C : Addr} : PySem.W.kitOne K (.ref C) (.ref C) = some true := if_pos (by simp)
theorem tw_isi {Q : Bool → Hp → Prop} (z : Z K mg base) (o : RO K H b C dx fs p q key txt r) (hσ : σ[j]? = some (some (.ref b))) (hb : (∃ n, r = .rests n) ∨ ∃ d, r = .whole d) (h : Q false H) :
    tAnd (tNot (tB (tCB (rIsi K) (tCons (tVar j) (tCons (tC (.ref (He.ga K "Rests"))) tNil))))) (tNot (tB (tCB (rIsi K) (tCons (tVar j) (tCons (tC (.ref (He.ga K "Whole"))) tNil))))) σ H Q := by
  rcases hb with ⟨n, rfl⟩ | ⟨d, rfl⟩
  · obtain rfl := o.lf
    exact ⟨_, hσ, _, _, _, _, true, rfl, .own _, ty_ins o.at_ o.cl.cls o.cl.ty, kit_self, _, rfl, iteF h⟩
  · obtain ⟨rfl, _⟩ := o.lf
    refine ⟨_, hσ, _, _, _, _, false, rfl, .own _, ty_ins o.at_ o.cl.cls o.cl.ty, of_decide_eq_true (c_isi_WR z.c), _, rfl, iteT ?_⟩
    exact ⟨_, hσ, _, _, _, _, true, rfl, .own _, ty_ins o.at_ o.cl.cls o.cl.ty, kit_self, _, rfl, h⟩
theorem tw_fit {Q : Bool → Hp → Prop} {t : Nat} (o : RO K H b C dx fs p q key txt r) (hσ : σ[j]? = some (some (.ref b))) (hl : σ[l]? = some (some (nt t))) (ht : 1 ≤ t) (hb : (∃ n, r = .rests n ∧ t ∣ n) ∨ ∃ d, r = .whole d ∧ Nat.gcd t (JM.radV d) = 1) (h : Q false H) :
    tOr (tTest (tOp rNe (tOp (rI (fun _ j => 0 < j) fun i j => .int (i % j)) (tCB (fun xs H Q => (∃ i, xs = [V.int i] ∧ Q (.int i) H) ∨ ∃ k, xs = [V.bl k] ∧ Q (.int (if k then 1 else 0)) H) (tCons (tPr K "ones" (pG K "ones") (recAt K (pG K "ones") "property") (spNum K RN.o) (tVar j)) tNil)) (tVar l)) (tC (.int 0))))
      (tAnd (tTest (tOp rEq (tPr K "ones" (pG K "ones") (recAt K (pG K "ones") "property") (spNum K RN.o) (tVar j)) (tC (.int 0)))) (tTest (tOp rNe (tCR spGcd (tCons (tVar l) (tCons (tFld K (tVar j) "base") tNil))) (tC (.int 1))))) σ H Q := by
  have e1 : ((num r).o % t) = 0 := by
    rcases hb with ⟨n, rfl, hd⟩ | ⟨d, rfl, _⟩
    · exact Nat.mod_eq_zero_of_dvd hd
    · exact Nat.zero_mod t
  refine rd_ones o hσ (.inl ⟨_, rfl, _, hl, _, _, rfl, rfl, by omega, rfl, _, rfl, ?_⟩)
  have e2 : (!decide (V.int (((num r).o : Int) % (t : Int)) = V.int 0)) = false := by
    rw [emod_nat, e1] <;> rfl
  show if (!decide (V.int (((num r).o : Int) % (t : Int)) = V.int 0)) = true then _ else _
  rw [e2]
  refine iteF (rd_ones o hσ ⟨rfl, _, rfl, ?_⟩)
  rw [dec_zero]
  rcases hb with ⟨n, rfl, hd⟩ | ⟨d, rfl, hg⟩
  · have w2 := o.wf.1
    refine iteDF (show ¬ n = 0 by omega) h
  · obtain ⟨rfl, hb2⟩ := o.lf
    refine iteDT rfl ⟨_, hl, _, hσ, b, _, dx, fs, _, rfl, o.at_, o.cl.cls, o.cl.na _ (by decide), hb2, t, JM.radV d, rfl, rfl, _, rfl, ?_⟩
    show Q (!decide (nt (Nat.gcd t (JM.radV d)) = V.int 1)) H
    rw [hg]
    exact h
end
/-! ### Sets -/
def GSets (K : PySem.W.Frag) : List V → Hp → RS → Prop := fun us _ r => ∃ n : Nat, us = [nt n] ∧ r = .sets n ∧ JM.wf (.sets n)
theorem sc_Sets : NdefX.NScope ["self", "points", "__class__"] ["self", "points"] ["__class__"] dMSets_init.scope := NdefX.nscope_by (by decide +kernel)
theorem m_Sets (z : Z K mg base) : FnR PW w K mg base CX0 4 (He.ma K (He.ga K "Sets") "__init__") (spIni K "Sets" (GSets K)) := by
  refine fn_super (j := 0) (f_MSets_init z.c) (c_cell_Sets z.c) sc_Sets (fun vs H Q E h => ?_) rfl (fun dV _ _ _ _ _ _ _ us hl hd _ => by cases hd rfl; exact (match us, hl with | [_, _], _ => .inl rfl)) fun cc cda A outer s H vs Q E SE hr h => ?_
  · obtain ⟨a, dx, us, r, rfl, _, ⟨n, rfl, rfl, wf⟩, _⟩ := h; rfl
  · obtain ⟨a, dx, us, r, rfl, ha, ⟨n, rfl, rfl, wf⟩, q⟩ := h
    obtain ⟨oc, od, osl, fd, hf, hpar⟩ := SE.fn
    obtain ⟨ccl, cdd, vs, ccs, tf, file, hcode, hvs, hfile⟩ := SE.code
    obtain ⟨cl, cld, csl, hcell⟩ := SE.cell
    obtain ⟨tM, hM⟩ := z.most
    have GIB : GF PW w K mg base 2 "in_bounds" spInB := g_in_bounds z
    have GBA : GF PW w K mg base 1 "based" (spBased K) := g_based z
    have GSH : GF PW w K mg base 3 "shallow" (spShal K) := g_shallow z
    have GGC : GF PW w K mg base 1 "gcd" spGcd := g_gcd z
    have GMU : GF PW w K mg base 2 "multiple" spMul := g_multiple z
    have GRA : GF PW w K mg base 3 "radical" spRad := g_radical z
    have GBO : GF PW w K mg base 3 "inverses_of_both" spBoth := g_iboth z
    have rc := rcls_of (c_rc_Sets z.c)
    refine ⟨_, (psA_cons (ps_if (pt_not (pt_val (pe_cf GIB (hr.mono (by decide)) (by rfl) pass0 (pa_cons (pv 1) (pa_cons pe_int (pa_cons pe_int pa_nil)))))) (pss_one ps_never) pss_nil)
      ((psA_cons (ps_fld (pv 0) (pe_op op_shl pe_int (pv 1)) rfl)
      (psA_super hf rfl rfl hcode hvs hfile rfl hcell (c_sup0 z.c) (by rw [hpar]; rfl) rfl rfl rfl rfl rfl (by kernel_rfl) (c_fni_Ring_init z.c) (m_rinit z) (hr.mono (by decide)) pass0 (fn_type (c_fn_Ring_init z.c))
      (pa_cons (pe_tup (pa_cons (pe_joined (.cons pe_str (.cons (pe_fmt (pv 1)) (.cons pe_str .nil)))) pa_nil)) (pa_cons (pe_tup (pa_cons pe_int (pa_cons pe_int (pa_cons pe_int pa_nil)))) (pa_cons (pe_tup (pa_cons pe_str (pa_cons pe_int pa_nil))) (pa_cons pe_int pa_nil)))) (psA_of pss_nil) (pl := _))))), ?_⟩
    have h1 := wf.1
    have h2 := wf.2
    refine ⟨_, rfl, _, _, _, rfl, _, rfl, iteNS ⟨by omega, by omega⟩ ?_⟩
    refine ⟨_, rfl, _, _, rfl, rfl, ⟨by omega, by omega, by decide⟩, _, rfl, a, _, dx, [], rfl, ha, rc.cls, rc.na _ (by decide), by decide, ?_⟩
    refine ⟨a, _, dx, _, rfl, upd_same, sup_of (c_sup_Sets_Sets z.c), ?_⟩
    refine jsC (i := (n : Int)) (by decide) (by decide) (by omega) (fun k q => ⟨_, rfl, q⟩) fun out hout => ?_
    refine ⟨lnb rfl, fun k hk => ⟨lnb rfl, fun p hp => ⟨lnb rfl, fun i hi => ?_⟩⟩⟩
    have k1 := same_new (o := .tup [V.str out]) hk
    have k2 := same_new (o := .tup [V.int 2, V.int 1, V.int 1]) hp
    have k3 := same_new (o := .tup [V.str (Str.ofString "but"), V.int 2]) hi
    exact fin_init (r := .sets n) (fun H' kk _ _ o => q H' kk o.ob) (sameB_upd.trans (Same.but ((k1.trans k2).trans k3))) (k3 _ _ (k2 _ _ (k1 _ _ upd_same))) rc (show (1 : Nat) < 900 by decide) (k3 _ _ (k2 _ _ upd_same)) (k3 _ _ upd_same) upd_same (txB_1 (d := 1) (by omega) (by decide)) rfl trivial wf
/-! ### Rests -/
def GRests (K : PySem.W.Frag) : List V → Hp → RS → Prop := fun us _ r => ∃ n : Nat, us = [nt n] ∧ r = .rests n ∧ JM.wf (.rests n)
theorem sc_Rests : NdefX.NScope ["self", "modulus", "__class__"] ["self", "modulus"] ["__class__"] dMRests_init.scope := NdefX.nscope_by (by decide +kernel)
theorem m_Rests (z : Z K mg base) : FnR PW w K mg base CX0 4 (He.ma K (He.ga K "Rests") "__init__") (spIni K "Rests" (GRests K)) := by
  refine fn_super (j := 0) (f_MRests_init z.c) (c_cell_Rests z.c) sc_Rests (fun vs H Q E h => ?_) rfl (fun dV _ _ _ _ _ _ _ us hl hd _ => by cases hd rfl; exact (match us, hl with | [_, _], _ => .inl rfl)) fun cc cda A outer s H vs Q E SE hr h => ?_
  · obtain ⟨a, dx, us, r, rfl, _, ⟨n, rfl, rfl, wf⟩, _⟩ := h; rfl
  · obtain ⟨a, dx, us, r, rfl, ha, ⟨n, rfl, rfl, wf⟩, q⟩ := h
    obtain ⟨oc, od, osl, fd, hf, hpar⟩ := SE.fn
    obtain ⟨ccl, cdd, vs, ccs, tf, file, hcode, hvs, hfile⟩ := SE.code
    obtain ⟨cl, cld, csl, hcell⟩ := SE.cell
    obtain ⟨tM, hM⟩ := z.most
    have GIB : GF PW w K mg base 2 "in_bounds" spInB := g_in_bounds z
    have GBA : GF PW w K mg base 1 "based" (spBased K) := g_based z
    have GSH : GF PW w K mg base 3 "shallow" (spShal K) := g_shallow z
    have GGC : GF PW w K mg base 1 "gcd" spGcd := g_gcd z
    have GMU : GF PW w K mg base 2 "multiple" spMul := g_multiple z
    have GRA : GF PW w K mg base 3 "radical" spRad := g_radical z
    have GBO : GF PW w K mg base 3 "inverses_of_both" spBoth := g_iboth z
    have rc := rcls_of (c_rc_Rests z.c)
    refine ⟨_, (psA_cons (ps_if (pt_not (pt_val (pe_cf GIB (hr.mono (by decide)) (by rfl) pass0 (pa_cons (pv 1) (pa_cons pe_int (pa_cons (pe_op op_pow pe_int pe_int) pa_nil)))))) (pss_one ps_never) pss_nil)
      ((psA_cons (ps_fld (pv 0) (pv 1) rfl)
      (psA_super hf rfl rfl hcode hvs hfile rfl hcell (c_sup0 z.c) (by rw [hpar]; rfl) rfl rfl rfl rfl rfl (by kernel_rfl) (c_fni_Ring_init z.c) (m_rinit z) (hr.mono (by decide)) pass0 (fn_type (c_fn_Ring_init z.c))
      (pa_cons (pe_tup (pa_cons (pe_joined (.cons pe_str (.cons (pe_fmt (pv 1)) (.cons pe_str .nil)))) pa_nil)) (pa_cons (pe_tup (pa_cons (pv 1) (pa_cons pe_int (pa_cons (pe_op op_fdivN (pv 1) (pe_cf GGC (hr.mono (by decide)) (by rfl) pass0 (pa_cons (pv 1) (pa_cons pe_int pa_nil)))) pa_nil)))) (pa_cons (pe_tup (pa_cons pe_str (pa_cons (pv 1) pa_nil))) (pa_cons pe_int pa_nil)))) (psA_of pss_nil) (pl := _))))), ?_⟩
    have h1 := wf.1
    have h2 := wf.2
    have hg : Nat.gcd n 2 ≤ n := Nat.gcd_le_left 2 (by omega)
    have hg0 : 0 < Nat.gcd n 2 := Nat.gcd_pos_of_pos_left 2 (by omega)
    have e9 : (10 : Int) ^ (9 : Int).toNat = 1000000000 := by decide
    refine ⟨_, rfl, _, _, rfl, rfl, ⟨by decide, by decide, by decide⟩, _, _, _, rfl, _, rfl, iteNS ⟨by omega, by rw [e9]; omega⟩ ?_⟩
    refine ⟨_, rfl, _, rfl, a, _, dx, [], rfl, ha, rc.cls, rc.na _ (by decide), by decide, ?_⟩
    refine ⟨a, _, dx, _, rfl, upd_same, sup_of (c_sup_Rests_Rests z.c), ?_⟩
    refine jsC (i := (n : Int)) (by decide) (by decide) (by omega) (fun k q => ⟨_, rfl, q⟩) fun out hout => ?_
    refine ⟨lnb rfl, fun k hk => ⟨_, rfl, _, rfl, _, rfl, _, _, rfl, _, _, rfl, rfl, ⟨?_, ?_⟩, lnb rfl, fun p hp => ⟨_, rfl, lnb rfl, fun i hi => ?_⟩⟩⟩
    · show ((Nat.gcd n 2 : Nat) : Int) ≠ 0
      omega
    · show ((Nat.gcd n 2 : Nat) : Int).natAbs < 1073741824
      omega
    have k1 := same_new (o := .tup [V.str out]) hk
    have k2 := same_new (o := .tup [nt n, V.int 1, V.int ((n : Int).fdiv ((Nat.gcd n 2 : Nat) : Int))]) hp
    have k3 := same_new (o := .tup [V.str (Str.ofString "but"), nt n]) hi
    refine fin_init (r := .rests n) (fun H' kk _ _ o => q H' kk o.ob) (sameB_upd.trans (Same.but ((k1.trans k2).trans k3))) (k3 _ _ (k2 _ _ (k1 _ _ upd_same))) rc (show (1 : Nat) < 900 by decide) (k3 _ _ (k2 _ _ upd_same)) (k3 _ _ ?_) upd_same (txB_1 (d := 1) (by omega) (by decide)) rfl rfl wf
    rw [upd_same]
    show some (HO.tup [nt n, V.int 1, V.int ((n : Int).fdiv ((Nat.gcd n 2 : Nat) : Int))]) = some (HO.tup [nt n, nt 1, nt (n / Nat.gcd n 2)])
    rw [fdiv_nat] <;> rfl
/-! ### Whole -/
def GWhole (K : PySem.W.Frag) : List V → Hp → RS → Prop := fun us _ r => ∃ d : Nat, us = [nt d] ∧ r = .whole d ∧ JM.wf (.whole d)
theorem sc_Whole : NdefX.NScope ["self", "inverse", "__class__"] ["self", "inverse"] ["__class__"] dMWhole_init.scope := NdefX.nscope_by (by decide +kernel)
theorem m_Whole (z : Z K mg base) : FnR PW w K mg base CX0 4 (He.ma K (He.ga K "Whole") "__init__") (spIni K "Whole" (GWhole K)) := by
  refine fn_super (j := 0) (f_MWhole_init z.c) (c_cell_Whole z.c) sc_Whole (fun vs H Q E h => ?_) rfl (fun dV _ _ _ _ _ _ _ us hl _ hT => by obtain ⟨T, rfl⟩ := hT (fun h => by cases h); exact (match us, hl with | [_, _], _ => .inr ⟨T, _, rfl, (fun h => by cases h), rfl, fun its h => match its, h with | [_], _ => rfl⟩)) fun cc cda A outer s H vs Q E SE hr h => ?_
  · obtain ⟨a, dx, us, r, rfl, _, ⟨d, rfl, rfl, wf⟩, _⟩ := h; rfl
  · obtain ⟨a, dx, us, r, rfl, ha, ⟨d, rfl, rfl, wf⟩, q⟩ := h
    obtain ⟨oc, od, osl, fd, hf, hpar⟩ := SE.fn
    obtain ⟨ccl, cdd, vs, ccs, tf, file, hcode, hvs, hfile⟩ := SE.code
    obtain ⟨cl, cld, csl, hcell⟩ := SE.cell
    obtain ⟨tM, hM⟩ := z.most
    have GIB : GF PW w K mg base 2 "in_bounds" spInB := g_in_bounds z
    have GBA : GF PW w K mg base 1 "based" (spBased K) := g_based z
    have GSH : GF PW w K mg base 3 "shallow" (spShal K) := g_shallow z
    have GGC : GF PW w K mg base 1 "gcd" spGcd := g_gcd z
    have GMU : GF PW w K mg base 2 "multiple" spMul := g_multiple z
    have GRA : GF PW w K mg base 3 "radical" spRad := g_radical z
    have GBO : GF PW w K mg base 3 "inverses_of_both" spBoth := g_iboth z
    have rc := rcls_of (c_rc_Whole z.c)
    refine ⟨_, (psA_cons (ps_if (pt_not (pt_val (pe_cf GIB (hr.mono (by decide)) (by rfl) pass0 (pa_cons (pv 1) (pa_cons pe_int (pa_cons (pe_glob (v := .int 1000000) (by rfl) hM ⟨_, rfl⟩) pa_nil)))))) (pss_one ps_never) pss_nil)
      ((psA_cons (ps_fld (pv 0) (pe_cf GRA (hr.mono (by decide)) (by rfl) pass0 (pa_cons (pv 1) pa_nil)) rfl)
      (psA_super hf rfl rfl hcode hvs hfile rfl hcell (c_sup0 z.c) (by rw [hpar]; rfl) rfl rfl rfl rfl rfl (by kernel_rfl) (c_fni_Ring_init z.c) (m_rinit z) (hr.mono (by decide)) pass0 (fn_type (c_fn_Ring_init z.c))
      (pa_cons (pe_tup (pa_cons (pe_joined (.cons pe_str (.cons (pe_fmt (pe_fld (pv 0) rfl)) (.cons pe_str .nil)))) pa_nil)) (pa_cons (pe_tup (pa_cons pe_int (pa_cons pe_int (pa_cons pe_int pa_nil)))) (pa_cons (pe_tup (pa_cons pe_str (pa_cons (pe_fld (pv 0) rfl) pa_nil))) (pa_cons pe_int pa_nil)))) (psA_of pss_nil) (pl := _))))), ?_⟩
    have hd1 : ∀ d ∈ JM.dL, 1 ≤ d ∧ d ≤ 1000 := by decide
    obtain ⟨h1, h2⟩ := hd1 d wf
    obtain ⟨_, _, r3, r4, _⟩ := JM.rad_ok d wf
    refine ⟨_, rfl, _, _, _, rfl, _, rfl, iteNS ⟨by omega, by omega⟩ ?_⟩
    refine ⟨_, rfl, ?_⟩
    dsimp only [tNil]
    refine spRad_of wf ?_
    refine ⟨_, rfl, a, _, dx, [], rfl, ha, rc.cls, rc.na _ (by decide), by decide, ?_⟩
    refine ⟨a, _, dx, _, rfl, upd_same, sup_of (c_sup_Whole_Whole z.c), ?_⟩
    refine jsC (i := ((JM.radV d : Nat) : Int)) (by decide) (by decide) (by omega) (fun k q => ⟨_, rfl, a, _, dx, _, _, rfl, upd_same, rc.cls, rc.na _ (by decide), rfl, q⟩) fun out hout => ?_
    refine ⟨lnb rfl, fun k hk => ⟨lnb rfl, fun p hp => ?_⟩⟩
    have k1 := same_new (o := .tup [V.str out]) hk
    have k2 := same_new (o := .tup [V.int 0, V.int 1, V.int 0]) hp
    refine ⟨_, rfl, a, _, dx, _, _, rfl, k2 _ _ (k1 _ _ upd_same), rc.cls, rc.na _ (by decide), rfl, lnb rfl, fun i hi => ?_⟩
    have k3 := same_new (o := .tup [V.str (Str.ofString "only"), nt (JM.radV d)]) hi
    exact fin_init (r := .whole d) (fun H' kk _ _ o => q H' kk o.ob) (sameB_upd.trans (Same.but ((k1.trans k2).trans k3))) (k3 _ _ (k2 _ _ (k1 _ _ upd_same))) rc (show (1 : Nat) < 900 by decide) (k3 _ _ (k2 _ _ upd_same)) (k3 _ _ upd_same) upd_same (txB_1 (d := 1) (by omega) (by decide)) rfl ⟨rfl, rfl⟩ wf
/-! ### Triangles -/
def GTriangles (K : PySem.W.Frag) : List V → Hp → RS → Prop := fun us H r => ∃ b rb, us = [.ref b] ∧ r = (.tri rb) ∧ ROb K H b rb ∧ dep rb ≤ 3 ∧ JM.wf ((.tri rb))
theorem sc_Triangles : NdefX.NScope ["self", "base", "__class__", "key"] ["self", "base"] ["__class__"] dMTriangles_init.scope := NdefX.nscope_by (by decide +kernel)
theorem m_Triangles (z : Z K mg base) : FnR PW w K mg base CX0 4 (He.ma K (He.ga K "Triangles") "__init__") (spIni K "Triangles" (GTriangles K)) := by
  refine fn_super (j := 0) (f_MTriangles_init z.c) (c_cell_Triangles z.c) sc_Triangles (fun vs H Q E h => ?_) rfl (fun dV _ _ _ _ _ _ _ us hl hd _ => by cases hd rfl; exact (match us, hl with | [_, _], _ => .inl rfl)) fun cc cda A outer s H vs Q E SE hr h => ?_
  · obtain ⟨a, dx, us, r, rfl, _, ⟨b, rb, rfl, rfl, ⟨Cb, dxb, fsb, pb, qb, keyb, txtb, o⟩, hd, wf⟩, _⟩ := h; rfl
  · obtain ⟨a, dx, us, r, rfl, ha, ⟨b, rb, rfl, rfl, ⟨Cb, dxb, fsb, pb, qb, keyb, txtb, o⟩, hd, wf⟩, q⟩ := h
    obtain ⟨oc, od, osl, fd, hf, hpar⟩ := SE.fn
    obtain ⟨ccl, cdd, vs, ccs, tf, file, hcode, hvs, hfile⟩ := SE.code
    obtain ⟨cl, cld, csl, hcell⟩ := SE.cell
    obtain ⟨tM, hM⟩ := z.most
    have GIB : GF PW w K mg base 2 "in_bounds" spInB := g_in_bounds z
    have GBA : GF PW w K mg base 1 "based" (spBased K) := g_based z
    have GSH : GF PW w K mg base 3 "shallow" (spShal K) := g_shallow z
    have GGC : GF PW w K mg base 1 "gcd" spGcd := g_gcd z
    have GMU : GF PW w K mg base 2 "multiple" spMul := g_multiple z
    have GRA : GF PW w K mg base 3 "radical" spRad := g_radical z
    have GBO : GF PW w K mg base 3 "inverses_of_both" spBoth := g_iboth z
    have rc := rcls_of (c_rc_Triangles z.c)
    refine ⟨_, (psA_cons (ps_expr (pe_cf GBA (hr.mono (by decide)) (by rfl) pass0 (pa_cons (pv 1) pa_nil)))
      ((psA_cons (ps_fld (pv 0) (pv 1) rfl)
      ((psA_cons (ps_set (i := 3) sc_Triangles.nd rfl (.inl rfl) (pe_tup (pa_cons (pe_joined (.cons pe_str (.cons (pe_fmt (pe_me0 (pl := _) (pv 1) (m_text z) (hr.mono (by decide)) pass0)) (.cons pe_str .nil)))) (pa_cons (pe_fld (pv 1) rfl) pa_nil))))
      (psA_super hf rfl rfl hcode hvs hfile rfl hcell (c_sup0 z.c) (by rw [hpar]; rfl) rfl rfl rfl rfl rfl (by kernel_rfl) (c_fni_Ring_init z.c) (m_rinit z) (hr.mono (by decide)) pass0 (fn_type (c_fn_Ring_init z.c))
      (pa_cons (pv 3) (pa_cons (pe_tup (pa_cons (pe_pr (p := pG K "ones") (pv 1) (m_ones z) (hr.mono (by decide)) pass0) (pa_cons (pe_pr (p := pG K "ones") (pv 1) (m_ones z) (hr.mono (by decide)) pass0) (pa_cons (pe_pr (p := pG K "ones") (pv 1) (m_ones z) (hr.mono (by decide)) pass0) pa_nil)))) (pa_cons (pe_fld (pv 1) rfl) (pa_cons (pe_cf GSH (hr.mono (by decide)) (by rfl) pass0 (pa_cons (pv 1) pa_nil)) pa_nil)))) (psA_of pss_nil) (pl := _))))))), ?_⟩
    have ne := o.ne ha
    refine ⟨_, rfl, b, rb, rfl, o.ob, ?_⟩
    refine ⟨_, rfl, _, rfl, a, _, dx, [], rfl, ha, rc.cls, rc.na _ (by decide), by decide, ?_⟩
    have kS : SameB a H (upd H a (.ins (He.ga K "Triangles") dx (putF "_base" (.ref b) []))) := sameB_upd
    have hA := upd_same (H := H) (a := a) (o := .ins (He.ga K "Triangles") dx (putF "_base" (.ref b) []))
    have hl : (putF "_base" (V.ref b) []).length < 900 := (show (1 : Nat) < 900 by decide)
    have o1 := o.sameB ne kS
    refine jsA (B := txB (dep rb)) (by decide) (by decide) (txB_3 hd) (fun k q => rd_text o1 rfl q) fun out hout => ?_
    refine rd_key o1 rfl ⟨lnb rfl, fun kp hkp => ?_⟩
    have k1 := same_new (o := .tup [V.str out, keyb]) hkp
    have o2 := o1.same k1
    refine ⟨a, _, dx, _, rfl, k1 _ _ hA, sup_of (c_sup_Triangles_Triangles z.c), ?_⟩
    refine ⟨_, rfl, ?_⟩
    refine (rd_ones o2 rfl (rd_ones o2 rfl (rd_ones o2 rfl ⟨lnb rfl, fun p hp => ?_⟩)))
    have k2 := same_new (o := .tup [nt (num rb).o, nt (num rb).o, nt (num rb).o]) hp
    have o3 := o2.same k2
    refine rd_inv o3 rfl ?_
    refine ⟨_, rfl, [rb], ⟨o3.ob, trivial⟩, (fun h => by cases h), Nat.le_of_ble_eq_true rfl, mx1 hd, fun H' k3 => ?_⟩
    rw [mx1e]
    exact fin_init (r := .tri rb) (fun H' kk _ _ o => q H' kk o.ob) (kS.trans (Same.but (k1.trans (k2.trans k3)))) (k3 _ _ (k2 _ _ (k1 _ _ hA))) rc hl (k3 _ _ (k2 _ _ upd_same)) (k3 _ _ upd_same) (o3.same k3).ip (txB_up (by omega) (JM.dep_pos rb)) rfl trivial wf
/-! ### Polynomials -/
def GPolynomials (K : PySem.W.Frag) : List V → Hp → RS → Prop := fun us H r => ∃ b rb, us = [.ref b] ∧ r = (.poly rb) ∧ ROb K H b rb ∧ dep rb ≤ 3 ∧ JM.wf ((.poly rb))
theorem sc_Polynomials : NdefX.NScope ["self", "base", "__class__", "key"] ["self", "base"] ["__class__"] dMPolynomials_init.scope := NdefX.nscope_by (by decide +kernel)
theorem m_Polynomials (z : Z K mg base) : FnR PW w K mg base CX0 4 (He.ma K (He.ga K "Polynomials") "__init__") (spIni K "Polynomials" (GPolynomials K)) := by
  refine fn_super (j := 0) (f_MPolynomials_init z.c) (c_cell_Polynomials z.c) sc_Polynomials (fun vs H Q E h => ?_) rfl (fun dV _ _ _ _ _ _ _ us hl hd _ => by cases hd rfl; exact (match us, hl with | [_, _], _ => .inl rfl)) fun cc cda A outer s H vs Q E SE hr h => ?_
  · obtain ⟨a, dx, us, r, rfl, _, ⟨b, rb, rfl, rfl, ⟨Cb, dxb, fsb, pb, qb, keyb, txtb, o⟩, hd, wf⟩, _⟩ := h; rfl
  · obtain ⟨a, dx, us, r, rfl, ha, ⟨b, rb, rfl, rfl, ⟨Cb, dxb, fsb, pb, qb, keyb, txtb, o⟩, hd, wf⟩, q⟩ := h
    obtain ⟨oc, od, osl, fd, hf, hpar⟩ := SE.fn
    obtain ⟨ccl, cdd, vs, ccs, tf, file, hcode, hvs, hfile⟩ := SE.code
    obtain ⟨cl, cld, csl, hcell⟩ := SE.cell
    obtain ⟨tM, hM⟩ := z.most
    have GIB : GF PW w K mg base 2 "in_bounds" spInB := g_in_bounds z
    have GBA : GF PW w K mg base 1 "based" (spBased K) := g_based z
    have GSH : GF PW w K mg base 3 "shallow" (spShal K) := g_shallow z
    have GGC : GF PW w K mg base 1 "gcd" spGcd := g_gcd z
    have GMU : GF PW w K mg base 2 "multiple" spMul := g_multiple z
    have GRA : GF PW w K mg base 3 "radical" spRad := g_radical z
    have GBO : GF PW w K mg base 3 "inverses_of_both" spBoth := g_iboth z
    have rc := rcls_of (c_rc_Polynomials z.c)
    refine ⟨_, (psA_cons (ps_expr (pe_cf GBA (hr.mono (by decide)) (by rfl) pass0 (pa_cons (pv 1) pa_nil)))
      ((psA_cons (ps_fld (pv 0) (pv 1) rfl)
      ((psA_cons (ps_set (i := 3) sc_Polynomials.nd rfl (.inl rfl) (pe_tup (pa_cons (pe_joined (.cons pe_str (.cons (pe_fmt (pe_me0 (pl := _) (pv 1) (m_text z) (hr.mono (by decide)) pass0)) (.cons pe_str .nil)))) (pa_cons (pe_fld (pv 1) rfl) pa_nil))))
      (psA_super hf rfl rfl hcode hvs hfile rfl hcell (c_sup0 z.c) (by rw [hpar]; rfl) rfl rfl rfl rfl rfl (by kernel_rfl) (c_fni_Ring_init z.c) (m_rinit z) (hr.mono (by decide)) pass0 (fn_type (c_fn_Ring_init z.c))
      (pa_cons (pv 3) (pa_cons (pe_tup (pa_cons (pe_pr (p := pG K "ones") (pv 1) (m_ones z) (hr.mono (by decide)) pass0) (pa_cons (pe_pr (p := pG K "swaps") (pv 1) (m_swaps z) (hr.mono (by decide)) pass0) (pa_cons (pe_pr (p := pG K "ones") (pv 1) (m_ones z) (hr.mono (by decide)) pass0) pa_nil)))) (pa_cons (pe_fld (pv 1) rfl) (pa_cons (pe_cf GSH (hr.mono (by decide)) (by rfl) pass0 (pa_cons (pv 1) pa_nil)) pa_nil)))) (psA_of pss_nil) (pl := _))))))), ?_⟩
    have ne := o.ne ha
    refine ⟨_, rfl, b, rb, rfl, o.ob, ?_⟩
    refine ⟨_, rfl, _, rfl, a, _, dx, [], rfl, ha, rc.cls, rc.na _ (by decide), by decide, ?_⟩
    have kS : SameB a H (upd H a (.ins (He.ga K "Polynomials") dx (putF "_base" (.ref b) []))) := sameB_upd
    have hA := upd_same (H := H) (a := a) (o := .ins (He.ga K "Polynomials") dx (putF "_base" (.ref b) []))
    have hl : (putF "_base" (V.ref b) []).length < 900 := (show (1 : Nat) < 900 by decide)
    have o1 := o.sameB ne kS
    refine jsA (B := txB (dep rb)) (by decide) (by decide) (txB_3 hd) (fun k q => rd_text o1 rfl q) fun out hout => ?_
    refine rd_key o1 rfl ⟨lnb rfl, fun kp hkp => ?_⟩
    have k1 := same_new (o := .tup [V.str out, keyb]) hkp
    have o2 := o1.same k1
    refine ⟨a, _, dx, _, rfl, k1 _ _ hA, sup_of (c_sup_Polynomials_Polynomials z.c), ?_⟩
    refine ⟨_, rfl, ?_⟩
    refine (rd_ones o2 rfl (rd_swaps o2 rfl (rd_ones o2 rfl ⟨lnb rfl, fun p hp => ?_⟩)))
    have k2 := same_new (o := .tup [nt (num rb).o, nt (num rb).s, nt (num rb).o]) hp
    have o3 := o2.same k2
    refine rd_inv o3 rfl ?_
    refine ⟨_, rfl, [rb], ⟨o3.ob, trivial⟩, (fun h => by cases h), Nat.le_of_ble_eq_true rfl, mx1 hd, fun H' k3 => ?_⟩
    rw [mx1e]
    exact fin_init (r := .poly rb) (fun H' kk _ _ o => q H' kk o.ob) (kS.trans (Same.but (k1.trans (k2.trans k3)))) (k3 _ _ (k2 _ _ (k1 _ _ hA))) rc hl (k3 _ _ (k2 _ _ upd_same)) (k3 _ _ upd_same) (o3.same k3).ip (txB_up (by omega) (JM.dep_pos rb)) rfl trivial wf
/-! ### Swapped -/
def GSwapped (K : PySem.W.Frag) : List V → Hp → RS → Prop := fun us H r => ∃ b rb, us = [.ref b] ∧ r = .swp rb ∧ ROb K H b rb ∧ dep rb ≤ 3 ∧ JM.wf (.swp rb)
theorem sc_Swapped : NdefX.NScope ["self", "base", "__class__", "numbers"] ["self", "base"] ["__class__"] dMSwapped_init.scope := NdefX.nscope_by (by decide +kernel)
theorem m_Swapped (z : Z K mg base) : FnR PW w K mg base CX0 4 (He.ma K (He.ga K "Swapped") "__init__") (spIni K "Swapped" (GSwapped K)) := by
  refine fn_super (j := 0) (f_MSwapped_init z.c) (c_cell_Swapped z.c) sc_Swapped (fun vs H Q E h => ?_) rfl (fun dV _ _ _ _ _ _ _ us hl hd _ => by cases hd rfl; exact (match us, hl with | [_, _], _ => .inl rfl)) fun cc cda A outer s H vs Q E SE hr h => ?_
  · obtain ⟨a, dx, us, r, rfl, _, ⟨b, rb, rfl, rfl, ⟨Cb, dxb, fsb, pb, qb, keyb, txtb, o⟩, hd, wf⟩, _⟩ := h; rfl
  · obtain ⟨a, dx, us, r, rfl, ha, ⟨b, rb, rfl, rfl, ⟨Cb, dxb, fsb, pb, qb, keyb, txtb, o⟩, hd, wf⟩, q⟩ := h
    obtain ⟨oc, od, osl, fd, hf, hpar⟩ := SE.fn
    obtain ⟨ccl, cdd, vs, ccs, tf, file, hcode, hvs, hfile⟩ := SE.code
    obtain ⟨cl, cld, csl, hcell⟩ := SE.cell
    obtain ⟨tM, hM⟩ := z.most
    have GIB : GF PW w K mg base 2 "in_bounds" spInB := g_in_bounds z
    have GBA : GF PW w K mg base 1 "based" (spBased K) := g_based z
    have GSH : GF PW w K mg base 3 "shallow" (spShal K) := g_shallow z
    have GGC : GF PW w K mg base 1 "gcd" spGcd := g_gcd z
    have GMU : GF PW w K mg base 2 "multiple" spMul := g_multiple z
    have GRA : GF PW w K mg base 3 "radical" spRad := g_radical z
    have GBO : GF PW w K mg base 3 "inverses_of_both" spBoth := g_iboth z
    have rc := rcls_of (c_rc_Swapped z.c)
    refine ⟨_, (psA_cons (ps_expr (pe_cf GBA (hr.mono (by decide)) (by rfl) pass0 (pa_cons (pv 1) pa_nil)))
      ((psA_cons (ps_fld (pv 0) (pv 1) rfl)
      ((psA_cons (ps_set (i := 3) sc_Swapped.nd rfl (.inl rfl) (pe_tup (pa_cons (pe_pr (p := pG K "ones") (pv 1) (m_ones z) (hr.mono (by decide)) pass0) (pa_cons (pe_pr (p := pG K "swaps") (pv 1) (m_swaps z) (hr.mono (by decide)) pass0) (pa_cons (pe_pr (p := pG K "squares") (pv 1) (m_squares z) (hr.mono (by decide)) pass0) pa_nil)))))
      (psA_super hf rfl rfl hcode hvs hfile rfl hcell (c_sup0 z.c) (by rw [hpar]; rfl) rfl rfl rfl rfl rfl (by kernel_rfl) (c_fni_Ring_init z.c) (m_rinit z) (hr.mono (by decide)) pass0 (fn_type (c_fn_Ring_init z.c))
      (pa_cons (pe_tup (pa_cons (pe_joined (.cons pe_str (.cons (pe_fmt (pe_me0 (pl := _) (pv 1) (m_text z) (hr.mono (by decide)) pass0)) (.cons pe_str .nil)))) (pa_cons (pe_fld (pv 1) rfl) pa_nil))) (pa_cons (pv 3) (pa_cons (pe_fld (pv 1) rfl) (pa_cons (pe_cf GSH (hr.mono (by decide)) (by rfl) pass0 (pa_cons (pv 1) pa_nil)) pa_nil)))) (psA_of pss_nil) (pl := _))))))), ?_⟩
    have ne := o.ne ha
    refine ⟨_, rfl, b, rb, rfl, o.ob, ?_⟩
    refine ⟨_, rfl, _, rfl, a, _, dx, [], rfl, ha, rc.cls, rc.na _ (by decide), by decide, ?_⟩
    have kS : SameB a H (upd H a (.ins (He.ga K "Swapped") dx (putF "_base" (.ref b) []))) := sameB_upd
    have hA := upd_same (H := H) (a := a) (o := .ins (He.ga K "Swapped") dx (putF "_base" (.ref b) []))
    have hl : (putF "_base" (V.ref b) []).length < 900 := (show (1 : Nat) < 900 by decide)
    have o1 := o.sameB ne kS
    refine rd_ones o1 rfl (rd_swaps o1 rfl (rd_squares o1 rfl ⟨lnb rfl, fun p hp => ?_⟩))
    have k1 := same_new (o := .tup [nt (num rb).o, nt (num rb).s, nt (num rb).t]) hp
    have o2 := o1.same k1
    refine ⟨a, _, dx, _, rfl, k1 _ _ hA, sup_of (c_sup_Swapped_Swapped z.c), ?_⟩
    refine jsA (B := txB (dep rb)) (by decide) (by decide) (txB_3 hd) (fun k q => rd_text o2 rfl q) fun out hout => ?_
    refine rd_key o2 rfl ⟨lnb rfl, fun kp hkp => ?_⟩
    have k2 := same_new (o := .tup [V.str out, keyb]) hkp
    have o3 := o2.same k2
    refine ⟨_, rfl, ?_⟩
    refine rd_inv o3 rfl ?_
    refine ⟨_, rfl, [rb], ⟨o3.ob, trivial⟩, (fun h => by cases h), Nat.le_of_ble_eq_true rfl, mx1 hd, fun H' k3 => ?_⟩
    rw [mx1e]
    exact fin_init (r := .swp rb) (fun H' kk _ _ o => q H' kk o.ob) (kS.trans (Same.but (k1.trans (k2.trans k3)))) (k3 _ _ (k2 _ _ (k1 _ _ hA))) rc hl (k3 _ _ upd_same) (k3 _ _ (k2 _ _ upd_same)) (o3.same k3).ip (txB_up (by omega) (JM.dep_pos rb)) rfl trivial wf
/-! ### Twists -/
def GTwists (K : PySem.W.Frag) : List V → Hp → RS → Prop := fun us H r => ∃ (t : Nat) (b : Addr) (rb : RS), us = [nt t, .ref b] ∧ r = .twist t rb ∧ ROb K H b rb ∧ dep rb ≤ 3 ∧ JM.wf (.twist t rb)
theorem sc_Twists : NdefX.NScope ["self", "part", "base", "__class__", "numbers"] ["self", "part", "base"] ["__class__"] dMTwists_init.scope := NdefX.nscope_by (by decide +kernel)
theorem m_Twists (z : Z K mg base) : FnR PW w K mg base CX0 4 (He.ma K (He.ga K "Twists") "__init__") (spIni K "Twists" (GTwists K)) := by
  refine fn_super (j := 0) (f_MTwists_init z.c) (c_cell_Twists z.c) sc_Twists (fun vs H Q E h => ?_) rfl (fun dV _ _ _ _ _ _ _ us hl hd _ => by cases hd rfl; exact (match us, hl with | [_, _, _], _ => .inl rfl)) fun cc cda A outer s H vs Q E SE hr h => ?_
  · obtain ⟨a, dx, us, r, rfl, _, ⟨t, b, rb, rfl, rfl, ⟨Cb, dxb, fsb, pb, qb, keyb, txtb, o⟩, hd, wf⟩, _⟩ := h; rfl
  · obtain ⟨a, dx, us, r, rfl, ha, ⟨t, b, rb, rfl, rfl, ⟨Cb, dxb, fsb, pb, qb, keyb, txtb, o⟩, hd, wf⟩, q⟩ := h
    obtain ⟨oc, od, osl, fd, hf, hpar⟩ := SE.fn
    obtain ⟨ccl, cdd, vs, ccs, tf, file, hcode, hvs, hfile⟩ := SE.code
    obtain ⟨cl, cld, csl, hcell⟩ := SE.cell
    obtain ⟨tM, hM⟩ := z.most
    have GIB : GF PW w K mg base 2 "in_bounds" spInB := g_in_bounds z
    have GBA : GF PW w K mg base 1 "based" (spBased K) := g_based z
    have GSH : GF PW w K mg base 3 "shallow" (spShal K) := g_shallow z
    have GGC : GF PW w K mg base 1 "gcd" spGcd := g_gcd z
    have GMU : GF PW w K mg base 2 "multiple" spMul := g_multiple z
    have GRA : GF PW w K mg base 3 "radical" spRad := g_radical z
    have GBO : GF PW w K mg base 3 "inverses_of_both" spBoth := g_iboth z
    have rc := rcls_of (c_rc_Twists z.c)
    refine ⟨_, (psA_cons (ps_if (pw_and (pt_not (pt_val (pe_callB call_isi (by rfl) (z.free (c_free_isinstance z.c)) (by decide +kernel) (pa_cons (pv 2) (pa_cons (pe_glob (v := .ref (He.ga K "Rests")) (by rfl) (z.cls (c_glo_Rests z.c)) rfl) pa_nil))))) (pw_and1 (pt_not (pt_val (pe_callB call_isi (by rfl) (z.free (c_free_isinstance z.c)) (by decide +kernel) (pa_cons (pv 2) (pa_cons (pe_glob (v := .ref (He.ga K "Whole")) (by rfl) (z.cls (c_glo_Whole z.c)) rfl) pa_nil))))))).pt (pss_one ps_never) pss_nil)
      ((psA_cons (ps_if (pt_not (pt_val (pe_cf GIB (hr.mono (by decide)) (by rfl) pass0 (pa_cons (pv 1) (pa_cons pe_int (pa_cons (pe_glob (v := .int 1000000) (by rfl) hM ⟨_, rfl⟩) pa_nil)))))) (pss_one ps_never) pss_nil)
      ((psA_cons (ps_if (pw_or (pt_cmpR op_ne (pe_op op_mod (pe_callTy call_int1 (by rfl) (z.free (c_free_int z.c)) (by decide +kernel) (pa_cons (pe_pr (p := pG K "ones") (pv 2) (m_ones z) (hr.mono (by decide)) pass0) pa_nil)) (pv 1)) pe_int (nomark _)) (pw_or1 (pw_and (pt_cmpR op_eq (pe_pr (p := pG K "ones") (pv 2) (m_ones z) (hr.mono (by decide)) pass0) pe_int (nomark _)) (pw_and1 (pt_cmpR op_ne (pe_cf GGC (hr.mono (by decide)) (by rfl) pass0 (pa_cons (pv 1) (pa_cons (pe_fld (pv 2) rfl) pa_nil))) pe_int (nomark _)))).pt)).pt (pss_one ps_never) pss_nil)
      ((psA_cons (ps_asg (pe_tup (pa_cons (pv 1) (pa_cons (pv 2) pa_nil))) (pg_tup rfl (pgs_cons (pg_fld (f := "_part") (pv 0)) (pgs_cons (pg_fld (f := "_base") (pv 0)) pgs_nil))))
      ((psA_cons (ps_set (i := 4) sc_Twists.nd rfl (.inl rfl) (pe_tup (pa_cons (pe_pr (p := pG K "ones") (pv 2) (m_ones z) (hr.mono (by decide)) pass0) (pa_cons (pv 1) (pa_cons (pe_pr (p := pG K "ones") (pv 2) (m_ones z) (hr.mono (by decide)) pass0) pa_nil)))))
      (psA_super hf rfl rfl hcode hvs hfile rfl hcell (c_sup0 z.c) (by rw [hpar]; rfl) rfl rfl rfl rfl rfl (by kernel_rfl) (c_fni_Ring_init z.c) (m_rinit z) (hr.mono (by decide)) pass0 (fn_type (c_fn_Ring_init z.c))
      (pa_cons (pe_tup (pa_cons (pe_joined (.cons pe_str (.cons (pe_fmt (pv 1)) (.cons pe_str (.cons (pe_fmt (pe_me0 (pl := _) (pv 2) (m_text z) (hr.mono (by decide)) pass0)) (.cons pe_str .nil)))))) (pa_cons (pe_fld (pv 2) rfl) pa_nil))) (pa_cons (pv 4) (pa_cons (pe_fld (pv 2) rfl) (pa_cons (pe_cf GSH (hr.mono (by decide)) (by rfl) pass0 (pa_cons (pv 2) pa_nil)) pa_nil)))) (psA_of pss_nil) (pl := _))))))))))), ?_⟩
    have ne := o.ne ha
    have w1 := wf.1.1
    have w2 := wf.1.2
    refine tw_isi z o rfl (wf.2.2.imp (fun ⟨n, h, _⟩ => ⟨n, h⟩) (fun ⟨d, h, _⟩ => ⟨d, h⟩)) (iteF ?_)
    refine ⟨_, rfl, _, _, _, rfl, _, rfl, iteNS ⟨by omega, by omega⟩ ?_⟩
    refine tw_fit o rfl rfl w1 wf.2.2 (iteF ?_)
    refine ⟨_, rfl, _, rfl, lnb rfl, fun t0 ht0 => ?_⟩
    have k0 := same_new (o := .tup [nt t, V.ref b]) ht0
    refine ⟨t0, _, rfl, SqT.of upd_same, rfl, _, _, rfl, _, rfl, a, _, dx, [], rfl, k0 _ _ ha, rc.cls, rc.na _ (by decide), by decide, _, _, rfl, _, rfl, a, _, dx, _, rfl, upd_same, rc.cls, rc.na _ (by decide), (show (1 : Nat) < 1000 by decide), rfl, ?_⟩
    have kS : SameB a H (upd (upd (upd H t0 (.tup [nt t, V.ref b])) a (.ins (He.ga K "Twists") dx (putF "_part" (nt t) []))) a (.ins (He.ga K "Twists") dx (putF "_base" (.ref b) (putF "_part" (nt t) [])))) := (Same.but k0).trans (sameB_upd.trans sameB_upd)
    have hA := upd_same (H := upd (upd H t0 (.tup [nt t, V.ref b])) a (.ins (He.ga K "Twists") dx (putF "_part" (nt t) []))) (a := a) (o := .ins (He.ga K "Twists") dx (putF "_base" (.ref b) (putF "_part" (nt t) [])))
    have hl : (putF "_base" (V.ref b) (putF "_part" (nt t) [])).length < 900 := (show (2 : Nat) < 900 by decide)
    have o1 := o.sameB ne kS
    refine rd_ones o1 rfl ⟨_, rfl, rd_ones o1 rfl ⟨lnb rfl, fun p hp => ?_⟩⟩
    have k1 := same_new (o := .tup [nt (num rb).o, nt t, nt (num rb).o]) hp
    have o2 := o1.same k1
    refine ⟨a, _, dx, _, rfl, k1 _ _ hA, sup_of (c_sup_Twists_Twists z.c), ?_⟩
    refine jsB (B := txB (dep rb)) (i := (t : Int)) (by decide) (by decide) (by decide) (txB_3 hd) (by omega) (fun k q => ⟨_, rfl, q⟩) (fun k q => rd_text o2 rfl q) fun out hout => ?_
    refine rd_key o2 rfl ⟨lnb rfl, fun kp hkp => ?_⟩
    have k2 := same_new (o := .tup [V.str out, keyb]) hkp
    have o3 := o2.same k2
    refine ⟨_, rfl, ?_⟩
    refine rd_inv o3 rfl ?_
    refine ⟨_, rfl, [rb], ⟨o3.ob, trivial⟩, (fun h => by cases h), Nat.le_of_ble_eq_true rfl, mx1 hd, fun H' k3 => ?_⟩
    rw [mx1e]
    exact fin_init (r := .twist t rb) (fun H' kk _ _ o => q H' kk o.ob) (kS.trans (Same.but (k1.trans (k2.trans k3)))) (k3 _ _ (k2 _ _ (k1 _ _ hA))) rc hl (k3 _ _ upd_same) (k3 _ _ (k2 _ _ upd_same)) (o3.same k3).ip (txB_up (by omega) (JM.dep_pos rb)) rfl trivial wf
/-! ### Matrices -/
def GMatrices (K : PySem.W.Frag) : List V → Hp → RS → Prop := fun us H r => ∃ (b : Addr) (rb : RS), us = [nt 2, .ref b] ∧ r = .mats rb ∧ ROb K H b rb ∧ dep rb ≤ 3 ∧ JM.wf (.mats rb)
theorem sc_Matrices : NdefX.NScope ["self", "size", "base", "__class__", "key"] ["self", "size", "base"] ["__class__"] dMMatrices_init.scope := NdefX.nscope_by (by decide +kernel)
theorem m_Matrices (z : Z K mg base) : FnR PW w K mg base CX0 4 (He.ma K (He.ga K "Matrices") "__init__") (spIni K "Matrices" (GMatrices K)) := by
  refine fn_super (j := 0) (f_MMatrices_init z.c) (c_cell_Matrices z.c) sc_Matrices (fun vs H Q E h => ?_) rfl (fun dV _ _ _ _ _ _ _ us hl hd _ => by cases hd rfl; exact (match us, hl with | [_, _, _], _ => .inl rfl)) fun cc cda A outer s H vs Q E SE hr h => ?_
  · obtain ⟨a, dx, us, r, rfl, _, ⟨b, rb, rfl, rfl, ⟨Cb, dxb, fsb, pb, qb, keyb, txtb, o⟩, hd, wf⟩, _⟩ := h; rfl
  · obtain ⟨a, dx, us, r, rfl, ha, ⟨b, rb, rfl, rfl, ⟨Cb, dxb, fsb, pb, qb, keyb, txtb, o⟩, hd, wf⟩, q⟩ := h
    obtain ⟨oc, od, osl, fd, hf, hpar⟩ := SE.fn
    obtain ⟨ccl, cdd, vs, ccs, tf, file, hcode, hvs, hfile⟩ := SE.code
    obtain ⟨cl, cld, csl, hcell⟩ := SE.cell
    obtain ⟨tM, hM⟩ := z.most
    have GIB : GF PW w K mg base 2 "in_bounds" spInB := g_in_bounds z
    have GBA : GF PW w K mg base 1 "based" (spBased K) := g_based z
    have GSH : GF PW w K mg base 3 "shallow" (spShal K) := g_shallow z
    have GGC : GF PW w K mg base 1 "gcd" spGcd := g_gcd z
    have GMU : GF PW w K mg base 2 "multiple" spMul := g_multiple z
    have GRA : GF PW w K mg base 3 "radical" spRad := g_radical z
    have GBO : GF PW w K mg base 3 "inverses_of_both" spBoth := g_iboth z
    have rc := rcls_of (c_rc_Matrices z.c)
    refine ⟨_, (psA_cons (ps_if (pt_not (pt_val (pe_cf GIB (hr.mono (by decide)) (by rfl) pass0 (pa_cons (pv 1) (pa_cons pe_int (pa_cons pe_int pa_nil)))))) (pss_one ps_never) pss_nil)
      ((psA_cons (ps_expr (pe_cf GBA (hr.mono (by decide)) (by rfl) pass0 (pa_cons (pv 2) pa_nil)))
      ((psA_cons (ps_asg (pe_tup (pa_cons (pv 1) (pa_cons (pv 2) pa_nil))) (pg_tup rfl (pgs_cons (pg_fld (f := "_rows") (pv 0)) (pgs_cons (pg_fld (f := "_base") (pv 0)) pgs_nil))))
      ((psA_cons (ps_set (i := 4) sc_Matrices.nd rfl (.inl rfl) (pe_tup (pa_cons (pe_joined (.cons pe_str (.cons (pe_fmt (pv 1)) (.cons pe_str (.cons (pe_fmt (pe_me0 (pl := _) (pv 2) (m_text z) (hr.mono (by decide)) pass0)) (.cons pe_str .nil)))))) (pa_cons (pe_fld (pv 2) rfl) pa_nil))))
      (psA_super hf rfl rfl hcode hvs hfile rfl hcell (c_sup0 z.c) (by rw [hpar]; rfl) rfl rfl rfl rfl rfl (by kernel_rfl) (c_fni_Ring_init z.c) (m_rinit z) (hr.mono (by decide)) pass0 (fn_type (c_fn_Ring_init z.c))
      (pa_cons (pv 4) (pa_cons (pe_tup (pa_cons (pe_pr (p := pG K "ones") (pv 2) (m_ones z) (hr.mono (by decide)) pass0) (pa_cons (pe_pr (p := pG K "ones") (pv 2) (m_ones z) (hr.mono (by decide)) pass0) (pa_cons (pe_pr (p := pG K "ones") (pv 2) (m_ones z) (hr.mono (by decide)) pass0) pa_nil)))) (pa_cons (pe_fld (pv 2) rfl) (pa_cons (pe_cf GSH (hr.mono (by decide)) (by rfl) pass0 (pa_cons (pv 2) pa_nil)) pa_nil)))) (psA_of pss_nil) (pl := _))))))))), ?_⟩
    have ne := o.ne ha
    refine ⟨_, rfl, _, _, _, rfl, _, rfl, iteNS ⟨by decide, by decide⟩ ?_⟩
    refine ⟨_, rfl, b, rb, rfl, o.ob, ?_⟩
    refine ⟨_, rfl, _, rfl, lnb rfl, fun t0 ht0 => ?_⟩
    have k0 := same_new (o := .tup [nt 2, V.ref b]) ht0
    refine ⟨t0, _, rfl, SqT.of upd_same, rfl, _, _, rfl, _, rfl, a, _, dx, [], rfl, k0 _ _ ha, rc.cls, rc.na _ (by decide), by decide, _, _, rfl, _, rfl, a, _, dx, _, rfl, upd_same, rc.cls, rc.na _ (by decide), (show (1 : Nat) < 1000 by decide), rfl, ?_⟩
    have kS : SameB a H (upd (upd (upd H t0 (.tup [nt 2, V.ref b])) a (.ins (He.ga K "Matrices") dx (putF "_rows" (nt 2) []))) a (.ins (He.ga K "Matrices") dx (putF "_base" (.ref b) (putF "_rows" (nt 2) [])))) := (Same.but k0).trans (sameB_upd.trans sameB_upd)
    have hA := upd_same (H := upd (upd H t0 (.tup [nt 2, V.ref b])) a (.ins (He.ga K "Matrices") dx (putF "_rows" (nt 2) []))) (a := a) (o := .ins (He.ga K "Matrices") dx (putF "_base" (.ref b) (putF "_rows" (nt 2) [])))
    have hl : (putF "_base" (V.ref b) (putF "_rows" (nt 2) [])).length < 900 := (show (2 : Nat) < 900 by decide)
    have o1 := o.sameB ne kS
    refine jsB (B := txB (dep rb)) (i := ((2 : Nat) : Int)) (by decide) (by decide) (by decide) (txB_3 hd) (by decide) (fun k q => ⟨_, rfl, q⟩) (fun k q => rd_text o1 rfl q) fun out hout => ?_
    refine rd_key o1 rfl ⟨lnb rfl, fun kp hkp => ?_⟩
    have k1 := same_new (o := .tup [V.str out, keyb]) hkp
    have o2 := o1.same k1
    refine ⟨a, _, dx, _, rfl, k1 _ _ hA, sup_of (c_sup_Matrices_Matrices z.c), ?_⟩
    refine ⟨_, rfl, ?_⟩
    refine (rd_ones o2 rfl (rd_ones o2 rfl (rd_ones o2 rfl ⟨lnb rfl, fun p hp => ?_⟩)))
    have k2 := same_new (o := .tup [nt (num rb).o, nt (num rb).o, nt (num rb).o]) hp
    have o3 := o2.same k2
    refine rd_inv o3 rfl ?_
    refine ⟨_, rfl, [rb], ⟨o3.ob, trivial⟩, (fun h => by cases h), Nat.le_of_ble_eq_true rfl, mx1 hd, fun H' k3 => ?_⟩
    rw [mx1e]
    exact fin_init (r := .mats rb) (fun H' kk _ _ o => q H' kk o.ob) (kS.trans (Same.but (k1.trans (k2.trans k3)))) (k3 _ _ (k2 _ _ (k1 _ _ hA))) rc hl (k3 _ _ (k2 _ _ upd_same)) (k3 _ _ upd_same) (o3.same k3).ip (txB_up (by omega) (JM.dep_pos rb)) rfl trivial wf
/-! ### Words -/
def GWords (K : PySem.W.Frag) : List V → Hp → RS → Prop := fun us H r => ∃ (t : Nat) (b : Addr) (rb : RS), us = [nt t, .ref b] ∧ r = .words t rb ∧ ROb K H b rb ∧ dep rb ≤ 3 ∧ JM.wf (.words t rb)
theorem sc_Words : NdefX.NScope ["self", "letters", "base", "__class__", "swaps", "key"] ["self", "letters", "base"] ["__class__"] dMWords_init.scope := NdefX.nscope_by (by decide +kernel)
theorem m_Words (z : Z K mg base) : FnR PW w K mg base CX0 4 (He.ma K (He.ga K "Words") "__init__") (spIni K "Words" (GWords K)) := by
  refine fn_super (j := 0) (f_MWords_init z.c) (c_cell_Words z.c) sc_Words (fun vs H Q E h => ?_) rfl (fun dV _ _ _ _ _ _ _ us hl hd _ => by cases hd rfl; exact (match us, hl with | [_, _, _], _ => .inl rfl)) fun cc cda A outer s H vs Q E SE hr h => ?_
  · obtain ⟨a, dx, us, r, rfl, _, ⟨t, b, rb, rfl, rfl, ⟨Cb, dxb, fsb, pb, qb, keyb, txtb, o⟩, hd, wf⟩, _⟩ := h; rfl
  · obtain ⟨a, dx, us, r, rfl, ha, ⟨t, b, rb, rfl, rfl, ⟨Cb, dxb, fsb, pb, qb, keyb, txtb, o⟩, hd, wf⟩, q⟩ := h
    obtain ⟨oc, od, osl, fd, hf, hpar⟩ := SE.fn
    obtain ⟨ccl, cdd, vs, ccs, tf, file, hcode, hvs, hfile⟩ := SE.code
    obtain ⟨cl, cld, csl, hcell⟩ := SE.cell
    obtain ⟨tM, hM⟩ := z.most
    have GIB : GF PW w K mg base 2 "in_bounds" spInB := g_in_bounds z
    have GBA : GF PW w K mg base 1 "based" (spBased K) := g_based z
    have GSH : GF PW w K mg base 3 "shallow" (spShal K) := g_shallow z
    have GGC : GF PW w K mg base 1 "gcd" spGcd := g_gcd z
    have GMU : GF PW w K mg base 2 "multiple" spMul := g_multiple z
    have GRA : GF PW w K mg base 3 "radical" spRad := g_radical z
    have GBO : GF PW w K mg base 3 "inverses_of_both" spBoth := g_iboth z
    have rc := rcls_of (c_rc_Words z.c)
    refine ⟨_, (psA_cons (ps_if (pt_not (pt_val (pe_cf GIB (hr.mono (by decide)) (by rfl) pass0 (pa_cons (pv 1) (pa_cons pe_int (pa_cons pe_int pa_nil)))))) (pss_one ps_never) pss_nil)
      ((psA_cons (ps_expr (pe_cf GBA (hr.mono (by decide)) (by rfl) pass0 (pa_cons (pv 2) pa_nil)))
      ((psA_cons (ps_asg (pe_tup (pa_cons (pv 1) (pa_cons (pv 2) pa_nil))) (pg_tup rfl (pgs_cons (pg_fld (f := "_letters") (pv 0)) (pgs_cons (pg_fld (f := "_base") (pv 0)) pgs_nil))))
      ((psA_cons (ps_set (i := 4) sc_Words.nd rfl (.inl rfl) (pe_ifExp (pt_cmpR op_eq (pv 1) pe_int (nomark _)) (pe_pr (p := pG K "swaps") (pv 2) (m_swaps z) (hr.mono (by decide)) pass0) (pe_pr (p := pG K "ones") (pv 2) (m_ones z) (hr.mono (by decide)) pass0)))
      ((psA_cons (ps_set (i := 5) sc_Words.nd rfl (.inl rfl) (pe_tup (pa_cons (pe_joined (.cons pe_str (.cons (pe_fmt (pv 1)) (.cons pe_str (.cons (pe_fmt (pe_me0 (pl := _) (pv 2) (m_text z) (hr.mono (by decide)) pass0)) (.cons pe_str .nil)))))) (pa_cons (pe_fld (pv 2) rfl) pa_nil))))
      (psA_super hf rfl rfl hcode hvs hfile rfl hcell (c_sup0 z.c) (by rw [hpar]; rfl) rfl rfl rfl rfl rfl (by kernel_rfl) (c_fni_Ring_init z.c) (m_rinit z) (hr.mono (by decide)) pass0 (fn_type (c_fn_Ring_init z.c))
      (pa_cons (pv 5) (pa_cons (pe_tup (pa_cons (pe_pr (p := pG K "ones") (pv 2) (m_ones z) (hr.mono (by decide)) pass0) (pa_cons (pv 4) (pa_cons (pe_pr (p := pG K "ones") (pv 2) (m_ones z) (hr.mono (by decide)) pass0) pa_nil)))) (pa_cons (pe_fld (pv 2) rfl) (pa_cons (pe_cf GSH (hr.mono (by decide)) (by rfl) pass0 (pa_cons (pv 2) pa_nil)) pa_nil)))) (psA_of pss_nil) (pl := _))))))))))), ?_⟩
    have ne := o.ne ha
    have w1 := wf.1.1
    have w2 := wf.1.2
    refine ⟨_, rfl, _, _, _, rfl, _, rfl, iteNS ⟨by omega, by omega⟩ ?_⟩
    refine ⟨_, rfl, b, rb, rfl, o.ob, ?_⟩
    refine ⟨_, rfl, _, rfl, lnb rfl, fun t0 ht0 => ?_⟩
    have k0 := same_new (o := .tup [nt t, V.ref b]) ht0
    refine ⟨t0, _, rfl, SqT.of upd_same, rfl, _, _, rfl, _, rfl, a, _, dx, [], rfl, k0 _ _ ha, rc.cls, rc.na _ (by decide), by decide, _, _, rfl, _, rfl, a, _, dx, _, rfl, upd_same, rc.cls, rc.na _ (by decide), (show (1 : Nat) < 1000 by decide), rfl, ?_⟩
    have kS : SameB a H (upd (upd (upd H t0 (.tup [nt t, V.ref b])) a (.ins (He.ga K "Words") dx (putF "_letters" (nt t) []))) a (.ins (He.ga K "Words") dx (putF "_base" (.ref b) (putF "_letters" (nt t) [])))) := (Same.but k0).trans (sameB_upd.trans sameB_upd)
    have hA := upd_same (H := upd (upd H t0 (.tup [nt t, V.ref b])) a (.ins (He.ga K "Words") dx (putF "_letters" (nt t) []))) (a := a) (o := .ins (He.ga K "Words") dx (putF "_base" (.ref b) (putF "_letters" (nt t) [])))
    have hl : (putF "_base" (V.ref b) (putF "_letters" (nt t) [])).length < 900 := (show (2 : Nat) < 900 by decide)
    have o1 := o.sameB ne kS
    refine rd_pick o1 rfl rfl ?_
    refine jsB (B := txB (dep rb)) (i := (t : Int)) (by decide) (by decide) (by decide) (txB_3 hd) (by omega) (fun k q => ⟨_, rfl, q⟩) (fun k q => rd_text o1 rfl q) fun out hout => ?_
    refine rd_key o1 rfl ⟨lnb rfl, fun kp hkp => ?_⟩
    have k1 := same_new (o := .tup [V.str out, keyb]) hkp
    have o2 := o1.same k1
    refine ⟨a, _, dx, _, rfl, k1 _ _ hA, sup_of (c_sup_Words_Words z.c), ?_⟩
    refine ⟨_, rfl, ?_⟩
    refine rd_ones o2 rfl ⟨_, rfl, rd_ones o2 rfl ⟨lnb rfl, fun p hp => ?_⟩⟩
    have k2 := same_new (o := .tup [nt (num rb).o, nt (if t = 1 then (num rb).s else (num rb).o), nt (num rb).o]) hp
    have o3 := o2.same k2
    refine rd_inv o3 rfl ?_
    refine ⟨_, rfl, [rb], ⟨o3.ob, trivial⟩, (fun h => by cases h), Nat.le_of_ble_eq_true rfl, mx1 hd, fun H' k3 => ?_⟩
    rw [mx1e]
    exact fin_init (r := .words t rb) (fun H' kk _ _ o => q H' kk o.ob) (kS.trans (Same.but (k1.trans (k2.trans k3)))) (k3 _ _ (k2 _ _ (k1 _ _ hA))) rc hl (k3 _ _ (k2 _ _ upd_same)) (k3 _ _ upd_same) (o3.same k3).ip (txB_up (by omega) (JM.dep_pos rb)) rfl trivial wf
/-! ### Quaternions -/
def GQuaternions (K : PySem.W.Frag) : List V → Hp → RS → Prop := fun us H r => ∃ b rb, us = [.ref b] ∧ r = .quat rb ∧ ROb K H b rb ∧ dep rb ≤ 3 ∧ JM.wf (.quat rb)
theorem sc_Quaternions : NdefX.NScope ["self", "base", "__class__", "depth", "ones", "swaps"] ["self", "base"] ["__class__"] dMQuaternions_init.scope := NdefX.nscope_by (by decide +kernel)
theorem m_Quaternions (z : Z K mg base) : FnR PW w K mg base CX0 4 (He.ma K (He.ga K "Quaternions") "__init__") (spIni K "Quaternions" (GQuaternions K)) := by
  refine fn_super (j := 0) (f_MQuaternions_init z.c) (c_cell_Quaternions z.c) sc_Quaternions (fun vs H Q E h => ?_) rfl (fun dV _ _ _ _ _ _ _ us hl hd _ => by cases hd rfl; exact (match us, hl with | [_, _], _ => .inl rfl)) fun cc cda A outer s H vs Q E SE hr h => ?_
  · obtain ⟨a, dx, us, r, rfl, _, ⟨b, rb, rfl, rfl, ⟨Cb, dxb, fsb, pb, qb, keyb, txtb, o⟩, hd, wf⟩, _⟩ := h; rfl
  · obtain ⟨a, dx, us, r, rfl, ha, ⟨b, rb, rfl, rfl, ⟨Cb, dxb, fsb, pb, qb, keyb, txtb, o⟩, hd, wf⟩, q⟩ := h
    obtain ⟨oc, od, osl, fd, hf, hpar⟩ := SE.fn
    obtain ⟨ccl, cdd, vs, ccs, tf, file, hcode, hvs, hfile⟩ := SE.code
    obtain ⟨cl, cld, csl, hcell⟩ := SE.cell
    obtain ⟨tM, hM⟩ := z.most
    have GIB : GF PW w K mg base 2 "in_bounds" spInB := g_in_bounds z
    have GBA : GF PW w K mg base 1 "based" (spBased K) := g_based z
    have GSH : GF PW w K mg base 3 "shallow" (spShal K) := g_shallow z
    have GGC : GF PW w K mg base 1 "gcd" spGcd := g_gcd z
    have GMU : GF PW w K mg base 2 "multiple" spMul := g_multiple z
    have GRA : GF PW w K mg base 3 "radical" spRad := g_radical z
    have GBO : GF PW w K mg base 3 "inverses_of_both" spBoth := g_iboth z
    have rc := rcls_of (c_rc_Quaternions z.c)
    refine ⟨_, (psA_cons (ps_expr (pe_cf GBA (hr.mono (by decide)) (by rfl) pass0 (pa_cons (pv 1) pa_nil)))
      ((psA_cons (ps_set (i := 3) sc_Quaternions.nd rfl (.inl rfl) (pe_cf GSH (hr.mono (by decide)) (by rfl) pass0 (pa_cons (pv 1) pa_nil)))
      ((psA_cons (ps_if (pt_cmpR op_ne (pe_pr (p := pG K "swaps") (pv 1) (m_swaps z) (hr.mono (by decide)) pass0) pe_int (nomark _)) (pss_one ps_never) pss_nil)
      ((psA_cons (ps_fld (pv 0) (pv 1) rfl)
      ((psA_cons (ps_set (i := 4) sc_Quaternions.nd rfl (.inl rfl) (pe_pr (p := pG K "ones") (pv 1) (m_ones z) (hr.mono (by decide)) pass0))
      ((psA_cons (ps_set (i := 5) sc_Quaternions.nd rfl (.inl rfl) (pe_ifExp (pt_cmpR op_gt (pv 4) pe_int (nomark _)) (pe_op op_fdivN (pv 4) (pe_cf GGC (hr.mono (by decide)) (by rfl) pass0 (pa_cons (pv 4) (pa_cons pe_int pa_nil)))) pe_int))
      (psA_super hf rfl rfl hcode hvs hfile rfl hcell (c_sup0 z.c) (by rw [hpar]; rfl) rfl rfl rfl rfl rfl (by kernel_rfl) (c_fni_Ring_init z.c) (m_rinit z) (hr.mono (by decide)) pass0 (fn_type (c_fn_Ring_init z.c))
      (pa_cons (pe_tup (pa_cons (pe_joined (.cons pe_str (.cons (pe_fmt (pe_me0 (pl := _) (pv 1) (m_text z) (hr.mono (by decide)) pass0)) (.cons pe_str .nil)))) (pa_cons (pe_fld (pv 1) rfl) pa_nil))) (pa_cons (pe_tup (pa_cons (pv 4) (pa_cons (pv 5) (pa_cons (pv 4) pa_nil)))) (pa_cons (pe_fld (pv 1) rfl) (pa_cons (pv 3) pa_nil)))) (psA_of pss_nil) (pl := _))))))))))))), ?_⟩
    have ne := o.ne ha
    refine ⟨_, rfl, b, rb, rfl, o.ob, ?_⟩
    refine ⟨_, rfl, [rb], ⟨o.ob, trivial⟩, (fun h => by cases h), Nat.le_of_ble_eq_true rfl, mx1 hd, fun H1 k0 => ?_⟩
    rw [mx1e]
    have o0 := o.same k0
    refine rd_swaps o0 rfl ⟨rfl, _, rfl, iteNS (c := nt (num rb).s = V.int 1) (by rw [wf.1] <;> rfl) ?_⟩
    refine ⟨_, rfl, _, rfl, a, _, dx, [], rfl, k0 _ _ ha, rc.cls, rc.na _ (by decide), by decide, ?_⟩
    have kS : SameB a H (upd H1 a (.ins (He.ga K "Quaternions") dx (putF "_base" (.ref b) []))) := (Same.but k0).trans sameB_upd
    have hA := upd_same (H := H1) (a := a) (o := .ins (He.ga K "Quaternions") dx (putF "_base" (.ref b) []))
    have hl : (putF "_base" (V.ref b) []).length < 900 := (show (1 : Nat) < 900 by decide)
    have o1 := o.sameB ne kS
    have hb : (num rb).o ≤ 2 ^ 24 := (JM.num_29 wf.2 hd).o
    refine rd_ones o1 rfl ?_
    refine rd_half (n := (num rb).o) (by omega) rfl ?_
    refine ⟨a, _, dx, _, rfl, hA, sup_of (c_sup_Quaternions_Quaternions z.c), ?_⟩
    refine jsA (B := txB (dep rb)) (by decide) (by decide) (txB_3 hd) (fun k q => rd_text o1 rfl q) fun out hout => ?_
    refine rd_key o1 rfl ⟨lnb rfl, fun kp hkp => ?_⟩
    have k1 := same_new (o := .tup [V.str out, keyb]) hkp
    have o2 := o1.same k1
    refine ⟨_, rfl, _, rfl, _, rfl, lnb rfl, fun p hp => ?_⟩
    have k2 := same_new (o := .tup [nt (num rb).o, nt (if 0 < (num rb).o then (num rb).o / Nat.gcd (num rb).o 2 else 0), nt (num rb).o]) hp
    have o3 := o2.same k2
    refine rd_inv o3 rfl ?_
    refine ⟨_, rfl, ?_⟩
    exact fin_init (r := .quat rb) (fun H' kk _ _ o => q H' kk o.ob) (kS.trans (Same.but (k1.trans k2))) (k2 _ _ (k1 _ _ hA)) rc hl (k2 _ _ upd_same) upd_same o3.ip (txB_up (by omega) (JM.dep_pos rb)) rfl trivial wf
theorem mx2 {r r' : RS} (h : dep r ≤ 3) (h' : dep r' ≤ 3) : mxD [r, r'] ≤ 3 := by show max (dep r) (max (dep r') 0) ≤ 3; omega
theorem mx2e {r r' : RS} : 1 + mxD [r, r'] = 1 + max (dep r) (dep r') := by show 1 + max (dep r) (max (dep r') 0) = 1 + max (dep r) (dep r'); omega
/-! ### Pairs -/
def GPairs (K : PySem.W.Frag) : List V → Hp → RS → Prop := fun us H r => ∃ (b : Addr) (rb : RS) (b' : Addr) (rb' : RS), us = [.ref b, .ref b'] ∧ r = .pairs rb rb' ∧ ROb K H b rb ∧ ROb K H b' rb' ∧ dep rb ≤ 3 ∧ dep rb' ≤ 3 ∧ JM.wf (.pairs rb rb')
theorem sc_Pairs : NdefX.NScope ["self", "one", "other", "__class__", "numbers", "key"] ["self", "one", "other"] ["__class__"] dMPairs_init.scope := NdefX.nscope_by (by decide +kernel)
theorem m_Pairs (z : Z K mg base) : FnR PW w K mg base CX0 4 (He.ma K (He.ga K "Pairs") "__init__") (spIni K "Pairs" (GPairs K)) := by
  refine fn_super (j := 0) (f_MPairs_init z.c) (c_cell_Pairs z.c) sc_Pairs (fun vs H Q E h => ?_) rfl (fun dV _ _ _ _ _ _ _ us hl hd _ => by cases hd rfl; exact (match us, hl with | [_, _, _], _ => .inl rfl)) fun cc cda A outer s H vs Q E SE hr h => ?_
  · obtain ⟨a, dx, us, r, rfl, _, ⟨b, rb, b', rb', rfl, rfl, ⟨Cb, dxb, fsb, pb, qb, keyb, txtb, o⟩, ⟨Cb', dxb', fsb', pb', qb', keyb', txtb', o'⟩, hd, hd', wf⟩, _⟩ := h; rfl
  · obtain ⟨a, dx, us, r, rfl, ha, ⟨b, rb, b', rb', rfl, rfl, ⟨Cb, dxb, fsb, pb, qb, keyb, txtb, o⟩, ⟨Cb', dxb', fsb', pb', qb', keyb', txtb', o'⟩, hd, hd', wf⟩, q⟩ := h
    obtain ⟨oc, od, osl, fd, hf, hpar⟩ := SE.fn
    obtain ⟨ccl, cdd, vs, ccs, tf, file, hcode, hvs, hfile⟩ := SE.code
    obtain ⟨cl, cld, csl, hcell⟩ := SE.cell
    obtain ⟨tM, hM⟩ := z.most
    have GIB : GF PW w K mg base 2 "in_bounds" spInB := g_in_bounds z
    have GBA : GF PW w K mg base 1 "based" (spBased K) := g_based z
    have GSH : GF PW w K mg base 3 "shallow" (spShal K) := g_shallow z
    have GGC : GF PW w K mg base 1 "gcd" spGcd := g_gcd z
    have GMU : GF PW w K mg base 2 "multiple" spMul := g_multiple z
    have GRA : GF PW w K mg base 3 "radical" spRad := g_radical z
    have GBO : GF PW w K mg base 3 "inverses_of_both" spBoth := g_iboth z
    have rc := rcls_of (c_rc_Pairs z.c)
    refine ⟨_, (psA_cons (ps_expr (pe_cf GBA (hr.mono (by decide)) (by rfl) pass0 (pa_cons (pv 1) pa_nil)))
      ((psA_cons (ps_expr (pe_cf GBA (hr.mono (by decide)) (by rfl) pass0 (pa_cons (pv 2) pa_nil)))
      ((psA_cons (ps_asg (pe_tup (pa_cons (pv 1) (pa_cons (pv 2) pa_nil))) (pg_tup rfl (pgs_cons (pg_fld (f := "_one") (pv 0)) (pgs_cons (pg_fld (f := "_other") (pv 0)) pgs_nil))))
      ((psA_cons (ps_set (i := 4) sc_Pairs.nd rfl (.inl rfl) (pe_tup (pa_cons (pe_cf GMU (hr.mono (by decide)) (by rfl) pass0 (pa_cons (pe_pr (p := pG K "ones") (pv 1) (m_ones z) (hr.mono (by decide)) pass0) (pa_cons (pe_pr (p := pG K "ones") (pv 2) (m_ones z) (hr.mono (by decide)) pass0) pa_nil))) (pa_cons (pe_cf GMU (hr.mono (by decide)) (by rfl) pass0 (pa_cons (pe_pr (p := pG K "swaps") (pv 1) (m_swaps z) (hr.mono (by decide)) pass0) (pa_cons (pe_pr (p := pG K "swaps") (pv 2) (m_swaps z) (hr.mono (by decide)) pass0) pa_nil))) (pa_cons (pe_cf GMU (hr.mono (by decide)) (by rfl) pass0 (pa_cons (pe_pr (p := pG K "squares") (pv 1) (m_squares z) (hr.mono (by decide)) pass0) (pa_cons (pe_pr (p := pG K "squares") (pv 2) (m_squares z) (hr.mono (by decide)) pass0) pa_nil))) pa_nil)))))
      ((psA_cons (ps_set (i := 5) sc_Pairs.nd rfl (.inl rfl) (pe_tup (pa_cons (pe_joined (.cons pe_str (.cons (pe_fmt (pe_me0 (pl := _) (pv 1) (m_text z) (hr.mono (by decide)) pass0)) (.cons pe_str (.cons (pe_fmt (pe_me0 (pl := _) (pv 2) (m_text z) (hr.mono (by decide)) pass0)) (.cons pe_str .nil)))))) (pa_cons (pe_fld (pv 1) rfl) (pa_cons (pe_fld (pv 2) rfl) pa_nil)))))
      (psA_super hf rfl rfl hcode hvs hfile rfl hcell (c_sup0 z.c) (by rw [hpar]; rfl) rfl rfl rfl rfl rfl (by kernel_rfl) (c_fni_Ring_init z.c) (m_rinit z) (hr.mono (by decide)) pass0 (fn_type (c_fn_Ring_init z.c))
      (pa_cons (pv 5) (pa_cons (pv 4) (pa_cons (pe_cf GBO (hr.mono (by decide)) (by rfl) pass0 (pa_cons (pe_fld (pv 1) rfl) (pa_cons (pe_fld (pv 2) rfl) pa_nil))) (pa_cons (pe_cf GSH (hr.mono (by decide)) (by rfl) pass0 (pa_cons (pv 1) (pa_cons (pv 2) pa_nil))) pa_nil)))) (psA_of pss_nil) (pl := _))))))))))), ?_⟩
    have ne := o.ne ha
    have ne' := o'.ne ha
    have bd := JM.num_29 wf.1 hd
    have bd' := JM.num_29 wf.2 hd'
    have m0 := (JM.num_ok wf.1).m0
    have m0' := (JM.num_ok wf.2).m0
    have B1 := bd.o
    have B2 := bd.s
    have B3 := bd.t
    have B4 := bd.m
    have B1' := bd'.o
    have B2' := bd'.s
    have B3' := bd'.t
    have B4' := bd'.m
    refine ⟨_, rfl, b, rb, rfl, o.ob, ?_⟩
    refine ⟨_, rfl, b', rb', rfl, o'.ob, ?_⟩
    refine ⟨_, rfl, _, rfl, lnb rfl, fun t0 ht0 => ?_⟩
    have k0 := same_new (o := .tup [V.ref b, V.ref b']) ht0
    refine ⟨t0, _, rfl, SqT.of upd_same, rfl, _, _, rfl, _, rfl, a, _, dx, [], rfl, k0 _ _ ha, rc.cls, rc.na _ (by decide), by decide, _, _, rfl, _, rfl, a, _, dx, _, rfl, upd_same, rc.cls, rc.na _ (by decide), (show (1 : Nat) < 1000 by decide), rfl, ?_⟩
    have kS : SameB a H (upd (upd (upd H t0 (.tup [V.ref b, V.ref b'])) a (.ins (He.ga K "Pairs") dx (putF "_one" (.ref b) []))) a (.ins (He.ga K "Pairs") dx (putF "_other" (.ref b') (putF "_one" (.ref b) [])))) := (Same.but k0).trans (sameB_upd.trans sameB_upd)
    have hA := upd_same (H := upd (upd H t0 (.tup [V.ref b, V.ref b'])) a (.ins (He.ga K "Pairs") dx (putF "_one" (.ref b) []))) (a := a) (o := .ins (He.ga K "Pairs") dx (putF "_other" (.ref b') (putF "_one" (.ref b) [])))
    have hl : (putF "_other" (V.ref b') (putF "_one" (V.ref b) [])).length < 900 := (show (2 : Nat) < 900 by decide)
    have o1 := o.sameB ne kS
    have o1' := o'.sameB ne' kS
    refine rd_ones o1 rfl (rd_ones o1' rfl ⟨_, _, rfl, by omega, by omega, fun H2 k2 => ?_⟩)
    have o2 := o1.same k2
    have o2' := o1'.same k2
    refine rd_swaps o2 rfl (rd_swaps o2' rfl ⟨_, _, rfl, by omega, by omega, fun H3 k3 => ?_⟩)
    have o3 := o2.same k3
    have o3' := o2'.same k3
    refine rd_squares o3 rfl (rd_squares o3' rfl ⟨_, _, rfl, by omega, by omega, fun H4 k4 => ⟨lnb rfl, fun p hp => ?_⟩⟩)
    have k5 := same_new (o := .tup [nt (Nat.lcm (num rb).o (num rb').o), nt (Nat.lcm (num rb).s (num rb').s), nt (Nat.lcm (num rb).t (num rb').t)]) hp
    have o5 := (o3.same k4).same k5
    have o5' := (o3'.same k4).same k5
    refine jsD (B := txB (max (dep rb) (dep rb'))) (by decide) (by decide) (by decide) (txB_3 (by omega)) (fun k q => rd_text o5 rfl fun t ht => q t (Nat.le_trans ht (txB_mono (Nat.le_max_left _ _)))) (fun k q => rd_text o5' rfl fun t ht => q t (Nat.le_trans ht (txB_mono (Nat.le_max_right _ _)))) fun out hout => ?_
    refine rd_key o5 rfl (rd_key o5' rfl ⟨lnb rfl, fun kp hkp => ?_⟩)
    have k6 := same_new (o := .tup [V.str out, keyb, keyb']) hkp
    have o6 := o5.same k6
    have o6' := o5'.same k6
    refine ⟨a, _, dx, _, rfl, k6 _ _ (k5 _ _ (k4 _ _ (k3 _ _ (k2 _ _ hA)))), sup_of (c_sup_Pairs_Pairs z.c), ?_⟩
    refine ⟨_, rfl, _, rfl, ?_⟩
    dsimp only [tCons, tCR, tNil]
    refine rd_inv o6 rfl ?_
    refine rd_inv o6' rfl ?_
    refine ⟨qb, qb', _, _, _, _, rfl, o6.ip, o6'.ip, m0, by omega, m0', by omega, fun u H7 k7 hu => ?_⟩
    have o7 := o6.same k7
    have o7' := o6'.same k7
    refine ⟨_, rfl, _, rfl, [rb, rb'], ⟨o7.ob, o7'.ob, trivial⟩, (fun h => by cases h), Nat.le_of_ble_eq_true rfl, mx2 hd hd', fun H8 k8 => ?_⟩
    rw [mx2e]
    exact fin_init (r := .pairs rb rb') (fun H' kk _ _ o => q H' kk o.ob) (kS.trans (Same.but (k2.trans (k3.trans (k4.trans (k5.trans (k6.trans (k7.trans k8)))))))) (k8 _ _ (k7 _ _ (k6 _ _ (k5 _ _ (k4 _ _ (k3 _ _ (k2 _ _ hA))))))) rc hl (k8 _ _ (k7 _ _ upd_same)) (k8 _ _ (k7 _ _ (k6 _ _ upd_same))) (k8 _ _ hu) (txB_up (by omega) (Nat.le_trans (JM.dep_pos rb) (Nat.le_max_left _ _))) rfl trivial wf
/-! ### Duals, for itself and for Roots -/
def spDual (K : PySem.W.Frag) : Sp := fun vs H Q _ => ∃ (a C dx b : Addr) (rb : RS), vs = [.ref a, .ref b] ∧ H a = some (.ins C dx []) ∧ RCls K C ∧ Sup K C (He.ga K "Duals") (He.ma K (He.ga K "Ring") "__init__") ∧ ROb K H b rb ∧ dep rb ≤ 3 ∧ JM.wf (.dual rb) ∧
  ∀ H', SameB a H H' → ∀ fs p i k txt, RO K H' a C dx fs p i k txt (.dual rb) → fs.length < 950 → Q .non H'
theorem sc_Duals : NdefX.NScope ["self", "base", "__class__", "key"] ["self", "base"] ["__class__"] dMDuals_init.scope := NdefX.nscope_by (by decide +kernel)
theorem m_dual (z : Z K mg base) : FnR PW w K mg base CX0 4 (He.ma K (He.ga K "Duals") "__init__") (spDual K) := by
  refine fn_super (j := 0) (f_MDuals_init z.c) (c_cell_Duals z.c) sc_Duals (fun vs H Q E h => ?_) rfl (fun dV _ _ _ _ _ _ _ us hl hd _ => by cases hd rfl; exact (match us, hl with | [_, _], _ => .inl rfl)) fun cc cda A outer s H vs Q E SE hr h => ?_
  · obtain ⟨a, C, dx, b, rb, rfl, _⟩ := h; rfl
  · obtain ⟨a, C, dx, b, rb, rfl, ha, rc, su, ⟨Cb, dxb, fsb, pb, qb, keyb, txtb, o⟩, hd, wf, q⟩ := h
    obtain ⟨oc, od, osl, fd, hf, hpar⟩ := SE.fn
    obtain ⟨ccl, cdd, vs, ccs, tf, file, hcode, hvs, hfile⟩ := SE.code
    obtain ⟨cl, cld, csl, hcell⟩ := SE.cell
    have GBA : GF PW w K mg base 1 "based" (spBased K) := g_based z
    have GSH : GF PW w K mg base 3 "shallow" (spShal K) := g_shallow z
    refine ⟨_, (psA_cons (ps_expr (pe_cf GBA (hr.mono (by decide)) (by rfl) pass0 (pa_cons (pv 1) pa_nil)))
      ((psA_cons (ps_asg (pe_tup (pa_cons (pv 1) (pa_cons pe_int pa_nil))) (pg_tup rfl (pgs_cons (pg_fld (f := "_base") (pv 0)) (pgs_cons (pg_fld (f := "_square") (pv 0)) pgs_nil))))
      ((psA_cons (ps_set (i := 3) sc_Duals.nd rfl (.inl rfl) (pe_tup (pa_cons (pe_joined (.cons pe_str (.cons (pe_fmt (pe_me0 (pl := _) (pv 1) (m_text z) (hr.mono (by decide)) pass0)) (.cons pe_str .nil)))) (pa_cons (pe_fld (pv 1) rfl) pa_nil))))
      (psA_super hf rfl rfl hcode hvs hfile rfl hcell (c_sup0 z.c) (by rw [hpar]; rfl) rfl rfl rfl rfl rfl (by kernel_rfl) (c_fni_Ring_init z.c) (m_rinit z) (hr.mono (by decide)) pass0 (fn_type (c_fn_Ring_init z.c))
      (pa_cons (pv 3) (pa_cons (pe_tup (pa_cons (pe_pr (p := pG K "ones") (pv 1) (m_ones z) (hr.mono (by decide)) pass0) (pa_cons (pe_pr (p := pG K "swaps") (pv 1) (m_swaps z) (hr.mono (by decide)) pass0) (pa_cons (pe_pr (p := pG K "ones") (pv 1) (m_ones z) (hr.mono (by decide)) pass0) pa_nil)))) (pa_cons (pe_fld (pv 1) rfl) (pa_cons (pe_cf GSH (hr.mono (by decide)) (by rfl) pass0 (pa_cons (pv 1) pa_nil)) pa_nil)))) (psA_of pss_nil) (pl := _))))))), ?_⟩
    have ne := o.ne ha
    refine ⟨_, rfl, b, rb, rfl, o.ob, ?_⟩
    refine ⟨_, rfl, lnb rfl, fun t0 ht0 => ?_⟩
    have k0 := same_new (o := .tup [V.ref b, V.int 0]) ht0
    refine ⟨t0, _, rfl, SqT.of upd_same, rfl, _, _, rfl, _, rfl, a, _, dx, [], rfl, k0 _ _ ha, rc.cls, rc.na _ (by decide), by decide, _, _, rfl, _, rfl, a, _, dx, _, rfl, upd_same, rc.cls, rc.na _ (by decide), (show (1 : Nat) < 1000 by decide), rfl, ?_⟩
    have kS : SameB a H (upd (upd (upd H t0 (.tup [V.ref b, V.int 0])) a (.ins C dx (putF "_base" (.ref b) []))) a (.ins C dx (putF "_square" (.int 0) (putF "_base" (.ref b) [])))) := (Same.but k0).trans (sameB_upd.trans sameB_upd)
    have hA := upd_same (H := upd (upd H t0 (.tup [V.ref b, V.int 0])) a (.ins C dx (putF "_base" (.ref b) []))) (a := a) (o := .ins C dx (putF "_square" (.int 0) (putF "_base" (.ref b) [])))
    have hl : (putF "_square" (V.int 0) (putF "_base" (V.ref b) [])).length < 900 := (show (2 : Nat) < 900 by decide)
    have o1 := o.sameB ne kS
    refine jsA (B := txB (dep rb)) (by decide) (by decide) (txB_3 hd) (fun k q => rd_text o1 rfl q) fun out hout => ?_
    refine rd_key o1 rfl ⟨lnb rfl, fun kp hkp => ?_⟩
    have k1 := same_new (o := .tup [V.str out, keyb]) hkp
    have o2 := o1.same k1
    refine ⟨a, _, dx, _, rfl, k1 _ _ hA, su, ?_⟩
    refine ⟨_, rfl, ?_⟩
    refine (rd_ones o2 rfl (rd_swaps o2 rfl (rd_ones o2 rfl ⟨lnb rfl, fun p hp => ?_⟩)))
    have k2 := same_new (o := .tup [nt (num rb).o, nt (num rb).s, nt (num rb).o]) hp
    have o3 := o2.same k2
    refine rd_inv o3 rfl ?_
    refine ⟨_, rfl, [rb], ⟨o3.ob, trivial⟩, (fun h => by cases h), Nat.le_of_ble_eq_true rfl, mx1 hd, fun H' k3 => ?_⟩
    rw [mx1e]
    exact fin_init (r := .dual rb) (fun H' kk fs2 e o => q H' kk _ _ _ _ _ o (by rw [e]; exact (show (7 : Nat) < 950 by decide))) (kS.trans (Same.but (k1.trans (k2.trans k3)))) (k3 _ _ (k2 _ _ (k1 _ _ hA))) rc hl (k3 _ _ (k2 _ _ upd_same)) (k3 _ _ upd_same) (o3.same k3).ip (txB_up (by omega) (JM.dep_pos rb)) rfl trivial wf
def GDuals (K : PySem.W.Frag) : List V → Hp → RS → Prop := fun us H r => ∃ b rb, us = [.ref b] ∧ r = .dual rb ∧ ROb K H b rb ∧ dep rb ≤ 3 ∧ JM.wf (.dual rb)
theorem m_Duals (z : Z K mg base) : FnR PW w K mg base CX0 4 (He.ma K (He.ga K "Duals") "__init__") (spIni K "Duals" (GDuals K)) := by
  refine FnR.imp (m_dual z) ?_
  rintro vs H Q E ⟨a, dx, us, r, rfl, ha, ⟨b, rb, rfl, rfl, ob, hd, wf⟩, q⟩
  exact ⟨a, _, dx, b, rb, rfl, ha, rcls_of (c_rc_Duals z.c), sup_of (c_sup_Duals_Duals z.c), ob, hd, wf, fun H' k fs p i kk txt o _ => q H' k o.ob⟩
/-! ### Roots -/
def GRoots (K : PySem.W.Frag) : List V → Hp → RS → Prop := fun us H r => ∃ (i : Int) (b : Addr) (rb : RS), us = [.int i, .ref b] ∧ r = .root i rb ∧ ROb K H b rb ∧ dep rb ≤ 3 ∧ JM.wf (.root i rb)
theorem sc_Roots : NdefX.NScope ["self", "square", "base", "__class__"] ["self", "square", "base"] ["__class__"] dMRoots_init.scope := NdefX.nscope_by (by decide +kernel)
theorem m_Roots (z : Z K mg base) : FnR PW w K mg base CX0 5 (He.ma K (He.ga K "Roots") "__init__") (spIni K "Roots" (GRoots K)) := by
  refine fn_super (j := 0) (f_MRoots_init z.c) (c_cell_Roots z.c) sc_Roots (fun vs H Q E h => ?_) rfl (fun dV _ _ _ _ _ _ _ us hl hd _ => by cases hd rfl; exact (match us, hl with | [_, _, _], _ => .inl rfl)) fun cc cda A outer s H vs Q E SE hr h => ?_
  · obtain ⟨a, dx, us, r, rfl, _, ⟨i, b, rb, rfl, _⟩, _⟩ := h; rfl
  · obtain ⟨a, dx, us, r, rfl, ha, ⟨i, b, rb, rfl, rfl, ⟨Cb, dxb, fsb, pb, qb, keyb, txtb, o⟩, hd, wf⟩, q⟩ := h
    obtain ⟨oc, od, osl, fd, hf, hpar⟩ := SE.fn
    obtain ⟨ccl, cdd, vs, ccs, tf, file, hcode, hvs, hfile⟩ := SE.code
    obtain ⟨cl, cld, csl, hcell⟩ := SE.cell
    have GIB : GF PW w K mg base 2 "in_bounds" spInB := g_in_bounds z
    have rc := rcls_of (c_rc_Roots z.c)
    have w1 := wf.1.1
    have w2 := wf.1.2
    have ne := o.ne ha
    refine ⟨_, psA_cons (ps_if (pt_not (pt_val (pe_cf GIB (hr.mono (by decide)) (by rfl) pass0 (pa_cons (pv 1) (pa_cons (pe_un un_neg pe_int) (pa_cons pe_int pa_nil)))))) (pss_one ps_never) pss_nil)
      (psA_super hf rfl rfl hcode hvs hfile rfl hcell (c_sup0 z.c) (by rw [hpar]; rfl) rfl rfl rfl rfl rfl (by kernel_rfl) (c_fni_Duals_init z.c) (m_dual z) hr pass0 (fn_type (c_fn_Duals_init z.c))
      (pa_cons (pv 2) pa_nil) (psA_of (pss_cons (ps_fld (pv 0) (pv 1) rfl) (pss_cons (ps_fld (pv 0) (pe_joined (.cons pe_str (.cons (pe_fmt (pv 1)) (.cons pe_str (.cons (pe_fmt (pe_me0 (pl := _) (pv 2) (m_text z) (hr.mono (by decide)) pass0)) (.cons pe_str .nil)))))) rfl) (pss_one (ps_fld (pv 0) (pe_tup (pa_cons (pe_fld (pv 0) rfl) (pa_cons (pe_fld (pv 2) rfl) pa_nil))) rfl))))) (pl := _)), ?_⟩
    refine ⟨_, rfl, _, rfl, _, _, _, rfl, _, rfl, iteNS ⟨by omega, by omega⟩ ?_⟩
    refine ⟨a, _, dx, [], rfl, ha, sup_of (c_sup_Roots_Roots z.c), ?_⟩
    refine ⟨_, rfl, a, _, dx, b, rb, rfl, ha, rc, sup_of (c_sup_Roots_Duals z.c), o.ob, hd, wf.2, fun H1 k1 fs p j k txt oa hl => ?_⟩
    have o1 := o.sameB ne k1
    have l1 := length_putF "_square" (.int i) fs
    have o2 := o1.sameB ne (sameB_upd (o := .ins (He.ga K "Roots") dx (putF "_square" (.int i) fs)))
    refine ⟨_, rfl, _, rfl, a, _, dx, _, rfl, oa.at_, rc.cls, rc.na _ (by decide), by omega, ?_⟩
    refine jsB (B := txB (dep rb)) (i := i) (by decide) (by decide) (by decide) (txB_3 hd) (by omega) (fun k q => ⟨_, rfl, q⟩) (fun k q => rd_text o2 rfl q) fun out hout => ?_
    have l2 := length_putF "_text" (.str out) (putF "_square" (.int i) fs)
    refine ⟨_, rfl, a, _, dx, _, rfl, upd_same, rc.cls, rc.na _ (by decide), by omega, ?_⟩
    have o3 := o2.sameB ne (sameB_upd (o := .ins (He.ga K "Roots") dx (putF "_text" (.str out) (putF "_square" (.int i) fs))))
    refine ⟨_, rfl, a, _, dx, _, .str out, rfl, upd_same, rc.cls, rc.na _ (by decide), by rw [lookup_putF, if_pos rfl], ?_⟩
    refine rd_key o3 rfl ⟨lnb rfl, fun kp hkp => ?_⟩
    have k4 := same_new (o := .tup [V.str out, keyb]) hkp
    refine ⟨_, rfl, a, _, dx, _, rfl, k4 _ _ upd_same, rc.cls, rc.na _ (by decide), by omega, ?_⟩
    have kF := (sameB_upd (a := a) (H := H1) (o := .ins (He.ga K "Roots") dx (putF "_square" (.int i) fs))).trans (sameB_upd.trans ((Same.but k4).trans (sameB_upd (o := .ins (He.ga K "Roots") dx (putF "_key" (.ref kp) (putF "_text" (.str out) (putF "_square" (.int i) fs)))))))
    have pn : p ≠ a := fun e => by have h := oa.np; rw [e, oa.at_] at h; cases h
    have jn : j ≠ a := fun e => by have h := oa.ip; rw [e, oa.at_] at h; cases h
    refine q _ (k1.trans kF) ⟨_, dx, _, p, j, .ref kp, out, upd_same, rc, ?_, kF _ _ pn oa.np, ?_, kF _ _ jn oa.ip, ?_, ?_, ?_, ?_, ?_, trivial, wf⟩
    · rw [lookup_putF, if_neg (by decide), lookup_putF, if_neg (by decide), lookup_putF, if_neg (by decide)]; exact oa.n
    · rw [lookup_putF, if_neg (by decide), lookup_putF, if_neg (by decide), lookup_putF, if_neg (by decide)]; exact oa.i
    · rw [lookup_putF, if_neg (by decide), lookup_putF, if_neg (by decide), lookup_putF, if_neg (by decide)]; exact oa.d
    · rw [lookup_putF, if_neg (by decide), lookup_putF, if_pos rfl]
    · exact txB_up (by omega) (JM.dep_pos rb)
    · rw [lookup_putF, if_pos rfl]
    · rw [lookup_putF, if_neg (by decide), lookup_putF, if_neg (by decide), lookup_putF, if_neg (by decide)]; exact oa.nt_
end
end J

/-! realms: checked, settled, joined, lies_within -/
namespace J
open PySem PySem.Spec PyProof.Rows L2
open JM (N4 NF)
def n4V (a : N4) : List V := [nt a.i, nt a.o, nt a.s, nt a.t]
section
variable {P : Program} {w : World} {K : PySem.W.Frag} {mg : Str → Option Value} {base : Heap}
/-! ### checked -/
theorem sc_checked : FnScope ["inverse", "ones", "swaps", "squares", "number"] ["inverse", "ones", "swaps", "squares"] dFchecked.scope := ⟨rfl, rfl, rfl, by decide +kernel, rfl, by decide +kernel, by decide +kernel⟩
def spChecked : Sp := fun vs H Q _ => ∃ i o s t : Nat, vs = [nt i, nt o, nt s, nt t] ∧ 1 ≤ i ∧ i ≤ 1000000 ∧ ∀ H', Same H H' → Q .non H'
theorem g_checked (z : Z K mg base) : GF P w K mg base 3 "checked" spChecked := by
  refine gf_of z.c z.x z.g (c_glo_checked z.c) (f_Fchecked z.c) (fn_plain (f_Fchecked z.c) sc_checked (fun vs H Q E h => ?_) (fun _ _ _ _ _ _ us hl => match us, hl with | [_, _, _, _], _ => rfl) fun cdv A outer s H vs Q E hr h => ?_)
  · obtain ⟨i, o, s, t, rfl, _⟩ := h; rfl
  · obtain ⟨i, o, s, t, rfl, h1, h2, q⟩ := h
    have G1 : GF P w K mg base 2 "in_bounds" spInB := g_in_bounds z
    have G2 : GF P w K mg base 1 "is_int" spIsInt := g_is_int z
    obtain ⟨tM, hM⟩ := z.most
    refine ⟨_, pss_cons (ps_if (pt_not (pt_val (pe_cf G1 hr (by rfl) pass0 (pa_cons (pv 0) (pa_cons pe_int (pa_cons (pe_glob (v := .int 1000000) (by rfl) hM ⟨_, rfl⟩) pa_nil)))))) (pss_one ps_never) pss_nil)
      (pss_one (ps_for PassesOwn.never rfl (pi_tup (pe_tup (pa_cons (pv 1) (pa_cons (pv 2) (pa_cons (pv 3) pa_nil))))) (pg_name (i := 4) sc_checked.nd rfl (.inl rfl))
        (pss_one (ps_if (pw_or (pt_not (pt_val (pe_cf G2 (hr.mono (by decide)) (by rfl) pass0 (pa_cons (pv 4) pa_nil)))) (pw_or1 (pt_cmpR op_lt (pv 4) pe_int (nomark _)))).pt (pss_one ps_never) pss_nil)))), ?_⟩
    refine ⟨_, rfl, _, _, _, rfl, _, rfl, iteNS ⟨by omega, by omega⟩ ?_⟩
    refine ⟨_, rfl, _, rfl, _, rfl, lnb rfl, fun p hp => ⟨p, rfl, ⟨_, SqT.of upd_same⟩, ?_⟩⟩
    have k1 := same_new (o := .tup [nt o, nt s, nt t]) hp
    refine for_tup (xs := [nt o, nt s, nt t]) (fun j σ H' => H' = upd H p (.tup [nt o, nt s, nt t]) ∧ ∃ v, σ = [some (nt i), some (nt o), some (nt s), some (nt t), v]) ⟨rfl, none, rfl⟩ (fun j σ H' _ h => by rw [h.1]; exact SqT.of upd_same) ?_ ?_
    · rintro j x σ H' hx ⟨rfl, v, rfl⟩
      obtain ⟨n, rfl⟩ : ∃ n : Nat, x = nt n := by
        match j, hx with
        | 0, hx => exact ⟨o, (Option.some.inj hx).symm⟩
        | 1, hx => exact ⟨s, (Option.some.inj hx).symm⟩
        | 2, hx => exact ⟨t, (Option.some.inj hx).symm⟩
        | j + 3, hx => simp at hx
      refine ⟨_, rfl, _, rfl, _, rfl, iteF ⟨_, rfl, _, _, rfl, rfl, _, rfl, iteDF (by omega) ⟨rfl, _, rfl⟩⟩⟩
    · rintro σ H' ⟨rfl, v, rfl⟩
      exact q _ k1
/-! ### settled -/
theorem sc_settled : FnScope ["inverse", "ones", "swaps", "squares", "first", "third", "second", "numbers"] ["inverse", "ones", "swaps", "squares"] dFsettled.scope := ⟨rfl, rfl, rfl, by decide +kernel, rfl, by decide +kernel, by decide +kernel⟩
def spSettled : Sp := fun vs H Q _ => ∃ n : N4, vs = n4V n ∧ 0 < n.i ∧ n.i < 2 ^ 29 ∧ ∀ p H', Same H H' → H' p = some (.tup (n4V (JM.settled n))) → Q (.ref p) H'
theorem g_settled (z : Z K mg base) : GF P w K mg base 3 "settled" spSettled := by
  refine gf_of z.c z.x z.g (c_glo_settled z.c) (f_Fsettled z.c) (fn_plain (f_Fsettled z.c) sc_settled (fun vs H Q E h => ?_) (fun _ _ _ _ _ _ us hl => match us, hl with | [_, _, _, _], _ => rfl) fun cdv A outer s H vs Q E hr h => ?_)
  · obtain ⟨n, rfl, _⟩ := h; rfl
  · obtain ⟨⟨i, o, s, t⟩, rfl, h1, h2, q⟩ := h
    have h1 : 0 < i := h1
    have h2 : i < 2 ^ 29 := h2
    have G1 : GF P w K mg base 1 "gcd" spGcd := g_gcd z
    have G2 : GF P w K mg base 2 "stripped" spStrip := g_stripped z
    refine ⟨_, pss_cons (ps_set (i := 4) sc_settled.nd rfl (.inl rfl) (pe_cf G1 (hr.mono (by decide)) (by rfl) pass0 (pa_cons (pv 1) (pa_cons (pe_op op_mul pe_int (pv 3)) pa_nil))))
      (pss_cons (ps_set (i := 5) sc_settled.nd rfl (.inl rfl) (pe_cf G1 (hr.mono (by decide)) (by rfl) pass0 (pa_cons (pv 3) (pa_cons (pv 4) pa_nil))))
      (pss_cons (ps_set (i := 6) sc_settled.nd rfl (.inl rfl) (pe_cf G1 (hr.mono (by decide)) (by rfl) pass0 (pa_cons (pv 2) (pa_cons (pv 5) pa_nil))))
      (pss_cons (ps_set (i := 7) sc_settled.nd rfl (.inl rfl) (pe_tup (pa_cons (pe_cf G2 hr (by rfl) pass0 (pa_cons (pv 4) (pa_cons (pv 0) pa_nil))) (pa_cons (pe_cf G2 hr (by rfl) pass0 (pa_cons (pv 6) (pa_cons (pv 0) pa_nil))) (pa_cons (pe_cf G2 hr (by rfl) pass0 (pa_cons (pv 5) (pa_cons (pv 0) pa_nil))) pa_nil)))))
      (pss_one (ps_ret (pe_tup (pa_cons (pe_ifExp (pt_cmpR op_eq (pv 4) pe_int (nomark _)) (pv 0) pe_int) (StX.pa_star (pv 7) pa_nil)))))))), ?_⟩
    have e2 : (2 : Int) * (t : Int) = ((2 * t : Nat) : Int) := by simp
    refine ⟨_, rfl, _, rfl, _, _, rfl, rfl, .inl ⟨by decide, by decide⟩, o, ((2 * t : Nat) : Int), ?_, ?_⟩
    · show [nt o, V.int (2 * (t : Int))] = _
      rw [e2]
    refine ⟨_, rfl, _, rfl, _, _, rfl, ?_⟩
    refine ⟨_, rfl, _, rfl, _, _, rfl, ?_⟩
    have ef : Int.gcd (o : Int) ((2 * t : Nat) : Int) = Nat.gcd o (2 * t) := rfl
    refine ⟨_, rfl, _, rfl, _, i, rfl, h1, h2, _, rfl, _, rfl, _, i, rfl, h1, h2, _, rfl, _, rfl, _, i, rfl, h1, h2, lnb rfl, fun p hp => ?_⟩
    refine ⟨_, rfl, rfl, _, rfl, ?_⟩
    have k1 := same_new (o := .tup [nt (JM.strip (Nat.gcd o (2 * t)) i), nt (JM.strip (Nat.gcd s (Nat.gcd t (Nat.gcd o (2 * t)))) i), nt (JM.strip (Nat.gcd t (Nat.gcd o (2 * t))) i)]) hp
    have fin : ∀ x : Nat, x = (if Nat.gcd o (2 * t) = 0 then i else 1) → ∀ u, upd H p (.tup [nt (JM.strip (Nat.gcd o (2 * t)) i), nt (JM.strip (Nat.gcd s (Nat.gcd t (Nat.gcd o (2 * t)))) i), nt (JM.strip (Nat.gcd t (Nat.gcd o (2 * t))) i)]) u = none →
        Q (.ref u) (upd (upd H p (.tup [nt (JM.strip (Nat.gcd o (2 * t)) i), nt (JM.strip (Nat.gcd s (Nat.gcd t (Nat.gcd o (2 * t)))) i), nt (JM.strip (Nat.gcd t (Nat.gcd o (2 * t))) i)])) u (.tup [nt x, nt (JM.strip (Nat.gcd o (2 * t)) i), nt (JM.strip (Nat.gcd s (Nat.gcd t (Nat.gcd o (2 * t)))) i), nt (JM.strip (Nat.gcd t (Nat.gcd o (2 * t))) i)])) := fun x hx u hu => by
      refine q u _ (k1.trans (same_new hu)) ?_
      rw [upd_same, hx]
      rfl
    rw [dec_zero]
    by_cases e : Nat.gcd o (2 * t) = 0
    · exact iteDT e ⟨_, rfl, _, rfl, p, _, rfl, .inl (SqT.of upd_same), lnb rfl, fin i (by rw [if_pos e])⟩
    · exact iteDF e ⟨_, rfl, p, _, rfl, .inl (SqT.of upd_same), lnb rfl, fin 1 (by rw [if_neg e])⟩
end
end J

/-! realms: joined, lies_within -/
namespace J
open PySem PySem.Spec PyProof.Rows L2
open JM (N4 NF)
section
variable {P : Program} {w : World} {K : PySem.W.Frag} {mg : Str → Option Value} {base : Heap}
abbrev gAB (K : PySem.W.Frag) (i j : Nat) : TG := gTup K 2 (gCons (gName i) (gCons (gName j) gNil))
theorem cut1 {a b c d : V} : cutV [a, b, c, d] (some 1) none = [b, c, d] := rfl
theorem cutne : ¬ (HT.sIx 4 0 (some 1) = 0 ∧ HT.sIx 4 4 none = 4) := by decide
/-! ### joined -/
theorem sc_joined : FnScope ["one", "other", "numbers", "free", "tied", "a", "b"] ["one", "other"] dFjoined.scope := ⟨rfl, rfl, rfl, by decide +kernel, rfl, by decide +kernel, by decide +kernel⟩
def spJoined : Sp := fun vs H Q _ => ∃ (p q : Addr) (a b : N4), vs = [.ref p, .ref q] ∧ H p = some (.tup (n4V a)) ∧ H q = some (.tup (n4V b)) ∧ (a.o < 2 ^ 29 ∧ a.s < 2 ^ 29 ∧ a.t < 2 ^ 29) ∧ (b.o < 2 ^ 29 ∧ b.s < 2 ^ 29 ∧ b.t < 2 ^ 29) ∧
  ∀ u H', Same H H' → H' u = some (.lst (n4V (JM.joined a b))) → Q (.ref u) H'
theorem g_joined (z : Z K mg base) : GF P w K mg base 3 "joined" spJoined := by
  refine gf_of z.c z.x z.g (c_glo_joined z.c) (f_Fjoined z.c) (fn_plain (f_Fjoined z.c) sc_joined (fun vs H Q E h => ?_) (fun _ _ _ _ _ _ us hl => match us, hl with | [_, _], _ => rfl) fun cdv A outer s H vs Q E hr h => ?_)
  · obtain ⟨p, q, a, b, rfl, _⟩ := h; rfl
  · obtain ⟨p, q, ⟨i, o, s, t⟩, ⟨i', o', s', t'⟩, rfl, hp, hq, ⟨a1, a2, a3⟩, ⟨b1, b2, b3⟩, q'⟩ := h
    have a1 : o < 2 ^ 29 := a1
    have a2 : s < 2 ^ 29 := a2
    have a3 : t < 2 ^ 29 := a3
    have b1 : o' < 2 ^ 29 := b1
    have b2 : s' < 2 ^ 29 := b2
    have b3 : t' < 2 ^ 29 := b3
    have G1 : GF P w K mg base 1 "gcd" spGcd := g_gcd z
    have G2 : GF P w K mg base 2 "stripped" spStrip := g_stripped z
    have G3 : GF P w K mg base 2 "multiple" spMul := g_multiple z
    refine ⟨_, pss_cons (ps_setLc (i := 2) (own := [("a", 5), ("b", 6)]) (g := gAB K 5 6) (tt := tYes) (te := tCR spMul (tCons (tVar 5) (tCons (tVar 6) tNil))) rfl sc_joined.nd rfl rfl (by rfl)
        (RZ.pi_zipA (by rfl) (z.free (c_free_zip z.c)) (pa_cons (pe_slice sl_tup (pv 0) (po_some pe_int) po_none) (pa_cons (pe_slice sl_tup (pv 1) (po_some pe_int) po_none) pa_nil))) (blkOk_by (by kernel_rfl))
        (fun _ _ _ _ _ => pg_tup rfl (pgs_cons (pg_name sc_joined.nd rfl (.inl rfl)) (pgs_cons (pg_name sc_joined.nd rfl (.inl rfl)) pgs_nil))) (fun _ _ _ _ _ => pts_nil) (fun _ _ _ _ _ => pe_cf G3 hr (by rfl) pass0 (pa_cons (pv 5) (pa_cons (pv 6) pa_nil))))
      (pss_cons (ps_if (pt_cmpR op_gt (pe_ix ix_list (pv 2) pe_int (fun _ _ => rfl)) pe_int (nomark _)) (pss_one (ps_ret (pe_lst (pa_cons pe_int (StX.pa_star (pv 2) pa_nil))))) pss_nil)
      (pss_cons (ps_if (pw_and (pt_cmpR op_eq (pe_ix ix_tup (pv 0) pe_int (fun _ _ => rfl)) pe_int (nomark _)) (pw_and1 (pt_cmpR op_eq (pe_ix ix_tup (pv 1) pe_int (fun _ _ => rfl)) pe_int (nomark _)))).pt
        (pss_one (ps_ret (pe_lst (pa_cons (pe_cf G1 (hr.mono (by decide)) (by rfl) pass0 (pa_cons (pe_ix ix_tup (pv 0) pe_int (fun _ _ => rfl)) (pa_cons (pe_ix ix_tup (pv 1) pe_int (fun _ _ => rfl)) pa_nil))) (StX.pa_star (pv 2) pa_nil))))) pss_nil)
      (pss_cons (ps_asg (pe_ifExp (pt_cmpR op_eq (pe_ix ix_tup (pv 0) pe_int (fun _ _ => rfl)) pe_int (nomark _)) (pe_tup (pa_cons (pv 0) (pa_cons (pv 1) pa_nil))) (pe_tup (pa_cons (pv 1) (pa_cons (pv 0) pa_nil))))
        (pg_tup rfl (pgs_cons (pg_name (i := 3) sc_joined.nd rfl (.inl rfl)) (pgs_cons (pg_name (i := 4) sc_joined.nd rfl (.inl rfl)) pgs_nil))))
      (pss_one (ps_ret (pe_lst (pa_cons (pe_cf G2 hr (by rfl) pass0 (pa_cons (pe_ix ix_tup (pv 3) pe_int (fun _ _ => rfl)) (pa_cons (pe_ix ix_tup (pv 4) pe_int (fun _ _ => rfl)) pa_nil))) (StX.pa_star (pv 2) pa_nil)))))))), ?_⟩
    refine ⟨_, rfl, _, rfl, p, _, rfl, SqT.of hp, cutne, fun u hu => ?_⟩
    have k1 := same_new (o := .tup (cutV (n4V ⟨i, o, s, t⟩) (some 1) none)) hu
    refine ⟨_, rfl, _, rfl, q, _, rfl, SqT.of (k1 _ _ hq), cutne, fun u' hu' => ?_⟩
    have k2 := same_new (o := .tup (cutV (n4V ⟨i', o', s', t'⟩) (some 1) none)) hu'
    refine ⟨u, u', _, _, rfl, .inr ⟨SqT.of (k2 _ _ upd_same), SqT.of upd_same, fun D hD => ?_⟩⟩
    refine lc_zipT (xs := [nt o, nt s, nt t]) (ys := [nt o', nt s', nt t']) rfl (fun j H' => Same (upd (upd H u (.tup (cutV (n4V ⟨i, o, s, t⟩) (some 1) none))) u' (.tup (cutV (n4V ⟨i', o', s', t'⟩) (some 1) none))) H' ∧ H' D = some (.lst ([nt (Nat.lcm o o'), nt (Nat.lcm s s'), nt (Nat.lcm t t')].take j)))
      ⟨same_new hD, upd_same⟩ (fun j H' _ h => ⟨SqT.of (h.1 _ _ (k2 _ _ upd_same)), SqT.of (h.1 _ _ upd_same)⟩) ?_ ?_
    · rintro j x y T H' hx hy ⟨k, hd⟩ hT
      obtain ⟨m, n, rfl, rfl, hm, hn, hr⟩ : ∃ m n : Nat, x = nt m ∧ y = nt n ∧ m < 2 ^ 29 ∧ n < 2 ^ 29 ∧ [nt (Nat.lcm o o'), nt (Nat.lcm s s'), nt (Nat.lcm t t')][j]? = some (nt (Nat.lcm m n)) := by
        match j, hx, hy with
        | 0, hx, hy => exact ⟨o, o', (Option.some.inj hx).symm, (Option.some.inj hy).symm, a1, b1, rfl⟩
        | 1, hx, hy => exact ⟨s, s', (Option.some.inj hx).symm, (Option.some.inj hy).symm, a2, b2, rfl⟩
        | 2, hx, hy => exact ⟨t, t', (Option.some.inj hx).symm, (Option.some.inj hy).symm, a3, b3, rfl⟩
        | j + 3, hx, hy => simp at hx
      have kT := same_new (o := .tup [nt m, nt n]) hT
      refine ⟨T, _, rfl, SqT.of upd_same, rfl, _, _, rfl, _, _, rfl, rfl, rfl, _, rfl, _, rfl, m, n, rfl, hm, hn, fun H4 k4 => ?_⟩
      refine ⟨_, k4 _ _ (kT _ _ hd), ?_, ?_, ?_⟩
      · have := le_line (n := 4) (by decide)
        have h4 : ([nt (Nat.lcm o o'), nt (Nat.lcm s s'), nt (Nat.lcm t t')].take j).length ≤ 3 := by rw [List.length_take]; exact Nat.min_le_right _ _
        omega
      · intro b v e
        have : b ≠ D := fun z => by rw [z, hD] at e; cases e
        rw [upd_ne this]
        exact k4 _ _ (kT _ _ (k _ _ e))
      · rw [upd_same, take_snoc hr]
    · rintro H' ⟨k, hd⟩
      have kk := (k1.trans k2).trans k
      replace hd : H' D = some (.lst [nt (Nat.lcm o o'), nt (Nat.lcm s s'), nt (Nat.lcm t t')]) := hd
      refine ⟨_, rfl, D, _, _, _, rfl, rfl, SqL.of hd, atI_nat (j := 0) rfl, _, _, rfl, rfl, _, rfl, ?_⟩
      have fin : ∀ x : Nat, JM.joined ⟨i, o, s, t⟩ ⟨i', o', s', t'⟩ = ⟨x, Nat.lcm o o', Nat.lcm s s', Nat.lcm t t'⟩ → ∀ H2, Same H' H2 → ∀ v, H2 v = none → Q (.ref v) (upd H2 v (.lst [nt x, nt (Nat.lcm o o'), nt (Nat.lcm s s'), nt (Nat.lcm t t')])) := fun x hx H2 k2 v hv => by
        refine q' v _ (kk.trans (k2.trans (same_new hv))) ?_
        rw [upd_same, hx]
        rfl
      unfold JM.joined at fin
      dsimp only at fin
      by_cases h0 : 0 < Nat.lcm o o'
      · refine iteDT (show ((0 : Int) < ((Nat.lcm o o' : Nat) : Int)) by omega) ⟨_, rfl, D, _, rfl, .inr (SqL.of hd), lnb rfl, fin 1 (by rw [if_pos h0]) H' (fun _ _ e => e)⟩
      · refine iteDF (show ¬ ((0 : Int) < ((Nat.lcm o o' : Nat) : Int)) by omega) ?_
        rw [if_neg h0] at fin
        refine ⟨_, rfl, p, _, _, _, rfl, rfl, SqT.of (kk _ _ hp), atI_nat (j := 1) rfl, rfl, _, rfl, ?_⟩
        rw [dec_zero]
        by_cases ho : o = 0
        · refine iteDT ho ⟨_, rfl, q, _, _, _, rfl, rfl, SqT.of (kk _ _ hq), atI_nat (j := 1) rfl, rfl, _, rfl, ?_⟩
          rw [dec_zero]
          by_cases ho' : o' = 0
          · refine iteDT ho' ⟨_, rfl, p, _, _, _, rfl, rfl, SqT.of (kk _ _ hp), atI_nat (j := 0) rfl, _, rfl, q, _, _, _, rfl, rfl, SqT.of (kk _ _ hq), atI_nat (j := 0) rfl, _, _, rfl, _, rfl, D, _, rfl, .inr (SqL.of hd), lnb rfl, ?_⟩
            exact fin (Nat.gcd i i') (by rw [if_pos ⟨ho, ho'⟩]) H' (fun _ _ e => e)
          · refine iteDF ho' ⟨_, rfl, p, _, _, _, rfl, rfl, SqT.of (kk _ _ hp), atI_nat (j := 1) rfl, rfl, _, rfl, ?_⟩
            rw [dec_zero]
            refine iteDT ho ⟨_, rfl, _, rfl, lnb rfl, fun v hv => ?_⟩
            have k5 := same_new (o := .tup [V.ref p, V.ref q]) hv
            refine ⟨v, _, rfl, SqT.of upd_same, rfl, _, _, rfl, _, _, rfl, rfl, _, rfl, p, _, _, _, rfl, rfl, SqT.of (k5 _ _ (kk _ _ hp)), atI_nat (j := 0) rfl, _, rfl, q, _, _, _, rfl, rfl, SqT.of (k5 _ _ (kk _ _ hq)), atI_nat (j := 1) rfl, i, o', rfl, by omega, b1, _, rfl, D, _, rfl, .inr (SqL.of (k5 _ _ hd)), lnb rfl, ?_⟩
            exact fin _ (by rw [if_neg (fun h => ho' h.2), if_pos ho]) _ k5
        · refine iteDF ho (iteF ⟨_, rfl, p, _, _, _, rfl, rfl, SqT.of (kk _ _ hp), atI_nat (j := 1) rfl, rfl, _, rfl, ?_⟩)
          rw [dec_zero]
          refine iteDF ho ⟨_, rfl, _, rfl, lnb rfl, fun v hv => ?_⟩
          have k5 := same_new (o := .tup [V.ref q, V.ref p]) hv
          refine ⟨v, _, rfl, SqT.of upd_same, rfl, _, _, rfl, _, _, rfl, rfl, _, rfl, q, _, _, _, rfl, rfl, SqT.of (k5 _ _ (kk _ _ hq)), atI_nat (j := 0) rfl, _, rfl, p, _, _, _, rfl, rfl, SqT.of (k5 _ _ (kk _ _ hp)), atI_nat (j := 1) rfl, i', o, rfl, by omega, a1, _, rfl, D, _, rfl, .inr (SqL.of (k5 _ _ hd)), lnb rfl, ?_⟩
          exact fin _ (by rw [if_neg (fun h => ho h.1), if_neg ho]) _ k5
end
end J

/-! realms: lies_within -/
namespace J
open PySem PySem.Spec PyProof.Rows L2
open JM (N4 NF)
section
variable {P : Program} {w : World} {K : PySem.W.Frag} {mg : Str → Option Value} {base : Heap}
theorem sc_lwithin : FnScope ["one", "other", "a", "b"] ["one", "other"] dFlies_within.scope := ⟨rfl, rfl, rfl, by decide +kernel, rfl, by decide +kernel, by decide +kernel⟩
def spLw : Sp := fun vs H Q _ => ∃ (p q : Addr) (a b : N4), vs = [.ref p, .ref q] ∧ H p = some (.tup (n4V a)) ∧ H q = some (.tup (n4V b)) ∧ ∀ c H', Same H H' → (c = true ↔ JM.within a b) → Q (.bl c) H'
/-- all(divides(a, b) for ..): the comprehension, from two tuples of three -/
theorem lc_div {p q : Addr} {x1 x2 x3 y1 y2 y3 : Nat} {σ : L2.St} {H1 : Hp} {D : Addr} {Qd : Hp → Prop} {i j : Nat} (hi : i < σ.length) (hj : j < σ.length) (hij : i ≠ j) (hD : H1 D = none) (hp : SqT K H1 p [nt x1, nt x2, nt x3]) (hq : SqT K H1 q [nt y1, nt y2, nt y3])
    (hk : ∀ H', Same H1 H' → SqT K H' p [nt x1, nt x2, nt x3] ∧ SqT K H' q [nt y1, nt y2, nt y3])
    (hw : ∀ u v : V, wipe ((((wipe σ [i, j]).set i (some u))).set j (some v)) [i, j] = wipe σ [i, j])
    (hs1 : ∀ u v : V, ((((wipe σ [i, j]).set i (some u))).set j (some v))[i]? = some (some u)) (hs2 : ∀ u v : V, ((((wipe σ [i, j]).set i (some u))).set j (some v))[j]? = some (some v))
    (hd : ∀ H', Same H1 H' → H' D = some (.lst [.bl (decide (x1 ∣ y1)), .bl (decide (x2 ∣ y2)), .bl (decide (x3 ∣ y3))]) → Qd H') :
    ∃ W : Nat → Nat → Hp → Prop, (∃ m, W 0 m (upd H1 D (.lst []))) ∧ ∀ k m H, W k m H →
      ((RZ.ItzT K p q).stop k H ∧ Qd H) ∨ ((RZ.ItzT K p q).go k H ∧ ∃ Nx : Hp → Prop, (∀ H', Nx H' → ∃ m', m' < m ∧ W (k + 1) m' H') ∧ ∀ x H', (RZ.ItzT K p q).yld k H x H' → gAB K i j x (wipe σ [i, j]) H' fun σ2 H2 => wipe σ2 [i, j] = wipe σ [i, j] ∧ tYes σ2 H2 fun b H3 =>
        if b = true then tCR spDiv (tCons (tVar i) (tCons (tVar j) tNil)) σ2 H3 fun y H4 => ∃ acc, H4 D = some (.lst acc) ∧ acc.length < sizeLine ∧ Nx (upd H4 D (.lst (acc ++ [y]))) else Nx H3) := by
  refine lc_zipT (xs := [nt x1, nt x2, nt x3]) (ys := [nt y1, nt y2, nt y3]) rfl (fun j H' => Same H1 H' ∧ H' D = some (.lst ([V.bl (decide (x1 ∣ y1)), .bl (decide (x2 ∣ y2)), .bl (decide (x3 ∣ y3))].take j)))
      ⟨same_new hD, upd_same⟩ (fun j H' _ h => hk _ h.1) ?_ ?_
  · rintro k x y T H' hx hy ⟨kk, hd⟩ hT
    obtain ⟨m, n, rfl, rfl, hr⟩ : ∃ m n : Nat, x = nt m ∧ y = nt n ∧ [V.bl (decide (x1 ∣ y1)), .bl (decide (x2 ∣ y2)), .bl (decide (x3 ∣ y3))][k]? = some (.bl (decide (m ∣ n))) := by
      match k, hx, hy with
      | 0, hx, hy => exact ⟨x1, y1, (Option.some.inj hx).symm, (Option.some.inj hy).symm, rfl⟩
      | 1, hx, hy => exact ⟨x2, y2, (Option.some.inj hx).symm, (Option.some.inj hy).symm, rfl⟩
      | 2, hx, hy => exact ⟨x3, y3, (Option.some.inj hx).symm, (Option.some.inj hy).symm, rfl⟩
      | j + 3, hx, hy => simp at hx
    have kT := same_new (o := .tup [nt m, nt n]) hT
    refine ⟨T, _, rfl, SqT.of upd_same, rfl, _, _, rfl, _, _, rfl, rfl, hw _ _, _, hs1 _ _, _, hs2 _ _, m, n, rfl, _, kT _ _ hd, ?_, ?_, ?_⟩
    · have := le_line (n := 4) (by decide)
      have h4 : ([V.bl (decide (x1 ∣ y1)), .bl (decide (x2 ∣ y2)), .bl (decide (x3 ∣ y3))].take k).length ≤ 3 := by rw [List.length_take]; exact Nat.min_le_right _ _
      omega
    · intro b v e
      have : b ≠ D := fun z => by rw [z, hD] at e; cases e
      rw [upd_ne this]
      exact kT _ _ (kk _ _ e)
    · rw [upd_same, take_snoc hr]
  · rintro H' ⟨k, h⟩
    exact hd H' k h
theorem g_lwithin (z : Z K mg base) : GF P w K mg base 2 "lies_within" spLw := by
  refine gf_of z.c z.x z.g (c_glo_lies_within z.c) (f_Flies_within z.c) (fn_plain (f_Flies_within z.c) sc_lwithin (fun vs H Q E h => ?_) (fun _ _ _ _ _ _ us hl => match us, hl with | [_, _], _ => rfl) fun cdv A outer s H vs Q E hr h => ?_)
  · obtain ⟨p, q, a, b, rfl, _⟩ := h; rfl
  · obtain ⟨p, q, ⟨i, o, s, t⟩, ⟨i', o', s', t'⟩, rfl, hp, hq, q'⟩ := h
    have G1 : GF P w K mg base 1 "gcd" spGcd := g_gcd z
    have G2 : GF P w K mg base 1 "divides" spDiv := g_divides z
    refine ⟨_, pss_cons (ps_if (pt_cmpR op_eq (pe_ix ix_tup (pv 0) pe_int (fun _ _ => rfl)) pe_int (nomark _)) (pss_one (ps_ret pe_bl)) pss_nil)
      (pss_cons (ps_if (pt_cmpR op_gt (pe_ix ix_tup (pv 0) pe_int (fun _ _ => rfl)) pe_int (nomark _))
        (pss_cons (ps_if (pt_cmpR op_gt (pe_cf G1 hr (by rfl) pass0 (pa_cons (pe_ix ix_tup (pv 1) pe_int (fun _ _ => rfl)) (pa_cons (pe_ix ix_tup (pv 0) pe_int (fun _ _ => rfl)) pa_nil))) pe_int (nomark _)) (pss_one (ps_ret pe_bl)) pss_nil)
          (pss_one (ps_ret (pe_callB (cr_all rfl) (by rfl) (z.free (c_free_all z.c)) (by decide +kernel) (pa_cons (pe_lc (own := [("a", 2), ("b", 3)]) (g := gAB K 2 3) (tt := tYes) (te := tCR spDiv (tCons (tVar 2) (tCons (tVar 3) tNil))) rfl sc_lwithin.nd
            (RZ.pi_zipA (by rfl) (z.free (c_free_zip z.c)) (pa_cons (pe_slice sl_tup (pv 0) (po_some pe_int) po_none) (pa_cons (pe_slice sl_tup (pv 1) (po_some pe_int) po_none) pa_nil))) (blkOk_by (by kernel_rfl))
            (fun _ _ _ _ _ => pg_tup rfl (pgs_cons (pg_name sc_lwithin.nd rfl (.inl rfl)) (pgs_cons (pg_name sc_lwithin.nd rfl (.inl rfl)) pgs_nil))) (fun _ _ _ _ _ => pts_nil) (fun _ _ _ _ _ => pe_cf G2 hr (by rfl) pass0 (pa_cons (pv 2) (pa_cons (pv 3) pa_nil)))) pa_nil))))) pss_nil)
      (pss_one (ps_ret (pe_and (pe_cmpR op_eq (pe_ix ix_tup (pv 1) pe_int (fun _ _ => rfl)) pe_int (nomark _)) (pe_and (pe_cf G2 hr (by rfl) pass0 (pa_cons (pe_ix ix_tup (pv 1) pe_int (fun _ _ => rfl)) (pa_cons (pe_ix ix_tup (pv 0) pe_int (fun _ _ => rfl)) pa_nil)))
        (pe_one (pe_cf G2 hr (by rfl) pass0 (pa_cons (pe_ix ix_tup (pv 0) pe_int (fun _ _ => rfl)) (pa_cons (pe_ix ix_tup (pv 1) pe_int (fun _ _ => rfl)) pa_nil))))))))), ?_⟩
    unfold JM.within at q'
    dsimp only at q'
    have kr : Same H H := fun _ _ e => e
    refine ⟨_, rfl, p, _, _, _, rfl, rfl, SqT.of hp, atI_nat (j := 1) rfl, rfl, _, rfl, ?_⟩
    rw [dec_one]
    by_cases h1 : o = 1
    · exact iteDT h1 (q' true H kr (by rw [if_pos h1]; exact ⟨fun _ => trivial, fun _ => rfl⟩))
    · rw [if_neg h1] at q'
      refine iteDF h1 ⟨_, rfl, p, _, _, _, rfl, rfl, SqT.of hp, atI_nat (j := 1) rfl, _, _, rfl, rfl, _, rfl, ?_⟩
      by_cases h0 : 0 < o
      · rw [if_pos h0] at q'
        refine iteDT (show ((0 : Int) < (o : Int)) by omega) ⟨_, rfl, q, _, _, _, rfl, rfl, SqT.of hq, atI_nat (j := 0) rfl, _, rfl, p, _, _, _, rfl, rfl, SqT.of hp, atI_nat (j := 1) rfl, _, _, rfl, _, _, rfl, rfl, _, rfl, ?_⟩
        by_cases hg : 1 < Nat.gcd i' o
        · refine iteDT (show ((1 : Int) < ((Nat.gcd i' o : Nat) : Int)) by omega) (q' false H kr ⟨fun h => (by cases h), fun h => absurd hg h.1⟩)
        · refine iteDF (show ¬ ((1 : Int) < ((Nat.gcd i' o : Nat) : Int)) by omega) ?_
          refine ⟨_, rfl, _, rfl, p, _, rfl, SqT.of hp, cutne, fun u hu => ?_⟩
          have k1 := same_new (o := .tup (cutV (n4V ⟨i, o, s, t⟩) (some 1) none)) hu
          refine ⟨_, rfl, _, rfl, q, _, rfl, SqT.of (k1 _ _ hq), cutne, fun u' hu' => ?_⟩
          have k2 := same_new (o := .tup (cutV (n4V ⟨i', o', s', t'⟩) (some 1) none)) hu'
          refine ⟨u, u', _, _, rfl, .inr ⟨SqT.of (k2 _ _ upd_same), SqT.of upd_same, fun D hD => ?_⟩⟩
          refine lc_div (x1 := o) (x2 := s) (x3 := t) (y1 := o') (y2 := s') (y3 := t') (by decide : 2 < 4) (by decide : 3 < 4) (by decide) hD (SqT.of (k2 _ _ upd_same)) (SqT.of upd_same) (fun H' k => ⟨SqT.of (k _ _ (k2 _ _ upd_same)), SqT.of (k _ _ upd_same)⟩) (fun _ _ => rfl) (fun _ _ => rfl) (fun _ _ => rfl) fun H' k hd => ?_
          refine ⟨D, [decide (o ∣ o'), decide (s ∣ s'), decide (t ∣ t')], rfl, SqL.of hd, q' _ H' ((k1.trans k2).trans k) ?_⟩
          simp only [List.all_cons, List.all_nil, id, Bool.and_eq_true, decide_eq_true_eq, Bool.and_true]
          exact ⟨fun h => ⟨hg, h.1, h.2.1, h.2.2⟩, fun h => ⟨h.2.1, h.2.2.1, h.2.2.2⟩⟩
      · rw [if_neg h0] at q'
        refine iteDF (show ¬ ((0 : Int) < (o : Int)) by omega) ⟨_, rfl, q, _, _, _, rfl, rfl, SqT.of hq, atI_nat (j := 1) rfl, rfl, _, rfl, ?_⟩
        rw [dec_zero]
        by_cases h2 : o' = 0
        · refine iteDT h2 ⟨_, rfl, q, _, _, _, rfl, rfl, SqT.of hq, atI_nat (j := 0) rfl, _, rfl, p, _, _, _, rfl, rfl, SqT.of hp, atI_nat (j := 0) rfl, i', i, rfl, _, rfl, ?_⟩
          by_cases h3 : i' ∣ i
          · refine iteDT h3 ⟨_, rfl, p, _, _, _, rfl, rfl, SqT.of hp, atI_nat (j := 2) rfl, _, rfl, q, _, _, _, rfl, rfl, SqT.of hq, atI_nat (j := 2) rfl, s, s', rfl, q' _ H kr ?_⟩
            rw [decide_eq_true_eq]
            exact ⟨fun h => ⟨h2, h3, h⟩, fun h => h.2.2⟩
          · exact iteDF h3 (q' false H kr ⟨fun h => (by cases h), fun h => absurd h.2.1 h3⟩)
        · exact iteDF h2 (q' false H kr ⟨fun h => (by cases h), fun h => absurd h.1 h2⟩)
end
end J

/-! Realm: making -/
namespace J
open PySem PySem.Spec PyProof.Rows L2
open JM (N4 NF)
section
variable {P : Program} {w : World} {K : PySem.W.Frag} {mg : Str → Option Value} {base : Heap}
abbrev rmP : List Str := ["self", "inverse", "ones", "swaps", "squares", "_free"]
abbrev kwR : List (Str × V) := [("inverse", .int 1), ("ones", .int 0), ("swaps", .int 0), ("squares", .int 0), ("_free", .bl false)]
theorem b5 {fd : FuncData} {f : Addr} (F : FunD K dMRealm_init.name dMRealm_init.qual dMRealm_init.params dMRealm_init.body dMRealm_init.scope [] kwR f fd) :
    ∃ mv : List Value, KBn K fd rmP 1 ["inverse", "ones", "swaps", "squares", "_free"] (fun us ws => us ++ ws) (fun vs zs => vs ++ zs) := by
  refine F.kbinds0 1 _ [] (fun us mv ws => us ++ ws) (by simp) (by simp) (fun r1 _ r3 => r1.append r3) fun D doc pm an cdv ct us mv ws h1 h2 h3 => ?_
  match us, h1, mv, h2, ws, h3 with
  | [_], _, [], _, [_, _, _, _, _], _ => rfl
theorem b4 {fd : FuncData} {f : Addr} (F : FunD K dMRealm_init.name dMRealm_init.qual dMRealm_init.params dMRealm_init.body dMRealm_init.scope [] kwR f fd) :
    ∃ mv : List Value, KBn K fd rmP 1 ["inverse", "ones", "swaps", "squares"] (fun us ws => us ++ (ws ++ mv)) (fun vs zs => vs ++ (zs ++ [.bl false])) := by
  refine F.kbinds0 1 _ [("_free", .bl false)] (fun us mv ws => us ++ (ws ++ mv)) (by simp) (by simp) (fun r1 r2 r3 => r1.append (r3.append r2)) fun D doc pm an cdv ct us mv ws h1 h2 h3 => ?_
  match us, h1, mv, h2, ws, h3 with
  | [_], _, [_], _, [_, _, _, _], _ => exact ⟨_, _, _, _, _, _, rfl, rfl, rfl⟩
theorem b1 {fd : FuncData} {f : Addr} (F : FunD K dMRealm_init.name dMRealm_init.qual dMRealm_init.params dMRealm_init.body dMRealm_init.scope [] kwR f fd) :
    ∃ mv : List Value, KBn K fd rmP 1 ["ones"] (fun us ws => us ++ (mv.take 1 ++ (ws ++ mv.drop 1))) (fun vs zs => vs ++ ([.int 1] ++ (zs ++ [.int 0, .int 0, .bl false]))) := by
  refine F.kbinds0 1 _ [("inverse", .int 1), ("swaps", .int 0), ("squares", .int 0), ("_free", .bl false)] (fun us mv ws => us ++ (mv.take 1 ++ (ws ++ mv.drop 1))) (by simp) (by simp) (fun r1 r2 r3 => r1.append ((Vals.take 1 r2).append (r3.append (Vals.drop 1 r2)))) fun D doc pm an cdv ct us mv ws h1 h2 h3 => ?_
  match us, h1, mv, h2, ws, h3 with
  | [_], _, [_, _, _, _], _, [_], _ => exact ⟨_, _, _, _, _, _, rfl, rfl, _, _, _, _, _, _, rfl, rfl, _, _, _, _, _, _, rfl, rfl, _, _, _, _, _, _, rfl, rfl, rfl⟩
theorem b0 {fd : FuncData} {f : Addr} (F : FunD K dMRealm_init.name dMRealm_init.qual dMRealm_init.params dMRealm_init.body dMRealm_init.scope [] kwR f fd) :
    ∃ mv : List Value, KBn K fd rmP 1 [] (fun us ws => us ++ mv) (fun vs zs => vs ++ [.int 1, .int 0, .int 0, .int 0, .bl false]) := by
  refine F.kbinds0 1 _ [("inverse", .int 1), ("ones", .int 0), ("swaps", .int 0), ("squares", .int 0), ("_free", .bl false)] (fun us mv ws => us ++ mv) (by simp) (by simp) (fun r1 r2 r3 => r1.append r2) fun D doc pm an cdv ct us mv ws h1 h2 h3 => ?_
  match us, h1, mv, h2, ws, h3 with
  | [_], _, [_, _, _, _, _], _, [], _ => exact ⟨_, _, _, _, _, _, rfl, rfl, _, _, _, _, _, _, rfl, rfl, _, _, _, _, _, _, rfl, rfl, _, _, _, _, _, _, rfl, rfl, _, _, _, _, _, _, rfl, rfl, rfl⟩
/-! ### the object -/
structure RM (K : PySem.W.Frag) (H : Hp) (a dx p : Addr) (n : N4) : Prop where
  at_ : H a = some (.ins (He.ga K "Realm") dx [("_numbers", .ref p)])
  np : H p = some (.tup (n4V n))
  nf : NF n
  b : n.i < 2 ^ 29
def IsRealm (K : PySem.W.Frag) (H : Hp) (a : Addr) (n : N4) : Prop := ∃ dx p, RM K H a dx p n
theorem RM.keepT {H H' : Hp} {a dx p : Addr} {n : N4} (h : RM K H a dx p n) (k : KeepT H H') : RM K H' a dx p n := ⟨k _ _ (fun _ z => by cases z) h.at_, k _ _ (fun _ z => by cases z) h.np, h.nf, h.b⟩
theorem RM.same {H H' : Hp} {a dx p : Addr} {n : N4} (h : RM K H a dx p n) (k : Same H H') : RM K H' a dx p n := h.keepT (Same.keepT k)
theorem IsRealm.keepT {H H' : Hp} {a : Addr} {n : N4} (h : IsRealm K H a n) (k : KeepT H H') : IsRealm K H' a n := let ⟨dx, p, r⟩ := h; ⟨dx, p, r.keepT k⟩
theorem IsRealm.same {H H' : Hp} {a : Addr} {n : N4} (h : IsRealm K H a n) (k : Same H H') : IsRealm K H' a n := h.keepT (Same.keepT k)
/-! ### Realm.__init__ -/
theorem iteN1 {a b : Prop} (h : a) : if (!false) = true then a else b := h
theorem settled_i {n : N4} {B : Nat} (h : n.i < B) (h1 : 1 < B) : (JM.settled n).i < B := by
  show (if Nat.gcd n.o (2 * n.t) = 0 then n.i else 1) < B
  split
  · exact h
  · exact h1
def rz (free : Bool) (i : Nat) : Nat := if free = true then i else JM.radV i
def rOk (free : Bool) (i : Nat) : Prop := (free = true ∧ 0 < i ∧ i < 2 ^ 29) ∨ (free = false ∧ i ∈ JM.dL)
def spRealm (K : PySem.W.Frag) : Sp := fun vs H Q _ => ∃ (a dx : Addr) (i o s t : Nat) (free : Bool), vs = [.ref a, nt i, nt o, nt s, nt t, .bl free] ∧ H a = some (.ins (He.ga K "Realm") dx []) ∧ rOk free i ∧ ∀ H', SameB a H H' → IsRealm K H' a (JM.settled ⟨rz free i, o, s, t⟩) → Q .non H'
theorem sc_realm : FnScope rmP rmP dMRealm_init.scope := ⟨rfl, rfl, rfl, by decide +kernel, rfl, by decide +kernel, by decide +kernel⟩
theorem cls_realm (z : Z K mg base) : Cls K (He.ga K "Realm") := He.cls_ok (c_cls_Realm z.c)
theorem na_realm (z : Z K mg base) : NoAttr K (He.ga K "Realm") "_numbers" := He.noat_ok (c_noat_Realm z.c)
theorem ok_realm (z : Z K mg base) : ∃ fd, FunD K dMRealm_init.name dMRealm_init.qual dMRealm_init.params dMRealm_init.body dMRealm_init.scope [] kwR (He.ma K (He.ga K "Realm") "__init__") fd ∧
    FnOk P w K mg base CX0 4 (He.ma K (He.ga K "Realm") "__init__") fd rmP (spRealm K) := by
  obtain ⟨fd, F⟩ := f_MRealm_init z.c
  have FD := F.funD rfl
  refine ⟨fd, FD, FD.ok sc_realm (fun vs H Q E h => ?_) fun cdv A outer s H vs Q E hr h => ?_⟩
  · obtain ⟨a, dx, i, o, s, t, fr, rfl, _⟩ := h; rfl
  · obtain ⟨a, dx, i, o, s', t, fr, rfl, ha, hok, q⟩ := h
    have G1 : GF P w K mg base 3 "checked" spChecked := g_checked z
    have G2 : GF P w K mg base 3 "settled" spSettled := g_settled z
    have G3 : GF P w K mg base 3 "radical" spRad := g_radical z
    have T : PSs (cxOf CX0 P w K mg base rmP dMRealm_init.qual dMRealm_init.scope (dMRealm_init.at_ K) cdv A outer s H E).nox dMRealm_init.body _ := pss_cons (ps_if (pt_not (pt_val (pv 5))) (pss_one (ps_expr (pe_cf G1 hr (by rfl) pass0 (pa_cons (pv 1) (pa_cons (pv 2) (pa_cons (pv 3) (pa_cons (pv 4) pa_nil))))))) pss_nil)
      (pss_one (ps_fld (pv 0) (pe_cf G2 hr (by rfl) pass0 (pa_cons (pe_ifExp (pt_val (pv 5)) (pv 1) (pe_cf G3 hr (by rfl) pass0 (pa_cons (pv 1) pa_nil))) (pa_cons (pv 2) (pa_cons (pv 3) (pa_cons (pv 4) pa_nil))))) rfl))
    refine ⟨_, T.nox, ?_⟩
    have fin : ∀ H1, Same H H1 → ∀ x : Nat, x = rz fr i → 0 < x → x < 2 ^ 29 → ∀ p H', Same H1 H' → H' p = some (.tup (n4V (JM.settled ⟨x, o, s', t⟩))) → Q .non (upd H' a (.ins (He.ga K "Realm") dx (putF "_numbers" (.ref p) []))) := fun H1 k1 x hx x0 x1 p H' k hp => by
      subst hx
      have pn : p ≠ a := fun e => by rw [e, k _ _ (k1 _ _ ha)] at hp; cases hp
      exact q _ ((Same.but (k1.trans k)).trans sameB_upd) ⟨dx, p, upd_same, by rw [upd_ne pn]; exact hp, JM.nf_settled x0, settled_i x1 (by decide)⟩
    rcases hok with ⟨rfl, h0, h1⟩ | ⟨rfl, hd⟩
    · refine ⟨_, rfl, _, rfl, iteNS0 ⟨_, rfl, _, rfl, iteT ⟨_, rfl, _, rfl, _, rfl, _, rfl, ⟨i, o, s', t⟩, rfl, h0, h1, fun p H' k hp => ⟨_, rfl, a, _, dx, [], rfl, k _ _ ha, cls_realm z, na_realm z, by decide, ?_⟩⟩⟩⟩
      exact fin H (fun _ _ e => e) i rfl h0 h1 p H' k hp
    · have hd1 : ∀ d ∈ JM.dL, 1 ≤ d ∧ d ≤ 1000000 := by decide
      obtain ⟨d1, d2⟩ := hd1 i hd
      obtain ⟨_, _, r3, r4, _⟩ := JM.rad_ok i hd
      refine ⟨_, rfl, _, rfl, iteN1 ⟨_, rfl, _, rfl, _, rfl, _, rfl, i, o, s', t, rfl, d1, d2, fun H1 k1 => ⟨_, rfl, _, rfl, iteF ⟨_, rfl, ?_⟩⟩⟩⟩
      dsimp only [tNil]
      refine spRad_of hd ?_
      refine ⟨_, rfl, _, rfl, _, rfl, ⟨JM.radV i, o, s', t⟩, rfl, r3, Nat.lt_of_le_of_lt r4 (by decide), fun p H' k hp => ⟨_, rfl, a, _, dx, [], rfl, k _ _ (k1 _ _ ha), cls_realm z, na_realm z, by decide, ?_⟩⟩
      exact fin H1 k1 _ rfl r3 (Nat.lt_of_le_of_lt r4 (by decide)) p H' k hp
end
end J

/-! Realm: methods -/
namespace J
open PySem PySem.Spec PyProof.Rows L2
open JM (N4 NF RS num)
section
variable {P : Program} {w : World} {K : PySem.W.Frag} {mg : Str → Option Value} {base : Heap}
theorem mk_realm (z : Z K mg base) : Mk K (He.ga K "Realm") (He.ma K (He.ga K "Realm") "__init__") := He.mkr_ok (c_mk_Realm z.c)
/-- what a call of Realm leaves -/
theorem rm_make {H1 : Hp} {Q : VK} {i o s t : Nat} {free : Bool} (hi : rOk free i) (q : ∀ a H', H1 a = none → Same H1 H' → IsRealm K H' a (JM.settled ⟨rz free i, o, s, t⟩) → Q (.ref a) H') :
    ∀ x dx, H1 x = none → H1 dx = none → dx ≠ x → spRealm K [V.ref x, nt i, nt o, nt s, nt t, .bl free] (upd (upd H1 dx (.own x)) x (.ins (He.ga K "Realm") dx [])) (fun v H2 => v = .non ∧ Q (.ref x) H2) E0 := fun x dx hx hd hne =>
  ⟨x, dx, i, o, s, t, free, rfl, upd_same, hi, fun H' k r => ⟨rfl, q x H' hx (same_mk hx hd k) r⟩⟩
theorem rOk_one : rOk false 1 := .inr ⟨rfl, by decide⟩
/-! ### everywhere, nowhere -/
def spEv (K : PySem.W.Frag) (n : N4) : Sp := fun vs H Q _ => vs = [] ∧ ∀ a H', Same H H' → IsRealm K H' a n → Q (.ref a) H'
theorem sc_ev : FnScope [] [] dMRealm_everywhere.scope := ⟨rfl, rfl, rfl, by decide +kernel, rfl, by decide +kernel, by decide +kernel⟩
theorem sc_nw : FnScope [] [] dMRealm_nowhere.scope := ⟨rfl, rfl, rfl, by decide +kernel, rfl, by decide +kernel, by decide +kernel⟩
theorem m_ev (z : Z K mg base) : FnR P w K mg base CX0 6 (recAt K (He.ma K (He.ga K "Realm") "everywhere") "staticmethod") (spEv K ⟨1, 0, 0, 0⟩) := by
  refine fn_plain (f_MRealm_everywhere z.c) sc_ev (fun vs H Q E h => by rw [h.1]; rfl) (fun _ _ _ _ _ _ us hl => match us, hl with | [], _ => rfl) fun cdv A outer s H vs Q E hr h => ?_
  obtain ⟨rfl, q⟩ := h
  obtain ⟨fd, FD, F⟩ := ok_realm (P := P) (w := w) z
  obtain ⟨mv, hb⟩ := b0 FD
  refine ⟨_, pss_one (ps_ret (pe_makeK0 (mk_realm z) F hr (by rfl) (z.cls (c_glo_Realm z.c)) hb pass0 pk_nil)), ?_⟩
  exact ⟨rfl, rfl, rm_make rOk_one fun a H' _ k r => q a H' k r⟩
theorem m_nw (z : Z K mg base) : FnR P w K mg base CX0 6 (recAt K (He.ma K (He.ga K "Realm") "nowhere") "staticmethod") (spEv K ⟨1, 1, 1, 1⟩) := by
  refine fn_plain (f_MRealm_nowhere z.c) sc_nw (fun vs H Q E h => by rw [h.1]; rfl) (fun _ _ _ _ _ _ us hl => match us, hl with | [], _ => rfl) fun cdv A outer s H vs Q E hr h => ?_
  obtain ⟨rfl, q⟩ := h
  obtain ⟨fd, FD, F⟩ := ok_realm (P := P) (w := w) z
  obtain ⟨mv, hb⟩ := b1 FD
  refine ⟨_, pss_one (ps_ret (pe_makeK0 (mk_realm z) F hr (by rfl) (z.cls (c_glo_Realm z.c)) hb pass0 (pk_cons pe_int pk_nil))), ?_⟩
  exact ⟨rfl, rfl, rm_make rOk_one fun a H' _ k r => q a H' k r⟩
/-! ### getters -/
def spRG (K : PySem.W.Frag) (f : N4 → Nat) : Sp := fun vs H Q _ => ∃ a n, vs = [.ref a] ∧ IsRealm K H a n ∧ Q (nt (f n)) H
theorem sc_rinverse : FnScope ["self"] ["self"] dMRealm_inverse.scope := ⟨rfl, rfl, rfl, by decide +kernel, rfl, by decide +kernel, by decide +kernel⟩
theorem r_inverse (z : Z K mg base) : FnR P w K mg base CX0 1 (recAt K (He.ma K (He.ga K "Realm") "inverse") "property") (spRG K N4.i) := by
  refine fn_plain (f_MRealm_inverse z.c) sc_rinverse (fun vs H Q E h => ?_) (fun _ _ _ _ _ _ us hl => match us, hl with | [_], _ => rfl) fun cdv A outer s H vs Q E hr h => ?_
  · obtain ⟨a, r, rfl, _⟩ := h; rfl
  · obtain ⟨a, n, rfl, ⟨dx, p, o⟩, h⟩ := h
    refine ⟨_, pss_one (ps_ret (pe_ix ix_tup (pe_fld (pv 0) rfl) pe_int (fun _ _ => rfl))), ?_⟩
    exact ⟨_, rfl, a, _, dx, _, _, rfl, o.at_, cls_realm z, na_realm z, rfl, p, _, _, _, rfl, rfl, SqT.of o.np, atI_nat (j := 0) rfl, h⟩
theorem sc_rones : FnScope ["self"] ["self"] dMRealm_ones.scope := ⟨rfl, rfl, rfl, by decide +kernel, rfl, by decide +kernel, by decide +kernel⟩
theorem r_ones (z : Z K mg base) : FnR P w K mg base CX0 1 (recAt K (He.ma K (He.ga K "Realm") "ones") "property") (spRG K N4.o) := by
  refine fn_plain (f_MRealm_ones z.c) sc_rones (fun vs H Q E h => ?_) (fun _ _ _ _ _ _ us hl => match us, hl with | [_], _ => rfl) fun cdv A outer s H vs Q E hr h => ?_
  · obtain ⟨a, r, rfl, _⟩ := h; rfl
  · obtain ⟨a, n, rfl, ⟨dx, p, o⟩, h⟩ := h
    refine ⟨_, pss_one (ps_ret (pe_ix ix_tup (pe_fld (pv 0) rfl) pe_int (fun _ _ => rfl))), ?_⟩
    exact ⟨_, rfl, a, _, dx, _, _, rfl, o.at_, cls_realm z, na_realm z, rfl, p, _, _, _, rfl, rfl, SqT.of o.np, atI_nat (j := 1) rfl, h⟩
theorem sc_rswaps : FnScope ["self"] ["self"] dMRealm_swaps.scope := ⟨rfl, rfl, rfl, by decide +kernel, rfl, by decide +kernel, by decide +kernel⟩
theorem r_swaps (z : Z K mg base) : FnR P w K mg base CX0 1 (recAt K (He.ma K (He.ga K "Realm") "swaps") "property") (spRG K N4.s) := by
  refine fn_plain (f_MRealm_swaps z.c) sc_rswaps (fun vs H Q E h => ?_) (fun _ _ _ _ _ _ us hl => match us, hl with | [_], _ => rfl) fun cdv A outer s H vs Q E hr h => ?_
  · obtain ⟨a, r, rfl, _⟩ := h; rfl
  · obtain ⟨a, n, rfl, ⟨dx, p, o⟩, h⟩ := h
    refine ⟨_, pss_one (ps_ret (pe_ix ix_tup (pe_fld (pv 0) rfl) pe_int (fun _ _ => rfl))), ?_⟩
    exact ⟨_, rfl, a, _, dx, _, _, rfl, o.at_, cls_realm z, na_realm z, rfl, p, _, _, _, rfl, rfl, SqT.of o.np, atI_nat (j := 2) rfl, h⟩
theorem sc_rsquares : FnScope ["self"] ["self"] dMRealm_squares.scope := ⟨rfl, rfl, rfl, by decide +kernel, rfl, by decide +kernel, by decide +kernel⟩
theorem r_squares (z : Z K mg base) : FnR P w K mg base CX0 1 (recAt K (He.ma K (He.ga K "Realm") "squares") "property") (spRG K N4.t) := by
  refine fn_plain (f_MRealm_squares z.c) sc_rsquares (fun vs H Q E h => ?_) (fun _ _ _ _ _ _ us hl => match us, hl with | [_], _ => rfl) fun cdv A outer s H vs Q E hr h => ?_
  · obtain ⟨a, r, rfl, _⟩ := h; rfl
  · obtain ⟨a, n, rfl, ⟨dx, p, o⟩, h⟩ := h
    refine ⟨_, pss_one (ps_ret (pe_ix ix_tup (pe_fld (pv 0) rfl) pe_int (fun _ _ => rfl))), ?_⟩
    exact ⟨_, rfl, a, _, dx, _, _, rfl, o.at_, cls_realm z, na_realm z, rfl, p, _, _, _, rfl, rfl, SqT.of o.np, atI_nat (j := 3) rfl, h⟩

/-- reading self._numbers -/
theorem rd_num {σ : L2.St} {H : Hp} {Q : VK} {j : Nat} {a dx p : Addr} {n : N4} (z : Z K mg base) (o : RM K H a dx p n) (hσ : σ[j]? = some (some (.ref a))) (h : Q (.ref p) H) : tFld K (tVar j) "_numbers" σ H Q :=
  ⟨_, hσ, a, _, dx, _, _, rfl, o.at_, cls_realm z, na_realm z, rfl, h⟩
theorem rd_numI {σ : L2.St} {H : Hp} {Q : VK} {j k : Nat} {a dx p : Addr} {n : N4} {v : V} (z : Z K mg base) (o : RM K H a dx p n) (hσ : σ[j]? = some (some (.ref a))) (hk : (n4V n)[k]? = some v) (h : Q v H) : tOp (rIxT K) (tFld K (tVar j) "_numbers") (tC (.int (k : Int))) σ H Q :=
  rd_num z o hσ ⟨p, _, _, _, rfl, rfl, SqT.of o.np, atI_nat hk, h⟩
/-! ### within -/
theorem sc_rwithin : FnScope ["self", "other"] ["self", "other"] dMRealm_within.scope := ⟨rfl, rfl, rfl, by decide +kernel, rfl, by decide +kernel, by decide +kernel⟩
def spRW (K : PySem.W.Frag) : Sp := fun vs H Q _ => ∃ a m b n, vs = [.ref a, .ref b] ∧ IsRealm K H a m ∧ IsRealm K H b n ∧ ∀ c H', Same H H' → (c = true ↔ JM.within m n) → Q (.bl c) H'
theorem r_within (z : Z K mg base) : FnR P w K mg base CX0 3 (He.ma K (He.ga K "Realm") "within") (spRW K) := by
  refine fn_plain (f_MRealm_within z.c) sc_rwithin (fun vs H Q E h => ?_) (fun _ _ _ _ _ _ us hl => match us, hl with | [_, _], _ => rfl) fun cdv A outer s H vs Q E hr h => ?_
  · obtain ⟨a, m, b, n, rfl, _⟩ := h; rfl
  · obtain ⟨a, m, b, n, rfl, ⟨dx, p, o⟩, ⟨dx', p', o'⟩, q⟩ := h
    have G1 : GF P w K mg base 2 "lies_within" spLw := g_lwithin z
    refine ⟨_, pss_one (ps_ret (pe_cf G1 hr (by rfl) pass0 (pa_cons (pe_fld (pv 0) rfl) (pa_cons (pe_fld (pv 1) rfl) pa_nil)))), ?_⟩
    dsimp only [tRet, tCR, tCons, tNil]
    refine rd_num z o rfl ?_
    refine rd_num z o' rfl ?_
    exact ⟨p, p', m, n, rfl, o.np, o'.np, q⟩
/-! ### __eq__ -/
theorem sc_req : FnScope ["self", "other"] ["self", "other"] dMRealm_eq.scope := ⟨rfl, rfl, rfl, by decide +kernel, rfl, by decide +kernel, by decide +kernel⟩
def spREq (K : PySem.W.Frag) : Sp := fun vs H Q _ => ∃ a m b n, vs = [.ref a, .ref b] ∧ IsRealm K H a m ∧ IsRealm K H b n ∧ Q (.bl (decide (m = n))) H
def n4D (n : N4) : PyData := .tuple [.int n.i, .int n.o, .int n.s, .int n.t]
theorem n4D_dp {H : Hp} {p : Addr} {n : N4} (h : H p = some (.tup (n4V n))) : Dp K H (.ref p) (n4D n) := .tup (SqT.of h) (.cons (.int _) (.cons (.int _) (.cons (.int _) (.cons (.int _) .nil))))
theorem n4D_sh {n : N4} : SeqAt.shaped (n4D n) = true := by
  cases n
  rfl
theorem n4D_eq {m n : N4} : PyData.eqv (n4D m) (n4D n) = decide (m = n) := by
  obtain ⟨i, o, s, t⟩ := m
  obtain ⟨i', o', s', t'⟩ := n
  rw [Bool.eq_iff_iff]
  simp [n4D, PyData.eqv, PyData.eqvAll]
  omega
theorem r_eq (z : Z K mg base) : FnR P w K mg base CX0 1 (He.ma K (He.ga K "Realm") "__eq__") (spREq K) := by
  refine fn_plain (f_MRealm_eq z.c) sc_req (fun vs H Q E h => ?_) (fun _ _ _ _ _ _ us hl => match us, hl with | [_, _], _ => rfl) fun cdv A outer s H vs Q E hr h => ?_
  · obtain ⟨a, m, b, n, rfl, _⟩ := h; rfl
  · obtain ⟨a, m, b, n, rfl, ⟨dx, p, o⟩, ⟨dx', p', o'⟩, q⟩ := h
    refine ⟨_, pss_one (ps_ret (pe_and (pe_callB call_isi (by rfl) (z.free (c_free_isinstance z.c)) (by decide +kernel) (pa_cons (pv 1) (pa_cons (pe_glob (v := .ref (He.ga K "Realm")) (by rfl) (z.cls (c_glo_Realm z.c)) rfl) pa_nil))) (pe_one (pe_cmpR (op_eqD hr.units) (pe_fld (pv 0) rfl) (pe_fld (pv 1) rfl) (nomark _))))), ?_⟩
    refine ⟨_, rfl, _, _, _, _, true, rfl, .own _, ty_ins o'.at_ (cls_realm z) (tyC_of (c_ty_Realm z.c)), of_decide_eq_true (c_isi_LL z.c), _, rfl, iteT ?_⟩
    refine rd_num z o rfl ?_
    refine rd_num z o' rfl ?_
    refine ⟨_, _, n4D_dp o.np, n4D_dp o'.np, n4D_sh, n4D_sh, ?_⟩
    rw [n4D_eq]
    exact q
/-! ### __contains__ -/
theorem sc_rcon : FnScope ["self", "value", "a", "b"] ["self", "value"] dMRealm_contains.scope := ⟨rfl, rfl, rfl, by decide +kernel, rfl, by decide +kernel, by decide +kernel⟩
def spRC (K : PySem.W.Frag) : Sp := fun vs H Q _ => ∃ a m b r, vs = [.ref a, .ref b] ∧ IsRealm K H a m ∧ ROb K H b r ∧ JM.dep r ≤ 3 ∧ ∀ c H', Same H H' → (c = true ↔ JM.ringIn (num r) m) → Q (.bl c) H'
theorem known_iff {r : JM.RN} {q : Nat} : knownB r.but r.m q = true ↔ JM.known r q := by
  unfold knownB JM.known
  cases r.but with
  | true => rw [if_pos rfl, if_pos rfl, decide_eq_true_eq]
  | false => rw [if_neg Bool.false_ne_true, if_neg Bool.false_ne_true, decide_eq_true_eq]
theorem r_con (z : Z K mg base) : FnR P w K mg base CX0 4 (He.ma K (He.ga K "Realm") "__contains__") (spRC K) := by
  refine fn_plain (f_MRealm_contains z.c) sc_rcon (fun vs H Q E h => ?_) (fun _ _ _ _ _ _ us hl => match us, hl with | [_, _], _ => rfl) fun cdv A outer s H vs Q E hr h => ?_
  · obtain ⟨a, m, b, n, rfl, _⟩ := h; rfl
  · obtain ⟨a, m, b, r, rfl, ⟨dx, p, o⟩, ⟨Cb, dxb, fsb, pb, qb, keyb, txtb, ob⟩, hd, q⟩ := h
    have G1 : GF P w K mg base 3 "inverse_known" spKnown := g_iknown z
    have G2 : GF P w K mg base 1 "divides" spDiv := g_divides z
    have bd := JM.num_29 ob.wf hd
    have B4 := bd.m
    have m0 := (JM.num_ok ob.wf).m0
    refine ⟨_, pss_cons (ps_if (pw_or (pt_not (pt_val (pe_callB call_isi (by rfl) (z.free (c_free_isinstance z.c)) (by decide +kernel) (pa_cons (pv 1) (pa_cons (pe_glob (v := .ref (He.ga K "Ring")) (by rfl) (z.cls (c_glo_Ring z.c)) rfl) pa_nil)))))
          (pw_or1 (pt_not (pt_val (pe_cf G1 hr (by rfl) pass0 (pa_cons (pe_fld (pv 1) rfl) (pa_cons (pe_ix ix_tup (pe_fld (pv 0) rfl) pe_int (fun _ _ => rfl)) pa_nil))))))).pt (pss_one (ps_ret pe_bl)) pss_nil)
      (pss_one (ps_ret (pe_callB (cr_all rfl) (by rfl) (z.free (c_free_all z.c)) (by decide +kernel) (pa_cons (pe_lc (own := [("a", 2), ("b", 3)]) (g := gAB K 2 3) (tt := tYes) (te := tCR spDiv (tCons (tVar 2) (tCons (tVar 3) tNil))) rfl sc_rcon.nd
            (RZ.pi_zipA (by rfl) (z.free (c_free_zip z.c)) (pa_cons (pe_fld (pv 1) rfl) (pa_cons (pe_slice sl_tup (pe_fld (pv 0) rfl) (po_some pe_int) po_none) pa_nil))) (blkOk_by (by kernel_rfl))
            (fun _ _ _ _ _ => pg_tup rfl (pgs_cons (pg_name sc_rcon.nd rfl (.inl rfl)) (pgs_cons (pg_name sc_rcon.nd rfl (.inl rfl)) pgs_nil))) (fun _ _ _ _ _ => pts_nil) (fun _ _ _ _ _ => pe_cf G2 (hr.mono (by decide)) (by rfl) pass0 (pa_cons (pv 2) (pa_cons (pv 3) pa_nil)))) pa_nil)))), ?_⟩
    refine ⟨_, rfl, _, _, _, _, true, rfl, .own _, ty_ins ob.at_ ob.cl.cls ob.cl.ty, ob.cl.isr, _, rfl, iteF ⟨_, rfl, b, Cb, dxb, fsb, _, rfl, ob.at_, ob.cl.cls, ob.cl.na _ (by decide), ob.i, ?_⟩⟩
    dsimp only [tCons, tCR, tNil]
    refine rd_numI (k := 0) z o rfl rfl ⟨qb, _, _, m.i, rfl, ob.ip, o.nf.pos, m0, by omega, _, rfl, ?_⟩
    unfold JM.ringIn at q
    rw [← known_iff] at q
    cases hk : knownB (num r).but (num r).m m.i with
    | false =>
      refine iteN1 (q false H (fun _ _ e => e) ?_)
      rw [hk]
      exact ⟨fun h => (by cases h), fun h => (by cases h.1)⟩
    | true =>
      rw [hk] at q
      refine iteNS0 ⟨_, rfl, b, Cb, dxb, fsb, _, rfl, ob.at_, ob.cl.cls, ob.cl.na _ (by decide), ob.n, ?_⟩
      refine ⟨_, rfl, a, _, dx, _, _, rfl, o.at_, cls_realm z, na_realm z, rfl, _, rfl, p, _, rfl, SqT.of o.np, cutne, fun u hu => ?_⟩
      have k1 := same_new (o := .tup (cutV (n4V m) (some 1) none)) hu
      refine ⟨pb, u, _, _, rfl, .inr ⟨SqT.of (k1 _ _ ob.np), SqT.of upd_same, fun D hD => ?_⟩⟩
      refine lc_div (x1 := (num r).o) (x2 := (num r).s) (x3 := (num r).t) (y1 := m.o) (y2 := m.s) (y3 := m.t) (by decide : 2 < 4) (by decide : 3 < 4) (by decide) hD (SqT.of (k1 _ _ ob.np)) (SqT.of upd_same) (fun H' k => ⟨SqT.of (k _ _ (k1 _ _ ob.np)), SqT.of (k _ _ upd_same)⟩) (fun _ _ => rfl) (fun _ _ => rfl) (fun _ _ => rfl) fun H' k hd => ?_
      refine ⟨D, [decide ((num r).o ∣ m.o), decide ((num r).s ∣ m.s), decide ((num r).t ∣ m.t)], rfl, SqL.of hd, q _ H' (k1.trans k) ?_⟩
      simp only [List.all_cons, List.all_nil, id, Bool.and_eq_true, decide_eq_true_eq, Bool.and_true]
      exact ⟨fun h => ⟨trivial, h.1, h.2.1, h.2.2⟩, fun h => ⟨h.2.1, h.2.2.1, h.2.2.2⟩⟩
end
end J

/-! Realm: or, and -/
namespace J
open PySem PySem.Spec PyProof.Rows L2
open JM (N4 NF RS num)
section
variable {P : Program} {w : World} {K : PySem.W.Frag} {mg : Str → Option Value} {base : Heap}
theorem sc_ror : FnScope ["self", "other", "one", "inverse", "ones", "swaps", "squares"] ["self", "other"] dMRealm_or.scope := ⟨rfl, rfl, rfl, by decide +kernel, rfl, by decide +kernel, by decide +kernel⟩
structure N29 (n : N4) : Prop where
  o : n.o < 2 ^ 29
  s : n.s < 2 ^ 29
  t : n.t < 2 ^ 29
def spROr (K : PySem.W.Frag) : Sp := fun vs H Q _ => ∃ a m b n, vs = [.ref a, .ref b] ∧ IsRealm K H a m ∧ IsRealm K H b n ∧ N29 m ∧ N29 n ∧ ∀ c H', Same H H' → IsRealm K H' c (JM.orN m n) → Q (.ref c) H'
theorem joined_i {m n : N4} (hm : 0 < m.i) (hn : 0 < n.i) (hm2 : m.i < 2 ^ 29) (hn2 : n.i < 2 ^ 29) : 0 < (JM.joined m n).i ∧ (JM.joined m n).i < 2 ^ 29 := by
  unfold JM.joined
  dsimp only
  split
  · exact ⟨Nat.one_pos, by show 1 < 2 ^ 29; decide⟩
  · split
    · exact ⟨Nat.gcd_pos_of_pos_left _ hm, Nat.lt_of_le_of_lt (Nat.gcd_le_left _ hm) hm2⟩
    · split
      · exact ⟨JM.strip_pos _ hm, Nat.lt_of_le_of_lt JM.strip_le hm2⟩
      · exact ⟨JM.strip_pos _ hn, Nat.lt_of_le_of_lt JM.strip_le hn2⟩
theorem r_or (z : Z K mg base) : FnR P w K mg base CX0 6 (He.ma K (He.ga K "Realm") "__or__") (spROr K) := by
  refine fn_plain (f_MRealm_or z.c) sc_ror (fun vs H Q E h => ?_) (fun _ _ _ _ _ _ us hl => match us, hl with | [_, _], _ => rfl) fun cdv A outer s H vs Q E hr h => ?_
  · obtain ⟨a, m, b, n, rfl, _⟩ := h; rfl
  · obtain ⟨a, m, b, n, rfl, ⟨dx, p, o⟩, ⟨dx', p', o'⟩, bm, bn, q⟩ := h
    have G1 : GF P w K mg base 3 "joined" spJoined := g_joined z
    obtain ⟨fd, FD, F⟩ := ok_realm (P := P) (w := w) z
    obtain ⟨mv, hb⟩ := b5 FD
    refine ⟨_, pss_cons (ps_if (pw_or (pt_cmpR op_eq (pe_ix ix_tup (pe_fld (pv 0) rfl) pe_int (fun _ _ => rfl)) pe_int (nomark _)) (pw_or1 (pt_cmpR op_eq (pe_ix ix_tup (pe_fld (pv 1) rfl) pe_int (fun _ _ => rfl)) pe_int (nomark _)))).pt
        (pss_cons (ps_set (i := 2) sc_ror.nd rfl (.inl rfl) (pe_ifExp (pt_cmpR op_eq (pe_ix ix_tup (pe_fld (pv 0) rfl) pe_int (fun _ _ => rfl)) pe_int (nomark _)) (pe_fld (pv 1) rfl) (pe_fld (pv 0) rfl)))
          (pss_one (ps_ret (pe_makeK0 (mk_realm z) F hr (by rfl) (z.cls (c_glo_Realm z.c)) hb pass0 (pk_cons (pe_ix ix_tup (pv 2) pe_int (fun _ _ => rfl)) (pk_cons (pe_ix ix_tup (pv 2) pe_int (fun _ _ => rfl)) (pk_cons (pe_ix ix_tup (pv 2) pe_int (fun _ _ => rfl)) (pk_cons (pe_ix ix_tup (pv 2) pe_int (fun _ _ => rfl)) (pk_cons pe_bl pk_nil))))))))) pss_nil)
      (pss_cons (ps_asg (pe_cf G1 (hr.mono (by decide)) (by rfl) pass0 (pa_cons (pe_fld (pv 0) rfl) (pa_cons (pe_fld (pv 1) rfl) pa_nil))) (pg_lst rfl (pgs_cons (pg_name (i := 3) sc_ror.nd rfl (.inl rfl)) (pgs_cons (pg_name (i := 4) sc_ror.nd rfl (.inl rfl)) (pgs_cons (pg_name (i := 5) sc_ror.nd rfl (.inl rfl)) (pgs_cons (pg_name (i := 6) sc_ror.nd rfl (.inl rfl)) pgs_nil))))))
      (pss_one (ps_ret (pe_makeK0 (mk_realm z) F hr (by rfl) (z.cls (c_glo_Realm z.c)) hb pass0 (pk_cons (pv 3) (pk_cons (pv 4) (pk_cons (pv 5) (pk_cons (pv 6) (pk_cons pe_bl pk_nil))))))))), ?_⟩
    refine rd_numI (k := 1) z o rfl rfl ⟨rfl, _, rfl, ?_⟩
    rw [dec_one]
    by_cases h1 : m.o = 1
    · refine iteDT h1 (iteT ?_)
      refine rd_numI (k := 1) z o rfl rfl ⟨rfl, _, rfl, ?_⟩
      rw [dec_one]
      refine iteDT h1 (rd_num z o' rfl ?_)
      refine ⟨_, rfl, p', _, _, _, rfl, rfl, SqT.of o'.np, atI_nat (j := 0) rfl, _, rfl, p', _, _, _, rfl, rfl, SqT.of o'.np, atI_nat (j := 1) rfl, _, rfl, p', _, _, _, rfl, rfl, SqT.of o'.np, atI_nat (j := 2) rfl, _, rfl, p', _, _, _, rfl, rfl, SqT.of o'.np, atI_nat (j := 3) rfl, rfl, rfl, ?_⟩
      refine rm_make (.inl ⟨rfl, o'.nf.pos, o'.b⟩) fun c H' _ k r => q c H' k ?_
      unfold JM.orN
      rw [if_pos h1]
      exact r
    · refine iteDF h1 ?_
      refine rd_numI (k := 1) z o' rfl rfl ⟨rfl, _, rfl, ?_⟩
      rw [dec_one]
      by_cases h2 : n.o = 1
      · refine iteDT h2 ?_
        refine rd_numI (k := 1) z o rfl rfl ⟨rfl, _, rfl, ?_⟩
        rw [dec_one]
        refine iteDF h1 (rd_num z o rfl ?_)
        refine ⟨_, rfl, p, _, _, _, rfl, rfl, SqT.of o.np, atI_nat (j := 0) rfl, _, rfl, p, _, _, _, rfl, rfl, SqT.of o.np, atI_nat (j := 1) rfl, _, rfl, p, _, _, _, rfl, rfl, SqT.of o.np, atI_nat (j := 2) rfl, _, rfl, p, _, _, _, rfl, rfl, SqT.of o.np, atI_nat (j := 3) rfl, rfl, rfl, ?_⟩
        refine rm_make (.inl ⟨rfl, o.nf.pos, o.b⟩) fun c H' _ k r => q c H' k ?_
        unfold JM.orN
        rw [if_neg h1, if_pos h2]
        exact r
      · refine iteDF h2 ?_
        dsimp only [tNext, tSeq, tAsg, tCR, tCons, tNil]
        refine rd_num z o rfl ?_
        refine rd_num z o' rfl ?_
        refine ⟨p, p', m, n, rfl, o.np, o'.np, ⟨bm.o, bm.s, bm.t⟩, ⟨bn.o, bn.s, bn.t⟩, fun u H1 k1 hu => ?_⟩
        refine ⟨u, _, rfl, SqL.of hu, rfl, _, _, rfl, _, _, rfl, _, _, rfl, _, _, rfl, rfl, ?_⟩
        obtain ⟨j1, j2⟩ := joined_i o.nf.pos o'.nf.pos o.b o'.b
        refine ⟨_, rfl, _, rfl, _, rfl, _, rfl, rfl, rfl, ?_⟩
        refine rm_make (.inl ⟨rfl, j1, j2⟩) fun c H' _ k r => q c H' (k1.trans k) ?_
        unfold JM.orN
        rw [if_neg h1, if_neg h2]
        exact r
/-! ### and -/
theorem sc_rand : FnScope ["self", "other", "one", "two"] ["self", "other"] dMRealm_and.scope := ⟨rfl, rfl, rfl, by decide +kernel, rfl, by decide +kernel, by decide +kernel⟩
def spRAnd (K : PySem.W.Frag) : Sp := fun vs H Q _ => ∃ a m b n, vs = [.ref a, .ref b] ∧ IsRealm K H a m ∧ IsRealm K H b n ∧ m.i < 2 ^ 14 ∧ n.i < 2 ^ 14 ∧ ∀ c H' l, Same H H' → IsRealm K H' c l → Q (.ref c) H'
theorem r_and (z : Z K mg base) : FnR P w K mg base CX0 6 (He.ma K (He.ga K "Realm") "__and__") (spRAnd K) := by
  refine fn_plain (f_MRealm_and z.c) sc_rand (fun vs H Q E h => ?_) (fun _ _ _ _ _ _ us hl => match us, hl with | [_, _], _ => rfl) fun cdv A outer s H vs Q E hr h => ?_
  · obtain ⟨a, m, b, n, rfl, _⟩ := h; rfl
  · obtain ⟨a, m, b, n, rfl, ⟨dx, p, o⟩, ⟨dx', p', o'⟩, bm, bn, q⟩ := h
    have G1 : GF P w K mg base 2 "multiple" spMul := g_multiple z
    have G2 : GF P w K mg base 1 "gcd" spGcd := g_gcd z
    obtain ⟨fd, FD, F⟩ := ok_realm (P := P) (w := w) z
    obtain ⟨mv, hb⟩ := b5 FD
    refine ⟨_, pss_cons (ps_par (i := 2) (j := 3) rfl sc_rand.nd rfl rfl (by decide) rfl rfl (pa_cons (pe_fld (pv 0) rfl) (pa_cons (pe_fld (pv 1) rfl) pa_nil)) (by rfl))
      (pss_one (ps_ret (pe_makeK0 (mk_realm z) F hr (by rfl) (z.cls (c_glo_Realm z.c)) hb pass0 (pk_cons (pe_cf G1 (hr.mono (by decide)) (by rfl) pass0 (pa_cons (pe_ix ix_tup (pv 2) pe_int (fun _ _ => rfl)) (pa_cons (pe_ix ix_tup (pv 3) pe_int (fun _ _ => rfl)) pa_nil))) (pk_cons (pe_cf G2 (hr.mono (by decide)) (by rfl) pass0 (pa_cons (pe_ix ix_tup (pv 2) pe_int (fun _ _ => rfl)) (pa_cons (pe_ix ix_tup (pv 3) pe_int (fun _ _ => rfl)) pa_nil))) (pk_cons (pe_cf G2 (hr.mono (by decide)) (by rfl) pass0 (pa_cons (pe_ix ix_tup (pv 2) pe_int (fun _ _ => rfl)) (pa_cons (pe_ix ix_tup (pv 3) pe_int (fun _ _ => rfl)) pa_nil))) (pk_cons (pe_cf G2 (hr.mono (by decide)) (by rfl) pass0 (pa_cons (pe_ix ix_tup (pv 2) pe_int (fun _ _ => rfl)) (pa_cons (pe_ix ix_tup (pv 3) pe_int (fun _ _ => rfl)) pa_nil))) (pk_cons pe_bl pk_nil)))))))), ?_⟩
    dsimp only [tSeq, tPar, tCons, tNil]
    refine rd_num z o rfl ?_
    refine rd_num z o' rfl ?_
    refine ⟨_, _, rfl, ?_⟩
    have hl : Nat.lcm m.i n.i < 2 ^ 29 := Nat.lt_of_le_of_lt (JM.lcm_le_mul _ _) (Nat.lt_of_lt_of_le (Nat.mul_lt_mul'' bm bn) (by decide))
    have hl0 : 0 < Nat.lcm m.i n.i := Nat.lcm_pos o.nf.pos o'.nf.pos
    refine ⟨_, rfl, p, _, _, _, rfl, rfl, SqT.of o.np, atI_nat (j := 0) rfl, _, rfl, p', _, _, _, rfl, rfl, SqT.of o'.np, atI_nat (j := 0) rfl, m.i, n.i, rfl, by omega, by omega, fun H1 k1 => ?_⟩
    refine ⟨_, rfl, p, _, _, _, rfl, rfl, SqT.of (k1 _ _ o.np), atI_nat (j := 1) rfl, _, rfl, p', _, _, _, rfl, rfl, SqT.of (k1 _ _ o'.np), atI_nat (j := 1) rfl, _, _, rfl, ?_⟩
    refine ⟨_, rfl, p, _, _, _, rfl, rfl, SqT.of (k1 _ _ o.np), atI_nat (j := 2) rfl, _, rfl, p', _, _, _, rfl, rfl, SqT.of (k1 _ _ o'.np), atI_nat (j := 2) rfl, _, _, rfl, ?_⟩
    refine ⟨_, rfl, p, _, _, _, rfl, rfl, SqT.of (k1 _ _ o.np), atI_nat (j := 3) rfl, _, rfl, p', _, _, _, rfl, rfl, SqT.of (k1 _ _ o'.np), atI_nat (j := 3) rfl, _, _, rfl, rfl, rfl, ?_⟩
    exact rm_make (.inl ⟨rfl, hl0, hl⟩) fun c H' _ k r => q c H' _ (k1.trans k) r
end
end J

/-! the law's bag -/
namespace J
open PySem PySem.Spec PyProof.Rows L2
section
variable {P : Program} {w : World} {K : PySem.W.Frag} {mg : Str → Option Value} {base : Heap}
structure Bg (H : Hp) (b c : Addr) (cells : List Int) (i r m : Nat) : Prop where
  at_ : H b = some (.lst [.ref c, nt i, nt r, nt m])
  ce : H c = some (.lst (cells.map V.int))
  ne : c ≠ b
  len : cells.length ≤ 63
  mb : m < 2 ^ 32
def Bag (H : Hp) (b : Addr) : Prop := ∃ c cells i r m, Bg H b c cells i r m
theorem Bag.lst {H : Hp} {b : Addr} (h : Bag H b) : ∃ xs, H b = some (.lst xs) := let ⟨_, _, _, _, _, o⟩ := h; ⟨_, o.at_⟩
theorem Bag.same {H H' : Hp} {b : Addr} (h : Bag H b) (k : Same H H') : Bag H' b := let ⟨c, ce, i, r, m, o⟩ := h; ⟨c, ce, i, r, m, k _ _ o.at_, k _ _ o.ce, o.ne, o.len, o.mb⟩
theorem Bag.keepT {H H' : Hp} {b : Addr} (h : Bag H b) (k : SameB b H H') : KeepT H H' := let ⟨_, e⟩ := h.lst; SameB.keepT e k
theorem Bg.put {H : Hp} {b c : Addr} {cells : List Int} {i r m : Nat} (h : Bg H b c cells i r m) {i' r' m' : Nat} (hm : m' < 2 ^ 32) : Bg (upd H b (.lst [.ref c, nt i', nt r', nt m'])) b c cells i' r' m' :=
  ⟨upd_same, by rw [upd_ne h.ne]; exact h.ce, h.ne, h.len, hm⟩
/-! ### _law_bag -/
theorem sc_bag : FnScope ["_law_script", "_law_cells"] ["_law_script"] dF_law_bag.scope := ⟨rfl, rfl, rfl, by decide +kernel, rfl, by decide +kernel, by decide +kernel⟩
def spBag (K : PySem.W.Frag) : Sp := fun vs H Q _ => ∃ (p : Addr) (ns : List Int), vs = [.ref p] ∧ SqL K H p (ns.map V.int) ∧ ∀ b H', H b = none → Bag H' b → Same H H' → Q (.ref b) H'
theorem cut63 {ns : List Int} : ∃ ms : List Int, cutV (ns.map V.int) none (some 63) = ms.map V.int ∧ ms.length ≤ 63 := by
  refine ⟨(ns.drop (HT.sIx ns.length 0 none)).take (HT.sIx ns.length ns.length (some 63) - HT.sIx ns.length 0 none), ?_, ?_⟩
  · unfold cutV
    rw [List.length_map, List.map_take, List.map_drop]
  · rw [List.length_take]
    have h : HT.sIx ns.length ns.length (some 63) - HT.sIx ns.length 0 none ≤ 63 := by
      unfold HT.sIx
      simp
      omega
    omega
theorem g_bag (z : Z K mg base) : GF P w K mg base 1 "_law_bag" (spBag K) := by
  refine gf_of z.c z.x z.g (c_glo__law_bag z.c) (f_F_law_bag z.c) (fn_plain (f_F_law_bag z.c) sc_bag (fun vs H Q E h => ?_) (fun _ _ _ _ _ _ us hl => match us, hl with | [_], _ => rfl) fun cdv A outer s H vs Q E hr h => ?_)
  · obtain ⟨p, ns, rfl, _⟩ := h; rfl
  · obtain ⟨p, ns, rfl, hp, q⟩ := h
    refine ⟨_, pss_cons (ps_set (i := 1) sc_bag.nd rfl (.inl rfl) (pe_callTy call_list_of (by rfl) (z.free (c_free_list z.c)) (by decide +kernel) (pa_cons (pe_slice sl_list (pv 0) po_none (po_some pe_int)) pa_nil)))
      (pss_one (ps_ret (pe_lst (pa_cons (pv 1) (pa_cons pe_int (pa_cons pe_int (pa_cons (pe_op op_add pe_int (pe_op op_mul pe_int (pe_callB call_len_seq (by rfl) (z.free (c_free_len z.c)) (by decide +kernel) (pa_cons (pv 1) pa_nil)))) pa_nil))))))), ?_⟩
    obtain ⟨ms, e1, e2⟩ := cut63 (ns := ns)
    refine ⟨_, rfl, _, rfl, p, _, rfl, hp, fun u hu => ?_⟩
    rw [e1]
    have k1 := same_new (o := .lst (ms.map V.int)) hu
    refine ⟨u, _, rfl, .inl (SqL.of upd_same), fun c hc => ?_⟩
    have k2 := same_new (o := .lst (ms.map V.int)) hc
    refine ⟨_, rfl, _, rfl, c, _, rfl, .inl (SqL.of upd_same), _, _, rfl, rfl, .inl ⟨by decide, by decide⟩, _, _, rfl, rfl, lnb rfl, fun b hb => ?_⟩
    have hcb : c ≠ b := fun e => by rw [← e, upd_same] at hb; cases hb
    have hn : ∀ a, upd (upd H u (.lst (ms.map V.int))) c (.lst (ms.map V.int)) a = none → H a = none := fun a h => by
      cases e : H a with
      | none => rfl
      | some o => rw [k2 _ _ (k1 _ _ e)] at h; cases h
    have e3 : (12024 : Int) + 17 * (((ms.map V.int).length : Nat) : Int) = ((12024 + 17 * ms.length : Nat) : Int) := by
      rw [List.length_map]; omega
    refine q b _ (hn b hb) ⟨c, ms, 0, 0, 12024 + 17 * ms.length, ?_, by rw [upd_ne hcb]; exact upd_same, hcb, e2, by omega⟩ ((k1.trans k2).trans (same_new hb))
    rw [upd_same]
    show some (HO.lst [V.ref c, V.int 0, V.int 0, V.int ((12024 : Int) + 17 * (((ms.map V.int).length : Nat) : Int))]) = _
    rw [e3] <;> rfl
/-! ### _law_draw -/
theorem sc_draw : FnScope ["_law_bag_here", "_law_many", "_law_cell", "_law_got"] ["_law_bag_here", "_law_many"] dF_law_draw.scope := ⟨rfl, rfl, rfl, by decide +kernel, rfl, by decide +kernel, by decide +kernel⟩
def spDraw : Sp := fun vs H Q _ => ∃ (b : Addr) (n : Nat), vs = [.ref b, nt n] ∧ Bag H b ∧ 0 < n ∧ n < 2 ^ 29 ∧ ∀ (r : Nat) H', r < n → Bag H' b → SameB b H H' → Q (nt r) H'

theorem bg_ix {σ : L2.St} {H : Hp} {Q : VK} {b c : Addr} {cells : List Int} {i r m k : Nat} {v : V} (o : Bg H b c cells i r m) (hσ : σ[0]? = some (some (.ref b))) (hk : [V.ref c, nt i, nt r, nt m][k]? = some v) (h : Q v H) : tOp (rIxL K) (tVar 0) (tC (.int (k : Int))) σ H Q :=
  ⟨_, hσ, b, _, _, _, rfl, rfl, SqL.of o.at_, atI_nat hk, h⟩
theorem toNat_mod (e : Int) {n : Int} (h : 0 < n) (hb : n < 2 ^ 32) : ∃ m : Nat, e % n = (m : Int) ∧ m < 2 ^ 32 := by
  have h1 := Int.emod_nonneg e (Int.ne_of_gt h)
  have h2 := Int.emod_lt_of_pos e h
  exact ⟨(e % n).toNat, by omega, by omega⟩
theorem g_draw (z : Z K mg base) : GF P w K mg base 1 "_law_draw" spDraw := by
  refine gf_of z.c z.x z.g (c_glo__law_draw z.c) (f_F_law_draw z.c) (fn_plain (f_F_law_draw z.c) sc_draw (fun vs H Q E h => ?_) (fun _ _ _ _ _ _ us hl => match us, hl with | [_, _], _ => rfl) fun cdv A outer s H vs Q E hr h => ?_)
  · obtain ⟨b, n, rfl, _⟩ := h; rfl
  · obtain ⟨b, n, rfl, ⟨c, cells, i, r, m, o⟩, n0, n1, q⟩ := h
    obtain ⟨t2, T2, hrest⟩ : ∃ t, PSs (cxOf CX0 P w K mg base ["_law_bag_here", "_law_many", "_law_cell", "_law_got"] dF_law_draw.qual dF_law_draw.scope (dF_law_draw.at_ K) cdv A outer s H E).nox (dF_law_draw.body.drop 1) t ∧
        ∀ (v : Option V) (H1 : Hp) (i r m : Nat), Bg H1 b c cells i r m → SameB b H H1 → t { nx := fun _ H' => Q .non H', rt := Q } [some (.ref b), some (nt n), v, none] H1 := by
      refine ⟨_, pss_cons (ps_if (pt_cmpR op_gt (pe_ix ix_list (pv 0) pe_int (fun _ _ => rfl)) pe_int (nomark _))
        (pss_cons (ps_set (i := 3) sc_draw.nd rfl (.inl rfl) (pe_op op_mod (pe_callTy call_int1 (by rfl) (z.free (c_free_int z.c)) (by decide +kernel) (pa_cons (pe_ix ix_list (pv 0) pe_int (fun _ _ => rfl)) pa_nil)) (pv 1)))
          (pss_cons (ps_asg (pe_op op_fdivN (pe_ix ix_list (pv 0) pe_int (fun _ _ => rfl)) (pv 1)) (pg_sub (pv 0) pe_int set_list)) (pss_one (ps_ret (pv 3))))) pss_nil)
      (pss_cons (ps_asg (pe_op op_mod (pe_callTy call_int1 (by rfl) (z.free (c_free_int z.c)) (by decide +kernel) (pa_cons (pe_op op_add (pe_op op_add (pe_op op_mul (pe_op op_mul (pe_ix ix_list (pv 0) pe_int (fun _ _ => rfl)) (pe_ix ix_list (pv 0) pe_int (fun _ _ => rfl))) pe_int) (pe_op op_mul (pe_ix ix_list (pv 0) pe_int (fun _ _ => rfl)) pe_int)) pe_int) pa_nil)) pe_int) (pg_sub (pv 0) pe_int set_list))
      (pss_one (ps_ret (pe_op op_mod (pe_callTy call_int1 (by rfl) (z.free (c_free_int z.c)) (by decide +kernel) (pa_cons (pe_op op_fdivN (pe_ix ix_list (pv 0) pe_int (fun _ _ => rfl)) pe_int) pa_nil)) (pv 1))))), ?_⟩
      clear o i r m
      intro v H1 i r m o k
      refine bg_ix (k := 2) o rfl rfl ⟨_, _, rfl, rfl, _, rfl, ite2 (fun h0 => ?_) (fun h0 => ?_)⟩
      · refine bg_ix (k := 2) o rfl rfl (.inl ⟨_, rfl, _, rfl, _, _, rfl, rfl, by omega, ?_⟩)
        refine bg_ix (k := 2) o rfl rfl ⟨_, rfl, _, _, rfl, rfl, ⟨by omega, by omega⟩, _, rfl, b, _, _, 2, rfl, rfl, o.at_, rfl, ?_⟩
        refine ⟨_, rfl, ?_⟩
        show Q (V.int ((r : Int) % (n : Int))) (upd H1 b (.lst [V.ref c, nt i, V.int ((r : Int).fdiv (n : Int)), nt m]))
        rw [emod_nat, fdiv_nat]
        exact q _ _ (Nat.mod_lt _ n0) ⟨c, cells, i, r / n, m, o.put o.mb⟩ (k.trans sameB_upd)
      · have hm := o.mb
        refine bg_ix (k := 3) o rfl rfl ?_
        refine bg_ix (k := 3) o rfl rfl ⟨_, _, rfl, rfl, .inl ⟨by omega, by omega⟩, _, _, rfl, rfl, .inr ⟨by decide, by decide⟩, ?_⟩
        refine bg_ix (k := 3) o rfl rfl ⟨_, _, rfl, rfl, .inr ⟨by decide, by decide⟩, _, _, rfl, rfl, _, _, rfl, rfl, .inl ⟨_, rfl, _, _, rfl, rfl, (show (0 : Int) < 2147483579 by decide), ?_⟩⟩
        obtain ⟨m', e1, e2⟩ := toNat_mod ((m : Int) * (m : Int) * 3 + (m : Int) * 30089 + 1700047) (n := 2147483579) (by decide) (by decide)
        refine ⟨_, rfl, b, _, _, 3, rfl, rfl, o.at_, rfl, ?_⟩
        have o1 : Bg (upd H1 b (.lst ([V.ref c, nt i, nt r, nt m].set 3 (V.int (((m : Int) * (m : Int) * 3 + (m : Int) * 30089 + 1700047) % 2147483579))))) b c cells i r m' := by
          rw [e1]
          exact o.put e2
        refine bg_ix (k := 3) o1 rfl rfl ⟨_, _, rfl, rfl, ⟨by decide, by decide⟩, .inl ⟨_, rfl, _, rfl, _, _, rfl, rfl, by omega, ?_⟩⟩
        show Q (V.int ((m' : Int).fdiv 64 % (n : Int))) _
        have e3 : ((m' : Int).fdiv 64) = ((m' / 64 : Nat) : Int) := fdiv_nat m' 64
        rw [e3, emod_nat]
        exact q _ _ (Nat.mod_lt _ n0) ⟨c, cells, i, r, m', o1⟩ (k.trans sameB_upd)
    refine ⟨_, pss_cons (ps_if (pw_and (pt_cmpR op_eq (pe_ix ix_list (pv 0) pe_int (fun _ _ => rfl)) pe_int (nomark _)) (pw_and1 (pt_cmpR op_lt (pe_ix ix_list (pv 0) pe_int (fun _ _ => rfl)) (pe_callB call_len_seq (by rfl) (z.free (c_free_len z.c)) (by decide +kernel) (pa_cons (pe_ix ix_list (pv 0) pe_int (fun _ _ => rfl)) pa_nil)) (nomark _)))).pt
        (pss_cons (ps_set (i := 2) sc_draw.nd rfl (.inl rfl) (pe_ix ix_list (pe_ix ix_list (pv 0) pe_int (fun _ _ => rfl)) (pe_ix ix_list (pv 0) pe_int (fun _ _ => rfl)) (fun _ _ => rfl)))
          (pss_cons (ps_asg (pe_op op_add (pe_ix ix_list (pv 0) pe_int (fun _ _ => rfl)) pe_int) (pg_sub (pv 0) pe_int set_list))
          (pss_one (ps_if (pt_cmpR op_ge (pe_callB call_abs (by rfl) (z.free (c_free_abs z.c)) (by decide +kernel) (pa_cons (pv 2) pa_nil)) (pe_op op_pow pe_int pe_int) (nomark _)) (pss_one (ps_asg (pe_callB call_abs (by rfl) (z.free (c_free_abs z.c)) (by decide +kernel) (pa_cons (pv 2) pa_nil)) (pg_sub (pv 0) pe_int set_list))) (pss_one (ps_asg (pe_op op_mod (pe_callTy call_int1 (by rfl) (z.free (c_free_int z.c)) (by decide +kernel) (pa_cons (pe_op op_add (pe_op op_add (pe_op op_mul (pe_ix ix_list (pv 0) pe_int (fun _ _ => rfl)) pe_int) (pe_op op_mul (pe_op op_mod (pe_callTy call_int1 (by rfl) (z.free (c_free_int z.c)) (by decide +kernel) (pa_cons (pv 2) pa_nil)) pe_int) pe_int)) pe_int) pa_nil)) pe_int) (pg_sub (pv 0) pe_int set_list))))))) pss_nil) T2, ?_⟩
    refine bg_ix (k := 2) o rfl rfl ⟨rfl, _, rfl, ?_⟩
    rw [dec_zero]
    by_cases hr0 : r = 0
    · refine iteDT hr0 ?_
      refine bg_ix (k := 1) o rfl rfl ?_
      refine bg_ix (k := 0) o rfl rfl ⟨c, _, rfl, .inl (SqL.of o.ce), _, _, rfl, rfl, _, rfl, ite2 (fun hl => ?_) (fun hl => hrest none H i r m o (SameB.refl b H))⟩
      have hl : i < cells.length := by
        have := of_decide_eq_true hl
        rw [List.length_map] at this
        omega
      obtain ⟨v, hv⟩ : ∃ v, cells[i]? = some v := ⟨_, List.getElem?_eq_getElem hl⟩
      have hv2 : (cells.map V.int)[i]? = some (V.int v) := by rw [List.getElem?_map, hv]; rfl
      refine bg_ix (k := 0) o rfl rfl ?_
      refine bg_ix (k := 1) o rfl rfl ⟨c, _, _, _, rfl, rfl, SqL.of o.ce, atI_nat hv2, ?_⟩
      refine bg_ix (k := 1) o rfl rfl ⟨_, _, rfl, rfl, _, rfl, b, _, _, 1, rfl, rfl, o.at_, rfl, ?_⟩
      have o1 : Bg (upd H b (.lst ([V.ref c, nt i, nt r, nt m].set 1 (V.int ((i : Int) + 1))))) b c cells (i + 1) r m := o.put o.mb
      have k1 : SameB b H (upd H b (.lst ([V.ref c, nt i, nt r, nt m].set 1 (V.int ((i : Int) + 1))))) := sameB_upd
      refine ⟨_, rfl, v, rfl, _, _, rfl, rfl, ⟨by decide, by decide, by decide⟩, _, _, rfl, rfl, _, rfl, ite2 (fun _ => ?_) (fun _ => ?_)⟩
      · refine ⟨_, rfl, v, rfl, _, rfl, b, _, _, 2, rfl, rfl, o1.at_, rfl, ?_⟩
        have o2 : Bg (upd (upd H b (.lst ([V.ref c, nt i, nt r, nt m].set 1 (V.int ((i : Int) + 1))))) b (.lst ([V.ref c, nt (i + 1), nt r, nt m].set 2 (V.int (if v < 0 then -v else v))))) b c cells (i + 1) v.natAbs m := by
          rw [abs_natAbs]
          exact o1.put o1.mb
        exact hrest _ _ _ _ _ o2 (k1.trans sameB_upd)
      · refine bg_ix (k := 3) o1 rfl rfl ⟨_, _, rfl, rfl, .inr ⟨by decide, by decide⟩, _, rfl, .inl ⟨v, rfl, _, _, rfl, rfl, (show (0 : Int) < 1000171 by decide), _, _, rfl, rfl, .inr ⟨by decide, by decide⟩, _, _, rfl, rfl, _, _, rfl, rfl, .inl ⟨_, rfl, _, _, rfl, rfl, (show (0 : Int) < 2147483563 by decide), ?_⟩⟩⟩
        obtain ⟨m', e1, e2⟩ := toNat_mod ((m : Int) * 41177 + v % 1000171 * 907 + 59) (n := 2147483563) (by decide) (by decide)
        refine ⟨_, rfl, b, _, _, 3, rfl, rfl, o1.at_, rfl, ?_⟩
        have o2 : Bg (upd (upd H b (.lst ([V.ref c, nt i, nt r, nt m].set 1 (V.int ((i : Int) + 1))))) b (.lst ([V.ref c, nt (i + 1), nt r, nt m].set 3 (V.int (((m : Int) * 41177 + v % 1000171 * 907 + 59) % 2147483563))))) b c cells (i + 1) r m' := by
          rw [e1]
          exact o1.put e2
        exact hrest _ _ _ _ _ o2 (k1.trans sameB_upd)
    · exact iteDF hr0 (iteF (hrest none H i r m o (SameB.refl b H)))
end
end J

/-! the law's own numbers (printed by genG2.py) -/
namespace J
open PySem PySem.Spec PyProof.Rows L2
open JM (N4 NF)
section
variable {P : Program} {w : World} {K : PySem.W.Frag} {mg : Str → Option Value} {base : Heap}
theorem Bag.ne {H : Hp} {b p : Addr} (h : Bag H b) (hp : H p = none) : p ≠ b := fun e => by
  obtain ⟨ys, e2⟩ := h.lst
  rw [e, e2] at hp
  cases hp
theorem sc_pick : FnScope ["_law_bag_here", "_law_some"] ["_law_bag_here", "_law_some"] dF_law_pick.scope := ⟨rfl, rfl, rfl, by decide +kernel, rfl, by decide +kernel, by decide +kernel⟩
def spPick : Sp := fun vs H Q _ => ∃ (b p : Addr) (xs : List V), vs = [.ref b, .ref p] ∧ Bag H b ∧ H p = some (.lst xs) ∧ p ≠ b ∧ xs ≠ [] ∧ xs.length < 2 ^ 29 ∧ ∀ (i : Nat) (x : V) H', xs[i]? = some x → Bag H' b → SameB b H H' → Q x H'
theorem g_pick (z : Z K mg base) : GF P w K mg base 2 "_law_pick" spPick := by
  refine gf_of z.c z.x z.g (c_glo__law_pick z.c) (f_F_law_pick z.c) (fn_plain (f_F_law_pick z.c) sc_pick (fun vs H Q E h => ?_) (fun _ _ _ _ _ _ us hl => match us, hl with | [_, _], _ => rfl) fun cdv A outer s H vs Q E hr h => ?_)
  · obtain ⟨b, p, xs, rfl, hb, hp, hn, h0, h1, q⟩ := h; rfl
  · obtain ⟨b, p, xs, rfl, hb, hp, hn, h0, h1, q⟩ := h
    have G1 : GF P w K mg base 1 "_law_draw" spDraw := g_draw z
    refine ⟨_, (pss_one (ps_ret (pe_ix ix_list (pv 1) (pe_cf G1 (hr.mono (by decide)) (by rfl) pass0 (pa_cons (pv 0) (pa_cons (pe_callB call_len_seq (by rfl) (z.free (c_free_len z.c)) (by decide +kernel) (pa_cons (pv 1) pa_nil)) pa_nil))) (fun _ _ => rfl)))), ?_⟩
    have hl : 0 < xs.length := by
      cases xs with
      | nil => exact absurd rfl h0
      | cons _ _ => exact Nat.succ_pos _
    refine ⟨_, rfl, _, rfl, _, rfl, p, _, rfl, .inl (SqL.of hp), b, xs.length, rfl, hb, hl, h1, fun r H' hr' hb' k => ?_⟩
    have hx : xs[r]? = some xs[r] := List.getElem?_eq_getElem hr'
    exact ⟨p, xs, _, _, rfl, rfl, SqL.of (k _ _ hn hp), atI_nat hx, q r _ H' hx hb' k⟩
theorem sc_lgcd : FnScope ["_law_a", "_law_b", "_law_left_z", "_law_right_z"] ["_law_a", "_law_b"] dF_law_gcd.scope := ⟨rfl, rfl, rfl, by decide +kernel, rfl, by decide +kernel, by decide +kernel⟩

theorem g_lgcd (z : Z K mg base) : GF P w K mg base 1 "_law_gcd" spGcd := by
  refine gf_of z.c z.x z.g (c_glo__law_gcd z.c) (f_F_law_gcd z.c) (fn_plain (f_F_law_gcd z.c) sc_lgcd (fun vs H Q E h => ?_) (fun _ _ _ _ _ _ us hl => match us, hl with | [_, _], _ => rfl) fun cdv A outer s H vs Q E hr h => ?_)
  · obtain ⟨a, b, rfl, q⟩ := h; rfl
  · obtain ⟨a, b, rfl, q⟩ := h
    refine ⟨_, pss_cons (ps_par (i := 2) (j := 3) rfl sc_lgcd.nd rfl rfl (by decide) rfl rfl (pa_cons (pe_callB call_abs (by rfl) (z.free (c_free_abs z.c)) (by decide +kernel) (pa_cons (pv 0) pa_nil)) (pa_cons (pe_callB call_abs (by rfl) (z.free (c_free_abs z.c)) (by decide +kernel) (pa_cons (pv 1) pa_nil)) pa_nil)) (by rfl))
      (pss_cons (ps_while PassesOwn.never (pt_cmpR op_gt (pv 3) pe_int (nomark _)) (pss_one (ps_par (i := 2) (j := 3) rfl sc_lgcd.nd rfl rfl (by decide) rfl rfl (pa_cons (pv 3) (pa_cons (pe_op op_mod (pe_callTy call_int1 (by rfl) (z.free (c_free_int z.c)) (by decide +kernel) (pa_cons (pv 2) pa_nil)) (pv 3)) pa_nil)) (by rfl))))
      (pss_one (ps_ret (pv 2)))), ?_⟩
    refine ⟨_, rfl, _, rfl, _, rfl, _, rfl, _, _, rfl, ?_⟩
    refine ⟨wGcd a b H, ⟨b.natAbs, a.natAbs, ?_, rfl, rfl⟩, ?_⟩
    · rw [abs_natAbs, abs_natAbs] <;> rfl
    · rintro m σ H' ⟨l, rfl, hg, rfl⟩
      refine ⟨_, rfl, _, _, rfl, rfl, _, rfl, ?_⟩
      refine ite2 (fun h => ?_) (fun h => ?_)
      · have hm : 0 < m := by have := of_decide_eq_true h; omega
        refine ⟨fun σ' H'' => ∃ m', m' < m ∧ wGcd a b H' m' σ' H'', fun _ _ h => h, ?_⟩
        refine ⟨_, rfl, _, rfl, .inl ⟨_, rfl, _, rfl, _, _, rfl, rfl, by omega, _, _, rfl, ?_⟩⟩
        refine ⟨l % m, Nat.mod_lt _ hm, m, ?_, ?_, rfl⟩
        · rfl
        · rw [← hg, Nat.gcd_comm l m, Nat.gcd_rec m l, Nat.gcd_comm]
      · have hm : m = 0 := by
          have h1 : ¬ ((0 : Int) < (m : Int)) := fun z => h (decide_eq_true z)
          omega
        subst hm
        rw [Nat.gcd_zero_right] at hg
        subst hg
        exact ⟨_, rfl, q⟩
theorem sc_llcm : FnScope ["_law_a", "_law_b"] ["_law_a", "_law_b"] dF_law_lcm.scope := ⟨rfl, rfl, rfl, by decide +kernel, rfl, by decide +kernel, by decide +kernel⟩
def spLcm : Sp := fun vs H Q _ => ∃ a b : Nat, vs = [nt a, nt b] ∧ a < 2 ^ 29 ∧ Q (nt (Nat.lcm a b)) H
theorem g_llcm (z : Z K mg base) : GF P w K mg base 2 "_law_lcm" spLcm := by
  refine gf_of z.c z.x z.g (c_glo__law_lcm z.c) (f_F_law_lcm z.c) (fn_plain (f_F_law_lcm z.c) sc_llcm (fun vs H Q E h => ?_) (fun _ _ _ _ _ _ us hl => match us, hl with | [_, _], _ => rfl) fun cdv A outer s H vs Q E hr h => ?_)
  · obtain ⟨a, b, rfl, ha, q⟩ := h; rfl
  · obtain ⟨a, b, rfl, ha, q⟩ := h
    have G1 : GF P w K mg base 1 "_law_gcd" spGcd := g_lgcd z
    refine ⟨_, (pss_one (ps_ret (pe_ifExp (pw_or (pt_cmpR op_eq (pv 0) pe_int (nomark _)) (pw_or1 (pt_cmpR op_eq (pv 1) pe_int (nomark _)))).pt pe_int (pe_callB call_abs (by rfl) (z.free (c_free_abs z.c)) (by decide +kernel) (pa_cons (pe_op op_mul (pe_op op_fdivN (pv 0) (pe_cf G1 (hr.mono (by decide)) (by rfl) pass0 (pa_cons (pv 0) (pa_cons (pv 1) pa_nil)))) (pv 1)) pa_nil))))), ?_⟩
    refine ⟨_, rfl, rfl, _, rfl, ?_⟩
    rw [dec_zero]
    by_cases h0 : a = 0
    · refine iteDT h0 (iteT ?_)
      rw [h0, Nat.lcm_zero_left] at q
      exact q
    · refine iteDF h0 ⟨_, rfl, rfl, _, rfl, ?_⟩
      rw [dec_zero]
      by_cases h1 : b = 0
      · refine iteDT h1 ?_
        rw [h1, Nat.lcm_zero_right] at q
        exact q
      · have ha0 : 0 < a := Nat.pos_of_ne_zero h0
        have hg : Nat.gcd a b ≤ a := Nat.gcd_le_left b ha0
        have hg0 : 0 < Nat.gcd a b := Nat.gcd_pos_of_pos_left b ha0
        have hq : a / Nat.gcd a b ≤ a := Nat.div_le_self _ _
        have hq0 : (0 : Int) ≤ ((a / Nat.gcd a b : Nat) : Int) := Int.natCast_nonneg _
        refine iteDF h1 ⟨_, rfl, _, rfl, _, rfl, a, b, rfl, _, _, rfl, rfl, ⟨?_, ?_⟩, _, rfl, _, _, rfl, rfl, .inl ⟨?_, ?_⟩, _, rfl, ?_⟩
        · show ((Nat.gcd a b : Nat) : Int) ≠ 0
          omega
        · show ((Nat.gcd a b : Nat) : Int).natAbs < 1073741824
          omega
        · show -(2 ^ 64) < (a : Int).fdiv ((Nat.gcd a b : Nat) : Int)
          rw [fdiv_nat]
          omega
        · show (a : Int).fdiv ((Nat.gcd a b : Nat) : Int) < 2 ^ 64
          rw [fdiv_nat]
          omega
        · have e := lcm_calcI (n := b) ha0
          show Q (V.int (if (a : Int).fdiv ((Nat.gcd a b : Nat) : Int) * (b : Int) < 0 then -((a : Int).fdiv ((Nat.gcd a b : Nat) : Int) * (b : Int)) else (a : Int).fdiv ((Nat.gcd a b : Nat) : Int) * (b : Int))) H
          rw [e]
          exact q
theorem sc_lstrip : FnScope ["_law_number", "_law_base", "_law_found"] ["_law_number", "_law_base"] dF_law_strip.scope := ⟨rfl, rfl, rfl, by decide +kernel, rfl, by decide +kernel, by decide +kernel⟩
def wLs (n b : Nat) (H : Hp) : Nat → L2.St → Hp → Prop := fun m σ H' => σ = [some (nt n), some (nt b), some (nt m)] ∧ JM.strip m b = JM.strip n b ∧ H' = H
theorem g_lstrip (z : Z K mg base) : GF P w K mg base 2 "_law_strip" spStrip := by
  refine gf_of z.c z.x z.g (c_glo__law_strip z.c) (f_F_law_strip z.c) (fn_plain (f_F_law_strip z.c) sc_lstrip (fun vs H Q E h => ?_) (fun _ _ _ _ _ _ us hl => match us, hl with | [_, _], _ => rfl) fun cdv A outer s H vs Q E hr h => ?_)
  · obtain ⟨n, b, rfl, hb0, hb1, q⟩ := h; rfl
  · obtain ⟨n, b, rfl, hb0, hb1, q⟩ := h
    have G1 : GF P w K mg base 1 "_law_gcd" spGcd := g_lgcd z
    refine ⟨_, (pss_cons (ps_set (i := 2) sc_lstrip.nd rfl (.inl rfl) (pv 0)) (pss_cons (ps_while PassesOwn.never (pw_and (pt_cmpR op_ne (pv 2) pe_int (nomark _)) (pw_and1 (pt_cmpR op_gt (pe_cf G1 (hr.mono (by decide)) (by rfl) pass0 (pa_cons (pv 2) (pa_cons (pv 1) pa_nil))) pe_int (nomark _)))).pt (pss_one (ps_set (i := 2) sc_lstrip.nd rfl (.inl rfl) (pe_op op_fdivN (pv 2) (pe_cf G1 (hr.mono (by decide)) (by rfl) pass0 (pa_cons (pv 2) (pa_cons (pv 1) pa_nil))))))) (pss_one (ps_ret (pv 2))))), ?_⟩
    refine ⟨_, rfl, ?_⟩
    refine ⟨wLs n b H, ⟨n, rfl, rfl, rfl⟩, ?_⟩
    rintro m σ H' ⟨rfl, he, rfl⟩
    refine ⟨_, rfl, rfl, _, rfl, ?_⟩
    rw [dec_zero]
    by_cases hm0 : m = 0
    · refine iteNS hm0 (iteF ⟨_, rfl, ?_⟩)
      rw [hm0] at he ⊢
      rw [← he] at q
      exact q
    · have hm : 0 < m := Nat.pos_of_ne_zero hm0
      rw [decide_eq_false hm0]
      refine iteN1 ⟨_, rfl, _, rfl, m, b, rfl, _, _, rfl, rfl, _, rfl, ite2 (fun h => ?_) (fun h => ?_)⟩
      · have hg : 1 < Nat.gcd m b := by
          have : (1 : Int) < ((Nat.gcd m b : Nat) : Int) := of_decide_eq_true h
          omega
        have hgl : Nat.gcd m b ≤ b := Nat.gcd_le_right m hb0
        obtain ⟨s1, s2, s3⟩ := JM.strip_step hm hg
        refine ⟨fun σ' H'' => ∃ m', m' < m ∧ wLs n b H' m' σ' H'', fun _ _ h => h, ?_⟩
        refine ⟨_, rfl, _, rfl, _, rfl, m, b, rfl, _, _, rfl, rfl, ⟨?_, ?_⟩, m / Nat.gcd m b, s3, ?_, s1.symm.trans he, rfl⟩
        · show ((Nat.gcd m b : Nat) : Int) ≠ 0
          omega
        · show ((Nat.gcd m b : Nat) : Int).natAbs < 1073741824
          omega
        · show [some (nt n), some (nt b), some (V.int ((m : Int).fdiv ((Nat.gcd m b : Nat) : Int)))] = _
          rw [fdiv_nat]
      · have hg : ¬ 1 < Nat.gcd m b := fun z => h (decide_eq_true (show (1 : Int) < ((Nat.gcd m b : Nat) : Int) by omega))
        have e := JM.strip_stop hm hg
        refine ⟨_, rfl, ?_⟩
        rw [← he, e] at q
        exact q
theorem sc_lset : FnScope ["_law_d", "_law_o", "_law_s", "_law_t", "_law_first", "_law_third"] ["_law_d", "_law_o", "_law_s", "_law_t"] dF_law_settled.scope := ⟨rfl, rfl, rfl, by decide +kernel, rfl, by decide +kernel, by decide +kernel⟩

theorem g_lset (z : Z K mg base) : GF P w K mg base 3 "_law_settled" spSettled := by
  refine gf_of z.c z.x z.g (c_glo__law_settled z.c) (f_F_law_settled z.c) (fn_plain (f_F_law_settled z.c) sc_lset (fun vs H Q E h => ?_) (fun _ _ _ _ _ _ us hl => match us, hl with | [_, _, _, _], _ => rfl) fun cdv A outer s H vs Q E hr h => ?_)
  · obtain ⟨⟨i, o, s', t⟩, rfl, h1, h2, q⟩ := h; rfl
  · obtain ⟨⟨i, o, s', t⟩, rfl, h1, h2, q⟩ := h
    have h1 : 0 < i := h1
    have h2 : i < 2 ^ 29 := h2
    have G1 : GF P w K mg base 1 "_law_gcd" spGcd := g_lgcd z
    have G2 : GF P w K mg base 2 "_law_strip" spStrip := g_lstrip z
    refine ⟨_, (pss_cons (ps_set (i := 4) sc_lset.nd rfl (.inl rfl) (pe_cf G1 (hr.mono (by decide)) (by rfl) pass0 (pa_cons (pv 1) (pa_cons (pe_op op_mul pe_int (pv 3)) pa_nil)))) (pss_cons (ps_set (i := 5) sc_lset.nd rfl (.inl rfl) (pe_cf G1 (hr.mono (by decide)) (by rfl) pass0 (pa_cons (pv 3) (pa_cons (pv 4) pa_nil)))) (pss_one (ps_ret (pe_tup (pa_cons (pe_ifExp (pt_cmpR op_eq (pv 4) pe_int (nomark _)) (pv 0) pe_int) (pa_cons (pe_cf G2 (hr.mono (by decide)) (by rfl) pass0 (pa_cons (pv 4) (pa_cons (pv 0) pa_nil))) (pa_cons (pe_cf G2 (hr.mono (by decide)) (by rfl) pass0 (pa_cons (pe_cf G1 (hr.mono (by decide)) (by rfl) pass0 (pa_cons (pv 2) (pa_cons (pv 5) pa_nil))) (pa_cons (pv 0) pa_nil))) (pa_cons (pe_cf G2 (hr.mono (by decide)) (by rfl) pass0 (pa_cons (pv 5) (pa_cons (pv 0) pa_nil))) pa_nil))))))))), ?_⟩
    have e2 : (2 : Int) * (t : Int) = ((2 * t : Nat) : Int) := by simp
    refine ⟨_, rfl, _, rfl, _, _, rfl, rfl, .inl ⟨by decide, by decide⟩, o, ((2 * t : Nat) : Int), ?_, ?_⟩
    · show [nt o, V.int (2 * (t : Int))] = _
      rw [e2]
    refine ⟨_, rfl, _, rfl, _, _, rfl, ?_⟩
    have fin : ∀ x : Nat, x = (if Nat.gcd o (2 * t) = 0 then i else 1) → ∀ u, H u = none → Q (.ref u) (upd H u (.tup [nt x, nt (JM.strip (Nat.gcd o (2 * t)) i), nt (JM.strip (Nat.gcd s' (Nat.gcd t (Nat.gcd o (2 * t)))) i), nt (JM.strip (Nat.gcd t (Nat.gcd o (2 * t))) i)])) := fun x hx u hu => by
      refine q u _ (same_new hu) ?_
      rw [upd_same, hx]
      rfl
    refine ⟨_, rfl, rfl, _, rfl, ?_⟩
    rw [dec_zero]
    by_cases e : Nat.gcd o (2 * t) = 0
    · exact iteDT e ⟨_, rfl, _, rfl, _, rfl, _, i, rfl, h1, h2, _, rfl, _, rfl, _, _, rfl, _, rfl, _, i, rfl, h1, h2, _, rfl, _, rfl, _, i, rfl, h1, h2, lnb rfl, fin i (by rw [if_pos e])⟩
    · exact iteDF e ⟨_, rfl, _, rfl, _, i, rfl, h1, h2, _, rfl, _, rfl, _, _, rfl, _, rfl, _, i, rfl, h1, h2, _, rfl, _, rfl, _, i, rfl, h1, h2, lnb rfl, fin 1 (by rw [if_neg e])⟩
theorem sc_told : FnScope ["_law_realm_here"] ["_law_realm_here"] dF_law_told.scope := ⟨rfl, rfl, rfl, by decide +kernel, rfl, by decide +kernel, by decide +kernel⟩
def spTold (K : PySem.W.Frag) : Sp := fun vs H Q _ => ∃ a n, vs = [.ref a] ∧ IsRealm K H a n ∧ ∀ u H', H u = none → Same H H' → H' u = some (.tup (n4V n)) → Q (.ref u) H'
theorem g_told (z : Z K mg base) : GF P w K mg base 3 "_law_told" (spTold K) := by
  refine gf_of z.c z.x z.g (c_glo__law_told z.c) (f_F_law_told z.c) (fn_plain (f_F_law_told z.c) sc_told (fun vs H Q E h => ?_) (fun _ _ _ _ _ _ us hl => match us, hl with | [_], _ => rfl) fun cdv A outer s H vs Q E hr h => ?_)
  · obtain ⟨a, n, rfl, ⟨dx, p, o⟩, q⟩ := h; rfl
  · obtain ⟨a, n, rfl, ⟨dx, p, o⟩, q⟩ := h
    refine ⟨_, (pss_one (ps_ret (pe_tup (pa_cons (pe_pr (p := He.ma K (He.ga K "Realm") "inverse") (pv 0) (r_inverse z) (hr.mono (by decide)) pass0) (pa_cons (pe_pr (p := He.ma K (He.ga K "Realm") "ones") (pv 0) (r_ones z) (hr.mono (by decide)) pass0) (pa_cons (pe_pr (p := He.ma K (He.ga K "Realm") "swaps") (pv 0) (r_swaps z) (hr.mono (by decide)) pass0) (pa_cons (pe_pr (p := He.ma K (He.ga K "Realm") "squares") (pv 0) (r_squares z) (hr.mono (by decide)) pass0) pa_nil))))))), ?_⟩
    refine ⟨_, rfl, a, _, dx, _, rfl, o.at_, cls_realm z, propB_ok (c_prop_Realm_inverse z.c), a, n, rfl, ⟨dx, p, o⟩,  ?_⟩
    refine ⟨_, rfl, a, _, dx, _, rfl, o.at_, cls_realm z, propB_ok (c_prop_Realm_ones z.c), a, n, rfl, ⟨dx, p, o⟩,  ?_⟩
    refine ⟨_, rfl, a, _, dx, _, rfl, o.at_, cls_realm z, propB_ok (c_prop_Realm_swaps z.c), a, n, rfl, ⟨dx, p, o⟩,  ?_⟩
    refine ⟨_, rfl, a, _, dx, _, rfl, o.at_, cls_realm z, propB_ok (c_prop_Realm_squares z.c), a, n, rfl, ⟨dx, p, o⟩,  ?_⟩
    exact ⟨lnb rfl, fun u hu => q u _ hu (same_new hu) upd_same⟩
theorem sc_lrealm : FnScope ["_law_numbers"] ["_law_numbers"] dF_law_realm.scope := ⟨rfl, rfl, rfl, by decide +kernel, rfl, by decide +kernel, by decide +kernel⟩
def spLRealm (K : PySem.W.Frag) : Sp := fun vs H Q _ => ∃ (p : Addr) (n : N4), vs = [.ref p] ∧ H p = some (.tup (n4V n)) ∧ n.i ∈ JM.dL ∧ ∀ a H', H a = none → Same H H' → IsRealm K H' a (JM.settled ⟨JM.radV n.i, n.o, n.s, n.t⟩) → Q (.ref a) H'
theorem g_lrealm (z : Z K mg base) : GF P w K mg base 6 "_law_realm" (spLRealm K) := by
  refine gf_of z.c z.x z.g (c_glo__law_realm z.c) (f_F_law_realm z.c) (fn_plain (f_F_law_realm z.c) sc_lrealm (fun vs H Q E h => ?_) (fun _ _ _ _ _ _ us hl => match us, hl with | [_], _ => rfl) fun cdv A outer s H vs Q E hr h => ?_)
  · obtain ⟨p, ⟨i, o, s', t⟩, rfl, hp, hi, q⟩ := h; rfl
  · obtain ⟨p, ⟨i, o, s', t⟩, rfl, hp, hi, q⟩ := h
    obtain ⟨fd, FD, F⟩ := ok_realm (P := P) (w := w) z
    obtain ⟨mv, hb⟩ := b4 FD
    refine ⟨_, (pss_one (ps_ret (pe_makeK0 (mk_realm z) F hr (by rfl) (z.cls (c_glo_Realm z.c)) hb pass0 (pk_cons (pe_ix ix_tup (pv 0) pe_int (fun _ _ => rfl)) (pk_cons (pe_ix ix_tup (pv 0) pe_int (fun _ _ => rfl)) (pk_cons (pe_ix ix_tup (pv 0) pe_int (fun _ _ => rfl)) (pk_cons (pe_ix ix_tup (pv 0) pe_int (fun _ _ => rfl)) pk_nil))))))), ?_⟩
    refine ⟨_, rfl, p, _, _, _, rfl, rfl, SqT.of hp, atI_nat (j := 0) rfl, _, rfl, p, _, _, _, rfl, rfl, SqT.of hp, atI_nat (j := 1) rfl, _, rfl, p, _, _, _, rfl, rfl, SqT.of hp, atI_nat (j := 2) rfl, _, rfl, p, _, _, _, rfl, rfl, SqT.of hp, atI_nat (j := 3) rfl, rfl, rfl, ?_⟩
    exact rm_make (free := false) (.inr ⟨rfl, hi⟩) fun a H' h0 k r => q a H' h0 k r
end
end J

/-! the law's radical (printed by genG3.py) -/
namespace J
open PySem PySem.Spec PyProof.Rows L2
open JM (N4 NF)
section
variable {P : Program} {w : World} {K : PySem.W.Frag} {mg : Str → Option Value} {base : Heap}
theorem sc_prod : FnScope ["_law_numbers", "_law_found", "_law_number"] ["_law_numbers"] dF_law_product.scope := ⟨rfl, rfl, rfl, by decide +kernel, rfl, by decide +kernel, by decide +kernel⟩
def ntV (n : Nat) : V := nt n
def spProd : Sp := fun vs H Q _ => ∃ (p : Addr) (ns : List Nat), vs = [.ref p] ∧ H p = some (.lst (ns.map ntV)) ∧ (∀ n ∈ ns, n < 2 ^ 29) ∧ Q (nt (ns.foldl (· * ·) 1)) H
theorem g_prod (z : Z K mg base) : GF P w K mg base 1 "_law_product" spProd := by
  refine gf_of z.c z.x z.g (c_glo__law_product z.c) (f_F_law_product z.c) (fn_plain (f_F_law_product z.c) sc_prod (fun vs H Q E h => ?_) (fun _ _ _ _ _ _ us hl => match us, hl with | [_], _ => rfl) fun cdv A outer s H vs Q E hr h => ?_)
  · obtain ⟨p, ns, rfl, hp, hb, q⟩ := h; rfl
  · obtain ⟨p, ns, rfl, hp, hb, q⟩ := h
    refine ⟨_, (pss_cons (ps_set (i := 1) sc_prod.nd rfl (.inl rfl) pe_int) (pss_cons (ps_for PassesOwn.never rfl (pi_list (pv 0)) (pg_name (i := 2) sc_prod.nd rfl (.inl rfl)) (pss_one (ps_set (i := 1) sc_prod.nd rfl (.inl rfl) (pe_op op_mul (pv 1) (pv 2))))) (pss_one (ps_ret (pv 1))))), ?_⟩
    refine ⟨_, rfl, p, rfl, ⟨_, SqL.of hp⟩, ?_⟩
    refine for_list (xs := ns.map ntV) (fun i σ H' => H' = H ∧ ∃ o, σ = [some (.ref p), some (nt ((ns.take i).foldl (· * ·) 1)), o]) ⟨rfl, none, rfl⟩ (fun i σ H' _ h => by rw [h.1]; exact SqL.of hp) ?_ ?_
    · rintro i x σ H' hx ⟨rfl, o, rfl⟩
      rw [List.getElem?_map] at hx
      cases hn : ns[i]? with
      | none => rw [hn] at hx; cases hx
      | some n =>
        rw [hn] at hx
        obtain rfl : nt n = x := Option.some.inj hx
        have hb2 := hb n (List.mem_of_getElem? hn)
        refine ⟨_, rfl, _, rfl, _, _, rfl, rfl, .inr ⟨by omega, by omega⟩, rfl, some (nt n), ?_⟩
        rw [take_snoc hn, List.foldl_append]
        show [some (V.ref p), some (V.int (((ns.take i).foldl (· * ·) 1 : Nat) * (n : Int))), some (nt n)] = [some (V.ref p), some (nt ((ns.take i).foldl (· * ·) 1 * n)), some (nt n)]
        have e : (((ns.take i).foldl (· * ·) 1 : Nat) : Int) * (n : Int) = (((ns.take i).foldl (· * ·) 1 * n : Nat) : Int) := by simp
        rw [e]
    · rintro σ H' ⟨rfl, o, rfl⟩
      rw [List.length_map, List.take_length]
      exact ⟨_, rfl, q⟩
abbrev rInt1 : List V → Hp → VK → Prop := fun xs H Q => (∃ i, xs = [V.int i] ∧ Q (.int i) H) ∨ ∃ k, xs = [V.bl k] ∧ Q (.int (if k then 1 else 0)) H
abbrev rModI : R2 := rI (fun _ j => 0 < j) fun i j => .int (i % j)
abbrev ttIn : TT := tAnd (tTest (tOp (rI0 fun i j => .bl (decide (i ≤ j))) (tOp (rI CMul fun i j => .int (i * j)) (tVar 2) (tVar 2)) (tVar 1))) (tTest (tOp rEq (tOp rModI (tCB rInt1 (tCons (tVar 1) tNil)) (tVar 2)) (tC (.int 0))))
abbrev teIn : TE := tLc (iRng2 (tCons (tC (.int 2)) (tCons (tVar 1) tNil))) (gName 2) ttIn (tVar 2) [2]
abbrev ttOut (K : PySem.W.Frag) : TT := tAnd (tTest (tOp rEq (tOp rModI (tCB rInt1 (tCons (tVar 0) tNil)) (tVar 1)) (tC (.int 0)))) (tTest (tOp (rEqD K) teIn (tLst tNil)))
def inP (k : Nat) : Nat → Bool := fun j => decide (j * j ≤ k ∧ k % j = 0)
def inL (k i : Nat) : List Nat := ((List.range i).map (· + 2)).filter (inP k)
def outP (n : Nat) : Nat → Bool := fun k => decide (n % k = 0 ∧ inL k (k - 2) = [])
def outL (n i : Nat) : List Nat := ((List.range i).map (· + 2)).filter (outP n)
theorem lawRad_eq (n : Nat) : JM.lawRad n = (outL n (n - 1)).foldl (· * ·) 1 := rfl
theorem fil_snoc (p : Nat → Bool) (i : Nat) : ((List.range (i + 1)).map (· + 2)).filter p = ((List.range i).map (· + 2)).filter p ++ (if p (i + 2) = true then [i + 2] else []) := by
  rw [List.range_succ, List.map_append, List.filter_append]
  congr 1
  cases h : p (i + 2) <;> simp [h]
theorem fil_len (p : Nat → Bool) (i : Nat) : (((List.range i).map (· + 2)).filter p).length ≤ i := by
  refine Nat.le_trans (List.length_filter_le _ _) ?_
  simp
theorem rd_in {n k : Nat} {v : Option V} {H : Hp} {Q : VK} (hk : k ≤ 1000) (h : ∀ D H', Same H H' → H' D = some (.lst ((inL k (k - 2)).map ntV)) → Q (.ref D) H') : teIn [some (nt n), some (nt k), v] H Q := by
  refine ⟨_, rfl, 2, k, rfl, ⟨by omega, by omega, by omega, by omega⟩, fun D hD => ?_⟩
  have e0 : ((k : Int) - 2).toNat = k - 2 := by omega
  rw [e0]
  refine lc_range (fun i H' => Same H H' ∧ H' D = some (.lst ((inL k i).map ntV))) ⟨same_new hD, upd_same⟩ (fun i H' hi ⟨kk, hd⟩ => ?_) (fun H' ⟨kk, hd⟩ => h D H' kk hd)
  have e1 : (2 : Int) + (i : Int) = ((i + 2 : Nat) : Int) := by omega
  rw [e1]
  refine ⟨rfl, _, rfl, _, rfl, _, _, rfl, rfl, .inl ⟨by omega, by omega⟩, _, rfl, _, _, rfl, rfl, _, rfl, ?_⟩
  have pe : inP k (i + 2) = decide ((i + 2) * (i + 2) ≤ k ∧ k % (i + 2) = 0) := rfl
  have hlen : ((inL k i).map ntV).length < sizeLine := by
    rw [List.length_map]
    have h1 := fil_len (inP k) i
    have h2 := le_line (n := 1000) (by decide)
    unfold inL
    omega
  by_cases c1 : (i + 2) * (i + 2) ≤ k
  · have c1' : ((i + 2 : Nat) : Int) * ((i + 2 : Nat) : Int) ≤ (k : Int) := by exact_mod_cast c1
    refine iteDT c1' ⟨_, rfl, .inl ⟨_, rfl, _, rfl, _, _, rfl, rfl, by omega, rfl, _, rfl, ?_⟩⟩
    by_cases c2 : k % (i + 2) = 0
    · have c2' : (V.int ((k : Int) % ((i + 2 : Nat) : Int)) = V.int 0) := by rw [emod_nat, c2] <;> rfl
      refine iteDT c2' ⟨_, rfl, _, hd, hlen, ?_, ?_⟩
      · intro b u e
        have : b ≠ D := fun z => by rw [z, hD] at e; cases e
        rw [upd_ne this]
        exact kk _ _ e
      · rw [upd_same]
        unfold inL
        rw [fil_snoc, if_pos (by rw [pe]; exact decide_eq_true ⟨c1, c2⟩), List.map_append]
        rfl
    · have c2' : ¬ (V.int ((k : Int) % ((i + 2 : Nat) : Int)) = V.int 0) := fun z => c2 (by
        have := V.int.inj z
        rw [emod_nat] at this
        omega)
      refine iteDF c2' ⟨kk, ?_⟩
      rw [hd]
      unfold inL
      rw [fil_snoc, if_neg (by rw [pe, decide_eq_true_eq]; exact fun z => c2 z.2), List.append_nil]
  · have c1' : ¬ ((i + 2 : Nat) : Int) * ((i + 2 : Nat) : Int) ≤ (k : Int) := fun z => c1 (by exact_mod_cast z)
    refine iteDF c1' (iteF ⟨kk, ?_⟩)
    rw [hd]
    unfold inL
    rw [fil_snoc, if_neg (by rw [pe, decide_eq_true_eq]; exact fun z => c1 z.1), List.append_nil]
def ntD (n : Nat) : PyData := .int n
theorem ints_lay : ∀ ns : List Nat, PyData.canLayAll0 (ns.map ntD) = true ∧ PyData.depthAll (ns.map ntD) = 0
  | [] => ⟨rfl, rfl⟩
  | n :: ns => by
    obtain ⟨h1, h2⟩ := ints_lay ns
    refine ⟨?_, ?_⟩
    · rw [List.map_cons]
      show (PyData.canLay0 (ntD n) && PyData.canLayAll0 (ns.map ntD)) = true
      rw [h1]
      rfl
    · rw [List.map_cons]
      show max (PyData.depth (ntD n)) (PyData.depthAll (ns.map ntD)) = 0
      rw [h2]
      rfl
theorem shaped_ints (ns : List Nat) : SeqAt.shaped (.list (ns.map ntD)) = true := by
  obtain ⟨h1, h2⟩ := ints_lay ns
  show (PyData.canLayAll0 (ns.map ntD) && decide (PyData.depthAll (ns.map ntD) + 1 ≤ 64)) = true
  rw [h1, h2]
  rfl
theorem dpL {H : Hp} : ∀ {ns : List Nat}, DpAll K H (ns.map ntV) (ns.map ntD)
  | [] => .nil
  | n :: ns => .cons (.int _) dpL
theorem eqv_nil {ns : List Nat} : PyData.eqv (.list (ns.map ntD)) (.list []) = decide (ns = []) := by
  cases ns with
  | nil => rfl
  | cons n ns => simp [PyData.eqv, PyData.eqvAll]
theorem sc_lrad : FnScope ["_law_number", "_law_k", "_law_j"] ["_law_number"] dF_law_radical.scope := ⟨rfl, rfl, rfl, by decide +kernel, rfl, by decide +kernel, by decide +kernel⟩
def spLRad : Sp := fun vs H Q _ => ∃ n : Nat, vs = [nt n] ∧ n ∈ JM.dL ∧ ∀ H', Same H H' → Q (nt (JM.radV n)) H'
theorem g_lrad (z : Z K mg base) : GF P w K mg base 2 "_law_radical" spLRad := by
  refine gf_of z.c z.x z.g (c_glo__law_radical z.c) (f_F_law_radical z.c) (fn_plain (f_F_law_radical z.c) sc_lrad (fun vs H Q E h => ?_) (fun _ _ _ _ _ _ us hl => match us, hl with | [_], _ => rfl) fun cdv A outer s H vs Q E hr h => ?_)
  · obtain ⟨n, rfl, hn, q⟩ := h; rfl
  · obtain ⟨n, rfl, hn, q⟩ := h
    have G1 : GF P w K mg base 1 "_law_product" spProd := g_prod z
    refine ⟨_, (pss_one (ps_ret (pe_cf G1 (hr.mono (by decide)) (by rfl) pass0 (pa_cons (pe_lc (own := [("_law_k", 1)]) (g := gName 1) (tt := ttOut K) (te := tVar 1) rfl sc_lrad.nd (pi_range2 (by rfl) (z.free (c_free_range z.c)) (pa_cons pe_int (pa_cons (pe_op op_add (pv 0) pe_int) pa_nil))) (blkOk_by (by kernel_rfl)) (fun _ _ _ _ _ => pg_name sc_lrad.nd rfl (.inr rfl)) (fun _ _ _ _ _ => pts_one (pw_and (pt_cmpR op_eq (pe_op op_mod (pe_callTy call_int1 (by rfl) (z.free (c_free_int z.c)) (by decide +kernel) (pa_cons (pv 0) pa_nil)) (pv 1)) pe_int (nomark _)) (pw_and1 (pt_cmpR (op_eqD hr.units) (pe_lc (own := [("_law_j", 2)]) (g := gName 2) (tt := ttIn) (te := tVar 2) rfl sc_lrad.nd (pi_range2 (by rfl) (z.free (c_free_range z.c)) (pa_cons pe_int (pa_cons (pv 1) pa_nil))) (blkOk_by (by kernel_rfl)) (fun _ _ _ _ _ => pg_name sc_lrad.nd rfl (.inl rfl)) (fun _ _ _ _ _ => pts_one (pw_and (pt_cmpR op_le (pe_op op_mul (pv 2) (pv 2)) (pv 1) (nomark _)) (pw_and1 (pt_cmpR op_eq (pe_op op_mod (pe_callTy call_int1 (by rfl) (z.free (c_free_int z.c)) (by decide +kernel) (pa_cons (pv 1) pa_nil)) (pv 2)) pe_int (nomark _)))).pt) (fun _ _ _ _ _ => pv 2)) (pe_lst pa_nil) (nomark _)))).pt) (fun _ _ _ _ _ => pv 1)) pa_nil)))), ?_⟩
    have hn2 : ∀ d ∈ JM.dL, 1 ≤ d ∧ d ≤ 45 := by decide
    obtain ⟨n1, n2⟩ := hn2 n hn
    have hrad := (JM.rad_ok n hn).2.1
    rw [lawRad_eq] at hrad
    refine ⟨_, rfl, _, _, rfl, rfl, 2, (n : Int) + 1, rfl, ⟨by omega, by omega, by omega, by omega⟩, fun D hD => ?_⟩
    have e0 : ((n : Int) + 1 - 2).toNat = n - 1 := by omega
    rw [e0]
    refine lc_range (fun i H' => Same H H' ∧ H' D = some (.lst ((outL n i).map ntV))) ⟨same_new hD, upd_same⟩ (fun i H' hi ⟨kk, hd⟩ => ?_) (fun H' ⟨kk, hd⟩ => ?_)
    · have e1 : (2 : Int) + (i : Int) = ((i + 2 : Nat) : Int) := by omega
      rw [e1]
      have pe : outP n (i + 2) = decide (n % (i + 2) = 0 ∧ inL (i + 2) (i + 2 - 2) = []) := rfl
      have hlen : ((outL n i).map ntV).length < sizeLine := by
        rw [List.length_map]
        have h1 := fil_len (outP n) i
        have h2 := le_line (n := 1000) (by decide)
        unfold outL
        omega
      refine ⟨rfl, _, rfl, .inl ⟨_, rfl, _, rfl, _, _, rfl, rfl, by omega, rfl, _, rfl, ?_⟩⟩
      by_cases c1 : n % (i + 2) = 0
      · have c1' : (V.int ((n : Int) % ((i + 2 : Nat) : Int)) = V.int 0) := by rw [emod_nat, c1] <;> rfl
        refine iteDT c1' ?_
        have eσ : List.set (wipe (L2.start ["_law_number", "_law_k", "_law_j"] [nt n]) (List.map (fun x => x.snd) [(("_law_k" : Str), 1)])) 1 (some (V.int ((i + 2 : Nat) : Int))) = [some (nt n), some (nt (i + 2)), none] := rfl
        rw [eσ]
        unfold tTest tOp
        refine rd_in (n := n) (k := i + 2) (v := none) (by omega) fun D2 H2 k2 hd2 => ?_
        refine ⟨lnb rfl, fun u hu => ?_⟩
        have k3 := same_new (o := .lst []) hu
        refine ⟨.list ((inL (i + 2) (i + 2 - 2)).map ntD), .list [], .lst (SqL.of (k3 _ _ hd2)) dpL, .lst (SqL.of upd_same) .nil, ?_, rfl, _, rfl, ?_⟩
        · exact shaped_ints _
        rw [eqv_nil]
        have hD2 : ∀ b o, H b = some o → b ≠ D := fun b o e z => by rw [z, hD] at e; cases e
        have kk3 : Same H' (upd H2 u (.lst [])) := k2.trans k3
        by_cases c2 : inL (i + 2) (i + 2 - 2) = []
        · refine iteDT c2 ⟨_, rfl, _, kk3 _ _ hd, hlen, ?_, ?_⟩
          · intro b o e
            rw [upd_ne (hD2 b o e)]
            exact kk3 _ _ (kk _ _ e)
          · rw [upd_same]
            unfold outL
            rw [fil_snoc, if_pos (by rw [pe]; exact decide_eq_true ⟨c1, c2⟩), List.map_append]
            rfl
        · refine iteDF c2 ⟨kk.trans kk3, ?_⟩
          rw [kk3 _ _ hd]
          unfold outL
          rw [fil_snoc, if_neg (by rw [pe, decide_eq_true_eq]; exact fun z => c2 z.2), List.append_nil]
      · have c1' : ¬ (V.int ((n : Int) % ((i + 2 : Nat) : Int)) = V.int 0) := fun z => c1 (by
          have := V.int.inj z
          rw [emod_nat] at this
          omega)
        refine iteDF c1' (iteF ⟨kk, ?_⟩)
        rw [hd]
        unfold outL
        rw [fil_snoc, if_neg (by rw [pe, decide_eq_true_eq]; exact fun z => c1 z.1), List.append_nil]
    · refine ⟨D, outL n (n - 1), rfl, hd, ?_, ?_⟩
      · intro x hx
        have h1 := List.mem_filter.mp hx
        obtain ⟨y, hy, e⟩ := List.mem_map.mp h1.1
        have := List.mem_range.mp hy
        omega
      · rw [hrad]
        exact q H' kk
theorem sc_lsettle : FnScope ["_law_numbers"] ["_law_numbers"] dF_law_settle.scope := ⟨rfl, rfl, rfl, by decide +kernel, rfl, by decide +kernel, by decide +kernel⟩
def spLSettle : Sp := fun vs H Q _ => ∃ (p : Addr) (n : N4), vs = [.ref p] ∧ H p = some (.tup (n4V n)) ∧ n.i ∈ JM.dL ∧ ∀ u H', Same H H' → H' u = some (.tup (n4V (JM.settled ⟨JM.radV n.i, n.o, n.s, n.t⟩))) → Q (.ref u) H'
theorem g_lsettle (z : Z K mg base) : GF P w K mg base 4 "_law_settle" spLSettle := by
  refine gf_of z.c z.x z.g (c_glo__law_settle z.c) (f_F_law_settle z.c) (fn_plain (f_F_law_settle z.c) sc_lsettle (fun vs H Q E h => ?_) (fun _ _ _ _ _ _ us hl => match us, hl with | [_], _ => rfl) fun cdv A outer s H vs Q E hr h => ?_)
  · obtain ⟨p, ⟨i, o, s', t⟩, rfl, hp, hi, q⟩ := h; rfl
  · obtain ⟨p, ⟨i, o, s', t⟩, rfl, hp, hi, q⟩ := h
    have G1 : GF P w K mg base 3 "_law_settled" spSettled := g_lset z
    have G2 : GF P w K mg base 2 "_law_radical" spLRad := g_lrad z
    refine ⟨_, (pss_one (ps_ret (pe_cf G1 (hr.mono (by decide)) (by rfl) pass0 (pa_cons (pe_cf G2 (hr.mono (by decide)) (by rfl) pass0 (pa_cons (pe_ix ix_tup (pv 0) pe_int (fun _ _ => rfl)) pa_nil)) (pa_cons (pe_ix ix_tup (pv 0) pe_int (fun _ _ => rfl)) (pa_cons (pe_ix ix_tup (pv 0) pe_int (fun _ _ => rfl)) (pa_cons (pe_ix ix_tup (pv 0) pe_int (fun _ _ => rfl)) pa_nil))))))), ?_⟩
    obtain ⟨_, _, r3, r4, _⟩ := JM.rad_ok i hi
    refine ⟨_, rfl, p, _, _, _, rfl, rfl, SqT.of hp, atI_nat (j := 0) rfl, i, rfl, hi, fun H1 k1 => ?_⟩
    have hp1 := k1 _ _ hp
    refine ⟨_, rfl, p, _, _, _, rfl, rfl, SqT.of hp1, atI_nat (j := 1) rfl, _, rfl, p, _, _, _, rfl, rfl, SqT.of hp1, atI_nat (j := 2) rfl, _, rfl, p, _, _, _, rfl, rfl, SqT.of hp1, atI_nat (j := 3) rfl, ⟨JM.radV i, o, s', t⟩, rfl, r3, Nat.lt_of_le_of_lt r4 (show 45 < 2 ^ 29 by decide), fun u H' k hu => ?_⟩
    exact q u H' (k1.trans k) hu
end
end J

/-! the law's same: equal data (printed by genG4.py) -/
namespace J
open PySem PySem.Spec PyProof.Rows L2
section
variable {P : Program} {w : World} {K : PySem.W.Frag} {mg : Str → Option Value} {base : Heap}
/-- equal data, n levels deep -/
def EqV : Nat → Hp → V → V → Prop
  | 0, _, _, _ => False
  | n + 1, H, x, y => (∃ c, x = .bl c ∧ y = .bl c) ∨ (∃ i, x = .int i ∧ y = .int i) ∨
    ∃ (p q : Addr) (xs ys : List V), x = .ref p ∧ y = .ref q ∧ ((H p = some (.lst xs) ∧ H q = some (.lst ys)) ∨ (H p = some (.tup xs) ∧ H q = some (.tup ys))) ∧ xs.length = ys.length ∧ xs.length ≤ 1000 ∧
      ∀ (i : Nat) (a b : V), xs[i]? = some a → ys[i]? = some b → EqV n H a b
theorem EqV.same {H H' : Hp} (k : Same H H') : ∀ {n : Nat} {x y : V}, EqV n H x y → EqV n H' x y
  | 0, _, _, h => False.elim h
  | n + 1, x, y, h => by
    rcases h with h | h | ⟨p, q, xs, ys, h1, h2, h3, h4, h5, h6⟩
    · exact .inl h
    · exact .inr (.inl h)
    · exact .inr (.inr ⟨p, q, xs, ys, h1, h2, h3.imp (fun h => ⟨k _ _ h.1, k _ _ h.2⟩) (fun h => ⟨k _ _ h.1, k _ _ h.2⟩), h4, h5, fun i a b e1 e2 => EqV.same k (h6 i a b e1 e2)⟩)
def spSame (K : PySem.W.Frag) (n : Nat) : Sp := fun vs H Q _ => ∃ x y, vs = [x, y] ∧ EqV n H x y ∧ ∀ H', Same H H' → Q (.bl true) H'
theorem sc_same : FnScope ["_law_found", "_law_due", "_law_a", "_law_b"] ["_law_found", "_law_due"] dF_law_same.scope := ⟨rfl, rfl, rfl, by decide +kernel, rfl, by decide +kernel, by decide +kernel⟩
theorem g_same (z : Z K mg base) : ∀ n, GF P w K mg base n "_law_same" (spSame K n)
  | 0 => by
    obtain ⟨fd, F⟩ := f_F_law_same z.c
    have kp := F.kp
    refine ⟨?_, z.cls (c_glo__law_same z.c), kp⟩
    intro A outer s H us vs Q E hr e0 r h
    obtain ⟨x, y, _, h, _⟩ := h
    exact h.elim
  | n + 1 => by
    have G1 : GF P w K mg base n "_law_same" (spSame K n) := g_same z n
    refine gf_of z.c z.x z.g (c_glo__law_same z.c) (f_F_law_same z.c) (fn_plain (f_F_law_same z.c) sc_same (fun vs H Q E h => ?_) (fun _ _ _ _ _ _ us hl => match us, hl with | [_, _], _ => rfl) fun cdv A outer s H vs Q E hr h => ?_)
    · obtain ⟨x, y, rfl, _⟩ := h; rfl
    obtain ⟨x, y, rfl, he, h⟩ := h
    refine ⟨_, (pss_cons (ps_if (pt_val (pe_callB call_isi (by rfl) (z.free (c_free_isinstance z.c)) (by decide +kernel) (pa_cons (pv 1) (pa_cons (pe_bltn (v := .ty "list") (by rfl) (z.free (c_free_list z.c)) (by decide +kernel) rfl) pa_nil)))) (pss_one (ps_ret (pe_and (pe_callB call_isi (by rfl) (z.free (c_free_isinstance z.c)) (by decide +kernel) (pa_cons (pv 0) (pa_cons (pe_bltn (v := .ty "list") (by rfl) (z.free (c_free_list z.c)) (by decide +kernel) rfl) pa_nil))) (pe_and (pe_cmpR op_eq (pe_callB call_len_seq (by rfl) (z.free (c_free_len z.c)) (by decide +kernel) (pa_cons (pv 0) pa_nil)) (pe_callB call_len_seq (by rfl) (z.free (c_free_len z.c)) (by decide +kernel) (pa_cons (pv 1) pa_nil)) (nomark _)) (pe_one (pe_callB (cr_all rfl) (by rfl) (z.free (c_free_all z.c)) (by decide +kernel) (pa_cons (pe_lc (own := [("_law_a", 2), ("_law_b", 3)]) (g := gAB K 2 3) (tt := tYes) (te := tCR (spSame K n) (tCons (tVar 2) (tCons (tVar 3) tNil))) rfl sc_same.nd (RZ.pi_zipA (by rfl) (z.free (c_free_zip z.c)) (pa_cons (pv 0) (pa_cons (pv 1) pa_nil))) (blkOk_by (by kernel_rfl)) (fun _ _ _ _ _ => pg_tup rfl (pgs_cons (pg_name sc_same.nd rfl (.inl rfl)) (pgs_cons (pg_name sc_same.nd rfl (.inl rfl)) pgs_nil))) (fun _ _ _ _ _ => pts_nil) (fun _ _ _ _ _ => pe_cf G1 hr (by rfl) pass0 (pa_cons (pv 2) (pa_cons (pv 3) pa_nil)))) pa_nil))))))) pss_nil) (pss_cons (ps_if (pt_val (pe_callB call_isi (by rfl) (z.free (c_free_isinstance z.c)) (by decide +kernel) (pa_cons (pv 1) (pa_cons (pe_bltn (v := .ty "tuple") (by rfl) (z.free (c_free_tuple z.c)) (by decide +kernel) rfl) pa_nil)))) (pss_one (ps_ret (pe_and (pe_callB call_isi (by rfl) (z.free (c_free_isinstance z.c)) (by decide +kernel) (pa_cons (pv 0) (pa_cons (pe_bltn (v := .ty "tuple") (by rfl) (z.free (c_free_tuple z.c)) (by decide +kernel) rfl) pa_nil))) (pe_and (pe_cmpR op_eq (pe_callB call_len_seq (by rfl) (z.free (c_free_len z.c)) (by decide +kernel) (pa_cons (pv 0) pa_nil)) (pe_callB call_len_seq (by rfl) (z.free (c_free_len z.c)) (by decide +kernel) (pa_cons (pv 1) pa_nil)) (nomark _)) (pe_one (pe_callB (cr_all rfl) (by rfl) (z.free (c_free_all z.c)) (by decide +kernel) (pa_cons (pe_lc (own := [("_law_a", 2), ("_law_b", 3)]) (g := gAB K 2 3) (tt := tYes) (te := tCR (spSame K n) (tCons (tVar 2) (tCons (tVar 3) tNil))) rfl sc_same.nd (RZ.pi_zipA (by rfl) (z.free (c_free_zip z.c)) (pa_cons (pv 0) (pa_cons (pv 1) pa_nil))) (blkOk_by (by kernel_rfl)) (fun _ _ _ _ _ => pg_tup rfl (pgs_cons (pg_name sc_same.nd rfl (.inl rfl)) (pgs_cons (pg_name sc_same.nd rfl (.inl rfl)) pgs_nil))) (fun _ _ _ _ _ => pts_nil) (fun _ _ _ _ _ => pe_cf G1 hr (by rfl) pass0 (pa_cons (pv 2) (pa_cons (pv 3) pa_nil)))) pa_nil))))))) pss_nil) (pss_cons (ps_if (pw_or (pt_cmpR op_isN (pv 1) pe_non (nomark _)) (pw_or1 (pt_cmpR op_isN (pv 0) pe_non (nomark _)))).pt (pss_one ps_never) pss_nil) (pss_cons (ps_if (pw_or (pt_val (pe_callB call_isi (by rfl) (z.free (c_free_isinstance z.c)) (by decide +kernel) (pa_cons (pv 1) (pa_cons (pe_bltn (v := .ty "bool") (by rfl) (z.free (c_free_bool z.c)) (by decide +kernel) rfl) pa_nil)))) (pw_or1 (pt_val (pe_callB call_isi (by rfl) (z.free (c_free_isinstance z.c)) (by decide +kernel) (pa_cons (pv 0) (pa_cons (pe_bltn (v := .ty "bool") (by rfl) (z.free (c_free_bool z.c)) (by decide +kernel) rfl) pa_nil)))))).pt (pss_one (ps_ret (pe_and (pe_callB call_isi (by rfl) (z.free (c_free_isinstance z.c)) (by decide +kernel) (pa_cons (pv 1) (pa_cons (pe_bltn (v := .ty "bool") (by rfl) (z.free (c_free_bool z.c)) (by decide +kernel) rfl) pa_nil))) (pe_and (pe_callB call_isi (by rfl) (z.free (c_free_isinstance z.c)) (by decide +kernel) (pa_cons (pv 0) (pa_cons (pe_bltn (v := .ty "bool") (by rfl) (z.free (c_free_bool z.c)) (by decide +kernel) rfl) pa_nil))) (pe_one (pe_cmpR op_eq (pv 0) (pv 1) (nomark _))))))) pss_nil) (pss_cons (ps_if (pt_val (pe_callB call_isi (by rfl) (z.free (c_free_isinstance z.c)) (by decide +kernel) (pa_cons (pv 1) (pa_cons (pe_bltn (v := .ty "int") (by rfl) (z.free (c_free_int z.c)) (by decide +kernel) rfl) pa_nil)))) (pss_one (ps_ret (pe_and (pe_callB call_isi (by rfl) (z.free (c_free_isinstance z.c)) (by decide +kernel) (pa_cons (pv 0) (pa_cons (pe_bltn (v := .ty "int") (by rfl) (z.free (c_free_int z.c)) (by decide +kernel) rfl) pa_nil))) (pe_one (pe_cmpR op_eq (pv 0) (pv 1) (nomark _)))))) pss_nil) (pss_one ps_never)))))), ?_⟩
    have kr : Same H H := fun _ _ e => e
    rcases he with ⟨c, rfl, rfl⟩ | ⟨i, rfl, rfl⟩ | ⟨p, q, xs, ys, rfl, rfl, hh, hlen, hle, hall⟩
    · refine ⟨_, rfl, _, _, _, _, false, rfl, .ty _, .base (.bl c), kit_ty (by decide +kernel), _, rfl, iteF ?_⟩
      refine ⟨_, rfl, _, _, _, _, false, rfl, .ty _, .base (.bl c), kit_ty (by decide +kernel), _, rfl, iteF ?_⟩
      refine ⟨_, rfl, rfl, _, rfl, iteDF (fun e => by cases e) ⟨_, rfl, rfl, _, rfl, iteDF (fun e => by cases e) ?_⟩⟩
      refine ⟨_, rfl, _, _, _, _, true, rfl, .ty _, .base (.bl c), kit_ty (by decide +kernel), _, rfl, iteT (iteT ?_)⟩
      refine ⟨_, rfl, _, _, _, _, true, rfl, .ty _, .base (.bl c), kit_ty (by decide +kernel), _, rfl, iteT ?_⟩
      refine ⟨_, rfl, _, _, _, _, true, rfl, .ty _, .base (.bl c), kit_ty (by decide +kernel), _, rfl, iteT ?_⟩
      refine ⟨_, rfl, _, rfl, rfl, ?_⟩
      rw [decide_eq_true rfl]
      exact h H kr
    · refine ⟨_, rfl, _, _, _, _, false, rfl, .ty _, .base (.int i), kit_ty (by decide +kernel), _, rfl, iteF ?_⟩
      refine ⟨_, rfl, _, _, _, _, false, rfl, .ty _, .base (.int i), kit_ty (by decide +kernel), _, rfl, iteF ?_⟩
      refine ⟨_, rfl, rfl, _, rfl, iteDF (fun e => by cases e) ⟨_, rfl, rfl, _, rfl, iteDF (fun e => by cases e) ?_⟩⟩
      refine ⟨_, rfl, _, _, _, _, false, rfl, .ty _, .base (.int i), kit_ty (by decide +kernel), _, rfl, iteF ?_⟩
      refine ⟨_, rfl, _, _, _, _, false, rfl, .ty _, .base (.int i), kit_ty (by decide +kernel), _, rfl, iteF ?_⟩
      refine ⟨_, rfl, _, _, _, _, true, rfl, .ty _, .base (.int i), kit_ty (by decide +kernel), _, rfl, iteT ?_⟩
      refine ⟨_, rfl, _, _, _, _, true, rfl, .ty _, .base (.int i), kit_ty (by decide +kernel), _, rfl, iteT ?_⟩
      refine ⟨_, rfl, _, rfl, rfl, ?_⟩
      rw [decide_eq_true rfl]
      exact h H kr
    rcases hh with ⟨hp, hq⟩ | ⟨hp, hq⟩
    · skip
      refine ⟨_, rfl, _, _, _, _, true, rfl, .ty _, .base (.lst hq), kit_ty (by decide +kernel), _, rfl, iteT ?_⟩
      refine ⟨_, rfl, _, _, _, _, true, rfl, .ty _, .base (.lst hp), kit_ty (by decide +kernel), _, rfl, iteT ?_⟩
      refine ⟨_, rfl, p, xs, rfl, .inl (SqL.of hp), _, rfl, q, ys, rfl, .inl (SqL.of hq), rfl, _, rfl, iteDT (by rw [hlen]) ?_⟩
      refine ⟨_, rfl, _, rfl, p, q, xs, ys, rfl, .inl ⟨SqL.of hp, SqL.of hq, fun D hD => ?_⟩⟩
      refine lc_zipL (xs := xs) (ys := ys) hlen (fun j H' => Same H H' ∧ j ≤ xs.length ∧ H' D = some (.lst ((List.replicate j true).map V.bl))) ⟨same_new hD, Nat.zero_le _, upd_same⟩ (fun j H' _ h => ⟨SqL.of (h.1 _ _ hp), SqL.of (h.1 _ _ hq)⟩) ?_ ?_
      · rintro j x y T H' hx hy ⟨k, hj, hd⟩ hT
        have kT := same_new (o := .tup [x, y]) hT
        have hjl : j < xs.length := by
          rcases Nat.lt_or_ge j xs.length with h | h
          · exact h
          · rw [List.getElem?_eq_none h] at hx; cases hx
        refine ⟨T, _, rfl, SqT.of upd_same, rfl, _, _, rfl, _, _, rfl, rfl, rfl, _, rfl, _, rfl, x, y, rfl, (hall j x y hx hy).same (k.trans kT), fun H4 k4 => ?_⟩
        refine ⟨_, k4 _ _ (kT _ _ hd), ?_, ?_, hjl, ?_⟩
        · have := le_line (n := 1000) (by decide)
          rw [List.length_map, List.length_replicate]
          omega
        · intro b u e
          have : b ≠ D := fun z => by rw [z, hD] at e; cases e
          rw [upd_ne this]
          exact k4 _ _ (kT _ _ (k _ _ e))
        · rw [upd_same, List.replicate_succ', List.map_append]
          rfl
      · rintro H' ⟨k, _, hd⟩
        refine ⟨D, _, rfl, SqL.of hd, ?_⟩
        have e : (List.replicate xs.length true).all id = true := List.all_eq_true.mpr fun b hb => (List.mem_replicate.mp hb).2
        rw [e]
        exact h H' k
  
    · skip
      refine ⟨_, rfl, _, _, _, _, false, rfl, .ty _, .base (.tup hq), kit_ty (by decide +kernel), _, rfl, iteF ?_⟩
      refine ⟨_, rfl, _, _, _, _, true, rfl, .ty _, .base (.tup hq), kit_ty (by decide +kernel), _, rfl, iteT ?_⟩
      refine ⟨_, rfl, _, _, _, _, true, rfl, .ty _, .base (.tup hp), kit_ty (by decide +kernel), _, rfl, iteT ?_⟩
      refine ⟨_, rfl, p, xs, rfl, .inr (SqT.of hp), _, rfl, q, ys, rfl, .inr (SqT.of hq), rfl, _, rfl, iteDT (by rw [hlen]) ?_⟩
      refine ⟨_, rfl, _, rfl, p, q, xs, ys, rfl, .inr ⟨SqT.of hp, SqT.of hq, fun D hD => ?_⟩⟩
      refine lc_zipT (xs := xs) (ys := ys) hlen (fun j H' => Same H H' ∧ j ≤ xs.length ∧ H' D = some (.lst ((List.replicate j true).map V.bl))) ⟨same_new hD, Nat.zero_le _, upd_same⟩ (fun j H' _ h => ⟨SqT.of (h.1 _ _ hp), SqT.of (h.1 _ _ hq)⟩) ?_ ?_
      · rintro j x y T H' hx hy ⟨k, hj, hd⟩ hT
        have kT := same_new (o := .tup [x, y]) hT
        have hjl : j < xs.length := by
          rcases Nat.lt_or_ge j xs.length with h | h
          · exact h
          · rw [List.getElem?_eq_none h] at hx; cases hx
        refine ⟨T, _, rfl, SqT.of upd_same, rfl, _, _, rfl, _, _, rfl, rfl, rfl, _, rfl, _, rfl, x, y, rfl, (hall j x y hx hy).same (k.trans kT), fun H4 k4 => ?_⟩
        refine ⟨_, k4 _ _ (kT _ _ hd), ?_, ?_, hjl, ?_⟩
        · have := le_line (n := 1000) (by decide)
          rw [List.length_map, List.length_replicate]
          omega
        · intro b u e
          have : b ≠ D := fun z => by rw [z, hD] at e; cases e
          rw [upd_ne this]
          exact k4 _ _ (kT _ _ (k _ _ e))
        · rw [upd_same, List.replicate_succ', List.map_append]
          rfl
      · rintro H' ⟨k, _, hd⟩
        refine ⟨D, _, rfl, SqL.of hd, ?_⟩
        have e : (List.replicate xs.length true).all id = true := List.all_eq_true.mpr fun b hb => (List.mem_replicate.mp hb).2
        rw [e]
        exact h H' k
  
end
end J

/-! the law's rings (printed by genG5.py) -/
namespace J
open PySem PySem.Spec PyProof.Rows L2
open JM (RS num dep)
section
variable {w : World} {K : PySem.W.Frag} {mg : Str → Option Value} {base : Heap}
theorem iteBF {c : Bool} {A B : Prop} (hc : c = false) (h : B) : if c = true then A else B := by
  rw [hc]
  exact iteF h
theorem iteBT {c : Bool} {A B : Prop} (hc : c = true) (h : A) : if c = true then A else B := by
  rw [hc]
  exact iteT h
/-- a description as the law writes it -/
def isSpec : RS → Hp → V → Prop
  | .frac, H, v => ∃ p, v = .ref p ∧ H p = some (.tup [V.str "fractions"])
  | .whole d, H, v => ∃ p, v = .ref p ∧ H p = some (.tup [V.str "whole", nt d])
  | .rests d, H, v => ∃ p, v = .ref p ∧ H p = some (.tup [V.str "rests", nt d])
  | .sets d, H, v => ∃ p, v = .ref p ∧ H p = some (.tup [V.str "sets", nt d])
  | .mats b, H, v => ∃ p x, v = .ref p ∧ H p = some (.tup [V.str "matrices", nt 2, x]) ∧ isSpec b H x
  | .tri b, H, v => ∃ p x, v = .ref p ∧ H p = some (.tup [V.str "triangles", x]) ∧ isSpec b H x
  | .poly b, H, v => ∃ p x, v = .ref p ∧ H p = some (.tup [V.str "polynomials", x]) ∧ isSpec b H x
  | .dual b, H, v => ∃ p x, v = .ref p ∧ H p = some (.tup [V.str "duals", x]) ∧ isSpec b H x
  | .root s b, H, v => ∃ p x, v = .ref p ∧ H p = some (.tup [V.str "roots", .int s, x]) ∧ isSpec b H x
  | .words l b, H, v => ∃ p x, v = .ref p ∧ H p = some (.tup [V.str "words", nt l, x]) ∧ isSpec b H x
  | .pairs a b, H, v => ∃ p x y, v = .ref p ∧ H p = some (.tup [V.str "pairs", x, y]) ∧ isSpec a H x ∧ isSpec b H y
  | .quat b, H, v => ∃ p x, v = .ref p ∧ H p = some (.tup [V.str "quaternions", x]) ∧ isSpec b H x
  | .swp b, H, v => ∃ p x, v = .ref p ∧ H p = some (.tup [V.str "swapped", x]) ∧ isSpec b H x
  | .twist t b, H, v => ∃ p x, v = .ref p ∧ H p = some (.tup [V.str "twists", nt t, x]) ∧ isSpec b H x
theorem isSpec.keepT {H H' : Hp} (k : KeepT H H') : ∀ {r : RS} {v : V}, isSpec r H v → isSpec r H' v
  | .frac, _, ⟨p, e, h⟩ => ⟨p, e, k _ _ (fun _ z => by cases z) h⟩
  | .whole _, _, ⟨p, e, h⟩ => ⟨p, e, k _ _ (fun _ z => by cases z) h⟩
  | .rests _, _, ⟨p, e, h⟩ => ⟨p, e, k _ _ (fun _ z => by cases z) h⟩
  | .sets _, _, ⟨p, e, h⟩ => ⟨p, e, k _ _ (fun _ z => by cases z) h⟩
  | .mats _, _, ⟨p, x, e, h, i⟩ => ⟨p, x, e, k _ _ (fun _ z => by cases z) h, isSpec.keepT k i⟩
  | .tri _, _, ⟨p, x, e, h, i⟩ => ⟨p, x, e, k _ _ (fun _ z => by cases z) h, isSpec.keepT k i⟩
  | .poly _, _, ⟨p, x, e, h, i⟩ => ⟨p, x, e, k _ _ (fun _ z => by cases z) h, isSpec.keepT k i⟩
  | .dual _, _, ⟨p, x, e, h, i⟩ => ⟨p, x, e, k _ _ (fun _ z => by cases z) h, isSpec.keepT k i⟩
  | .root _ _, _, ⟨p, x, e, h, i⟩ => ⟨p, x, e, k _ _ (fun _ z => by cases z) h, isSpec.keepT k i⟩
  | .words _ _, _, ⟨p, x, e, h, i⟩ => ⟨p, x, e, k _ _ (fun _ z => by cases z) h, isSpec.keepT k i⟩
  | .pairs _ _, _, ⟨p, x, y, e, h, i, j⟩ => ⟨p, x, y, e, k _ _ (fun _ z => by cases z) h, isSpec.keepT k i, isSpec.keepT k j⟩
  | .quat _, _, ⟨p, x, e, h, i⟩ => ⟨p, x, e, k _ _ (fun _ z => by cases z) h, isSpec.keepT k i⟩
  | .swp _, _, ⟨p, x, e, h, i⟩ => ⟨p, x, e, k _ _ (fun _ z => by cases z) h, isSpec.keepT k i⟩
  | .twist _ _, _, ⟨p, x, e, h, i⟩ => ⟨p, x, e, k _ _ (fun _ z => by cases z) h, isSpec.keepT k i⟩
theorem isSpec.same {H H' : Hp} (k : Same H H') {r : RS} {v : V} (h : isSpec r H v) : isSpec r H' v := h.keepT (Same.keepT k)
theorem gc_Fractions (z : Z K mg base) : GC PW w K mg base 4 "Fractions" (spIni K "Fractions" GFrac) := ⟨m_frac z, z.cls (c_glo_Fractions z.c), He.mkr_ok (c_mk_Fractions z.c)⟩
theorem gc_Whole (z : Z K mg base) : GC PW w K mg base 4 "Whole" (spIni K "Whole" (GWhole K)) := ⟨m_Whole z, z.cls (c_glo_Whole z.c), He.mkr_ok (c_mk_Whole z.c)⟩
theorem gc_Rests (z : Z K mg base) : GC PW w K mg base 4 "Rests" (spIni K "Rests" (GRests K)) := ⟨m_Rests z, z.cls (c_glo_Rests z.c), He.mkr_ok (c_mk_Rests z.c)⟩
theorem gc_Sets (z : Z K mg base) : GC PW w K mg base 4 "Sets" (spIni K "Sets" (GSets K)) := ⟨m_Sets z, z.cls (c_glo_Sets z.c), He.mkr_ok (c_mk_Sets z.c)⟩
theorem gc_Matrices (z : Z K mg base) : GC PW w K mg base 4 "Matrices" (spIni K "Matrices" (GMatrices K)) := ⟨m_Matrices z, z.cls (c_glo_Matrices z.c), He.mkr_ok (c_mk_Matrices z.c)⟩
theorem gc_Triangles (z : Z K mg base) : GC PW w K mg base 4 "Triangles" (spIni K "Triangles" (GTriangles K)) := ⟨m_Triangles z, z.cls (c_glo_Triangles z.c), He.mkr_ok (c_mk_Triangles z.c)⟩
theorem gc_Polynomials (z : Z K mg base) : GC PW w K mg base 4 "Polynomials" (spIni K "Polynomials" (GPolynomials K)) := ⟨m_Polynomials z, z.cls (c_glo_Polynomials z.c), He.mkr_ok (c_mk_Polynomials z.c)⟩
theorem gc_Duals (z : Z K mg base) : GC PW w K mg base 4 "Duals" (spIni K "Duals" (GDuals K)) := ⟨m_Duals z, z.cls (c_glo_Duals z.c), He.mkr_ok (c_mk_Duals z.c)⟩
theorem gc_Words (z : Z K mg base) : GC PW w K mg base 4 "Words" (spIni K "Words" (GWords K)) := ⟨m_Words z, z.cls (c_glo_Words z.c), He.mkr_ok (c_mk_Words z.c)⟩
theorem gc_Pairs (z : Z K mg base) : GC PW w K mg base 4 "Pairs" (spIni K "Pairs" (GPairs K)) := ⟨m_Pairs z, z.cls (c_glo_Pairs z.c), He.mkr_ok (c_mk_Pairs z.c)⟩
theorem gc_Quaternions (z : Z K mg base) : GC PW w K mg base 4 "Quaternions" (spIni K "Quaternions" (GQuaternions K)) := ⟨m_Quaternions z, z.cls (c_glo_Quaternions z.c), He.mkr_ok (c_mk_Quaternions z.c)⟩
theorem gc_Swapped (z : Z K mg base) : GC PW w K mg base 4 "Swapped" (spIni K "Swapped" (GSwapped K)) := ⟨m_Swapped z, z.cls (c_glo_Swapped z.c), He.mkr_ok (c_mk_Swapped z.c)⟩
theorem gc_Twists (z : Z K mg base) : GC PW w K mg base 4 "Twists" (spIni K "Twists" (GTwists K)) := ⟨m_Twists z, z.cls (c_glo_Twists z.c), He.mkr_ok (c_mk_Twists z.c)⟩
theorem gc_Roots (z : Z K mg base) : GC PW w K mg base 5 "Roots" (spIni K "Roots" (GRoots K)) := ⟨m_Roots z, z.cls (c_glo_Roots z.c), He.mkr_ok (c_mk_Roots z.c)⟩
def spRing (K : PySem.W.Frag) (r : RS) : Sp := fun vs H Q _ => ∃ x, vs = [x] ∧ isSpec r H x ∧ ∀ a H', Same H H' → ROb K H' a r → Q (.ref a) H'
theorem sc_lring : FnScope ["_law_spec", "_law_kind_z", "_law_base"] ["_law_spec"] dF_law_ring.scope := ⟨rfl, rfl, rfl, by decide +kernel, rfl, by decide +kernel, by decide +kernel⟩
theorem g_ring (z : Z K mg base) : ∀ r : RS, JM.wf r → dep r ≤ 4 → GF PW w K mg base (dep r + 7) "_law_ring" (spRing K r)
  | .frac, wf, hd => by
    refine gf_of z.c z.x z.g (c_glo__law_ring z.c) (f_F_law_ring z.c) (fn_plain (k := dep (RS.frac) + 6) (f_F_law_ring z.c) sc_lring (fun vs H Q E h => ?_) (fun _ _ _ _ _ _ us hl => match us, hl with | [_], _ => rfl) fun cdv A outer s H vs Q E hr h => ?_)
    · obtain ⟨x, rfl, _⟩ := h; rfl
    obtain ⟨_, rfl, ⟨p, rfl, hp⟩, h⟩ := h
    have hr6 := hr.mono (j := 6) (Nat.le_add_left _ _)
    refine ⟨_, pss_cons (ps_set (i := 1) sc_lring.nd rfl (.inl rfl) (pe_ix ix_tup (pv 0) pe_int (fun _ _ => rfl)))
        (pss_cons (ps_if (pt_cmpR op_eq (pv 1) pe_str (nomark _)) (pss_one (ps_ret (pe_mk0 (gc_Fractions z) (hr6.mono (by decide)) (by rfl) pass0))) pss_nil)
        pss_never), ?_⟩
    refine ⟨_, rfl, p, _, _, _, rfl, rfl, SqT.of hp, atI_nat (j := 0) rfl, ?_⟩
    refine ⟨_, rfl, rfl, _, rfl, iteBT (by decide +kernel) ?_⟩
    skip
    exact ini_mk (G := GFrac) (r := .frac) (fun H' _ => ⟨rfl, rfl⟩) fun a H1 _ k o => h a H1 (Same.trans (fun _ _ e => e) k) o
  | .whole d, wf, hd => by
    refine gf_of z.c z.x z.g (c_glo__law_ring z.c) (f_F_law_ring z.c) (fn_plain (k := dep (RS.whole d) + 6) (f_F_law_ring z.c) sc_lring (fun vs H Q E h => ?_) (fun _ _ _ _ _ _ us hl => match us, hl with | [_], _ => rfl) fun cdv A outer s H vs Q E hr h => ?_)
    · obtain ⟨x, rfl, _⟩ := h; rfl
    obtain ⟨_, rfl, ⟨p, rfl, hp⟩, h⟩ := h
    have hr6 := hr.mono (j := 6) (Nat.le_add_left _ _)
    refine ⟨_, pss_cons (ps_set (i := 1) sc_lring.nd rfl (.inl rfl) (pe_ix ix_tup (pv 0) pe_int (fun _ _ => rfl)))
        (pss_cons (ps_if (pt_cmpR op_eq (pv 1) pe_str (nomark _)) (pss_one ps_never) pss_nil)
        (pss_cons (ps_if (pt_cmpR op_in_seq (pv 1) (pe_lst (pa_cons pe_str (pa_cons pe_str (pa_cons pe_str pa_nil)))) rfl) (pss_one (ps_ret (pe_ifExp (pt_cmpR op_eq (pv 1) pe_str (nomark _)) (pe_mk (gc_Whole z) (hr6.mono (by decide)) (by rfl) pass0 (pa_cons (pe_ix ix_tup (pv 0) pe_int (fun _ _ => rfl)) pa_nil)) (pe_ifExp (pt_cmpR op_eq (pv 1) pe_str (nomark _)) (pe_mk (gc_Rests z) (hr6.mono (by decide)) (by rfl) pass0 (pa_cons (pe_ix ix_tup (pv 0) pe_int (fun _ _ => rfl)) pa_nil)) (pe_mk (gc_Sets z) (hr6.mono (by decide)) (by rfl) pass0 (pa_cons (pe_ix ix_tup (pv 0) pe_int (fun _ _ => rfl)) pa_nil)))))) pss_nil)
        pss_never)), ?_⟩
    refine ⟨_, rfl, p, _, _, _, rfl, rfl, SqT.of hp, atI_nat (j := 0) rfl, ?_⟩
    refine ⟨_, rfl, rfl, _, rfl, iteBF (by decide +kernel) ?_⟩
    refine ⟨_, rfl, lnb rfl, fun u2 hu2 => ?_⟩
    have k2 := same_new (o := .lst [V.str "whole", V.str "rests", V.str "sets"]) hu2
    refine ⟨u2, _, rfl, .inl (SqL.of upd_same), rfl, rfl, _, rfl, iteBT (by decide +kernel) ?_⟩
    refine ⟨_, rfl, rfl, _, rfl, iteBT (by decide +kernel) ?_⟩
    refine ⟨_, rfl, p, _, _, _, rfl, rfl, SqT.of (k2 _ _ (hp)), atI_nat (j := 1) rfl, ?_⟩
    exact ini_mk (G := GWhole K) (r := .whole d) (fun H' _ => ⟨d, rfl, rfl, wf⟩) fun a H1 _ k o => h a H1 (Same.trans (k2) k) o
  | .rests d, wf, hd => by
    refine gf_of z.c z.x z.g (c_glo__law_ring z.c) (f_F_law_ring z.c) (fn_plain (k := dep (RS.rests d) + 6) (f_F_law_ring z.c) sc_lring (fun vs H Q E h => ?_) (fun _ _ _ _ _ _ us hl => match us, hl with | [_], _ => rfl) fun cdv A outer s H vs Q E hr h => ?_)
    · obtain ⟨x, rfl, _⟩ := h; rfl
    obtain ⟨_, rfl, ⟨p, rfl, hp⟩, h⟩ := h
    have hr6 := hr.mono (j := 6) (Nat.le_add_left _ _)
    refine ⟨_, pss_cons (ps_set (i := 1) sc_lring.nd rfl (.inl rfl) (pe_ix ix_tup (pv 0) pe_int (fun _ _ => rfl)))
        (pss_cons (ps_if (pt_cmpR op_eq (pv 1) pe_str (nomark _)) (pss_one ps_never) pss_nil)
        (pss_cons (ps_if (pt_cmpR op_in_seq (pv 1) (pe_lst (pa_cons pe_str (pa_cons pe_str (pa_cons pe_str pa_nil)))) rfl) (pss_one (ps_ret (pe_ifExp (pt_cmpR op_eq (pv 1) pe_str (nomark _)) (pe_mk (gc_Whole z) (hr6.mono (by decide)) (by rfl) pass0 (pa_cons (pe_ix ix_tup (pv 0) pe_int (fun _ _ => rfl)) pa_nil)) (pe_ifExp (pt_cmpR op_eq (pv 1) pe_str (nomark _)) (pe_mk (gc_Rests z) (hr6.mono (by decide)) (by rfl) pass0 (pa_cons (pe_ix ix_tup (pv 0) pe_int (fun _ _ => rfl)) pa_nil)) (pe_mk (gc_Sets z) (hr6.mono (by decide)) (by rfl) pass0 (pa_cons (pe_ix ix_tup (pv 0) pe_int (fun _ _ => rfl)) pa_nil)))))) pss_nil)
        pss_never)), ?_⟩
    refine ⟨_, rfl, p, _, _, _, rfl, rfl, SqT.of hp, atI_nat (j := 0) rfl, ?_⟩
    refine ⟨_, rfl, rfl, _, rfl, iteBF (by decide +kernel) ?_⟩
    refine ⟨_, rfl, lnb rfl, fun u2 hu2 => ?_⟩
    have k2 := same_new (o := .lst [V.str "whole", V.str "rests", V.str "sets"]) hu2
    refine ⟨u2, _, rfl, .inl (SqL.of upd_same), rfl, rfl, _, rfl, iteBT (by decide +kernel) ?_⟩
    refine ⟨_, rfl, rfl, _, rfl, iteBF (by decide +kernel) ?_⟩
    refine ⟨_, rfl, rfl, _, rfl, iteBT (by decide +kernel) ?_⟩
    refine ⟨_, rfl, p, _, _, _, rfl, rfl, SqT.of (k2 _ _ (hp)), atI_nat (j := 1) rfl, ?_⟩
    exact ini_mk (G := GRests K) (r := .rests d) (fun H' _ => ⟨d, rfl, rfl, wf⟩) fun a H1 _ k o => h a H1 (Same.trans (k2) k) o
  | .sets d, wf, hd => by
    refine gf_of z.c z.x z.g (c_glo__law_ring z.c) (f_F_law_ring z.c) (fn_plain (k := dep (RS.sets d) + 6) (f_F_law_ring z.c) sc_lring (fun vs H Q E h => ?_) (fun _ _ _ _ _ _ us hl => match us, hl with | [_], _ => rfl) fun cdv A outer s H vs Q E hr h => ?_)
    · obtain ⟨x, rfl, _⟩ := h; rfl
    obtain ⟨_, rfl, ⟨p, rfl, hp⟩, h⟩ := h
    have hr6 := hr.mono (j := 6) (Nat.le_add_left _ _)
    refine ⟨_, pss_cons (ps_set (i := 1) sc_lring.nd rfl (.inl rfl) (pe_ix ix_tup (pv 0) pe_int (fun _ _ => rfl)))
        (pss_cons (ps_if (pt_cmpR op_eq (pv 1) pe_str (nomark _)) (pss_one ps_never) pss_nil)
        (pss_cons (ps_if (pt_cmpR op_in_seq (pv 1) (pe_lst (pa_cons pe_str (pa_cons pe_str (pa_cons pe_str pa_nil)))) rfl) (pss_one (ps_ret (pe_ifExp (pt_cmpR op_eq (pv 1) pe_str (nomark _)) (pe_mk (gc_Whole z) (hr6.mono (by decide)) (by rfl) pass0 (pa_cons (pe_ix ix_tup (pv 0) pe_int (fun _ _ => rfl)) pa_nil)) (pe_ifExp (pt_cmpR op_eq (pv 1) pe_str (nomark _)) (pe_mk (gc_Rests z) (hr6.mono (by decide)) (by rfl) pass0 (pa_cons (pe_ix ix_tup (pv 0) pe_int (fun _ _ => rfl)) pa_nil)) (pe_mk (gc_Sets z) (hr6.mono (by decide)) (by rfl) pass0 (pa_cons (pe_ix ix_tup (pv 0) pe_int (fun _ _ => rfl)) pa_nil)))))) pss_nil)
        pss_never)), ?_⟩
    refine ⟨_, rfl, p, _, _, _, rfl, rfl, SqT.of hp, atI_nat (j := 0) rfl, ?_⟩
    refine ⟨_, rfl, rfl, _, rfl, iteBF (by decide +kernel) ?_⟩
    refine ⟨_, rfl, lnb rfl, fun u2 hu2 => ?_⟩
    have k2 := same_new (o := .lst [V.str "whole", V.str "rests", V.str "sets"]) hu2
    refine ⟨u2, _, rfl, .inl (SqL.of upd_same), rfl, rfl, _, rfl, iteBT (by decide +kernel) ?_⟩
    refine ⟨_, rfl, rfl, _, rfl, iteBF (by decide +kernel) ?_⟩
    refine ⟨_, rfl, rfl, _, rfl, iteBF (by decide +kernel) ?_⟩
    refine ⟨_, rfl, p, _, _, _, rfl, rfl, SqT.of (k2 _ _ (hp)), atI_nat (j := 1) rfl, ?_⟩
    exact ini_mk (G := GSets K) (r := .sets d) (fun H' _ => ⟨d, rfl, rfl, wf⟩) fun a H1 _ k o => h a H1 (Same.trans (k2) k) o
  | .mats b, wf, hd => by
    have hd' : 1 + dep b ≤ 4 := hd
    have Gb : GF PW w K mg base (dep b + 7) "_law_ring" (spRing K b) := g_ring z b wf (by omega)
    refine gf_of z.c z.x z.g (c_glo__law_ring z.c) (f_F_law_ring z.c) (fn_plain (k := dep (RS.mats b) + 6) (f_F_law_ring z.c) sc_lring (fun vs H Q E h => ?_) (fun _ _ _ _ _ _ us hl => match us, hl with | [_], _ => rfl) fun cdv A outer s H vs Q E hr h => ?_)
    · obtain ⟨x, rfl, _⟩ := h; rfl
    obtain ⟨_, rfl, ⟨p, x, rfl, hp, hi⟩, h⟩ := h
    have hr6 := hr.mono (j := 6) (Nat.le_add_left _ _)
    have hrb := hr.mono (j := dep b + 7) (by show dep b + 7 ≤ (1 + dep b) + 6; omega)
    refine ⟨_, pss_cons (ps_set (i := 1) sc_lring.nd rfl (.inl rfl) (pe_ix ix_tup (pv 0) pe_int (fun _ _ => rfl)))
        (pss_cons (ps_if (pt_cmpR op_eq (pv 1) pe_str (nomark _)) (pss_one ps_never) pss_nil)
        (pss_cons (ps_if (pt_cmpR op_in_seq (pv 1) (pe_lst (pa_cons pe_str (pa_cons pe_str (pa_cons pe_str pa_nil)))) rfl) (pss_one ps_never) pss_nil)
        (pss_cons (ps_if (pt_cmpR op_eq (pv 1) pe_str (nomark _)) (pss_one ps_never) pss_nil)
        (pss_cons (ps_if (pt_cmpR op_eq (pv 1) pe_str (nomark _)) (pss_one ps_never) pss_nil)
        (pss_cons (ps_set (i := 2) sc_lring.nd rfl (.inl rfl) (pe_cf Gb hrb (by rfl) pass0 (pa_cons (pe_ix ix_tup (pv 0) (pe_un un_neg pe_int) (fun _ _ => rfl)) pa_nil)))
        (pss_cons (ps_if (pt_cmpR op_in_seq (pv 1) (pe_lst (pa_cons pe_str (pa_cons pe_str pa_nil))) rfl) (pss_one (ps_ret (pe_ifExp (pt_cmpR op_eq (pv 1) pe_str (nomark _)) (pe_mk (gc_Matrices z) (hr6.mono (by decide)) (by rfl) pass0 (pa_cons (pe_ix ix_tup (pv 0) pe_int (fun _ _ => rfl)) (pa_cons (pv 2) pa_nil))) (pe_mk (gc_Roots z) (hr6.mono (by decide)) (by rfl) pass0 (pa_cons (pe_ix ix_tup (pv 0) pe_int (fun _ _ => rfl)) (pa_cons (pv 2) pa_nil)))))) pss_nil)
        pss_never)))))), ?_⟩
    refine ⟨_, rfl, p, _, _, _, rfl, rfl, SqT.of hp, atI_nat (j := 0) rfl, ?_⟩
    refine ⟨_, rfl, rfl, _, rfl, iteBF (by decide +kernel) ?_⟩
    refine ⟨_, rfl, lnb rfl, fun u2 hu2 => ?_⟩
    have k2 := same_new (o := .lst [V.str "whole", V.str "rests", V.str "sets"]) hu2
    refine ⟨u2, _, rfl, .inl (SqL.of upd_same), rfl, rfl, _, rfl, iteBF (by decide +kernel) ?_⟩
    refine ⟨_, rfl, rfl, _, rfl, iteBF (by decide +kernel) ?_⟩
    refine ⟨_, rfl, rfl, _, rfl, iteBF (by decide +kernel) ?_⟩
    refine ⟨_, rfl, _, rfl, p, _, _, _, rfl, rfl, SqT.of (k2 _ _ (hp)), rfl, _, rfl, hi.same (k2), fun b' Hb kb ob => ?_⟩
    refine ⟨_, rfl, lnb rfl, fun u6 hu6 => ?_⟩
    have k6 := same_new (o := .lst [V.str "matrices", V.str "roots"]) hu6
    refine ⟨u6, _, rfl, .inl (SqL.of upd_same), rfl, rfl, _, rfl, iteBT (by decide +kernel) ?_⟩
    refine ⟨_, rfl, rfl, _, rfl, iteBT (by decide +kernel) ?_⟩
    refine ⟨_, rfl, p, _, _, _, rfl, rfl, SqT.of (k6 _ _ (kb _ _ (k2 _ _ (hp)))), atI_nat (j := 1) rfl, _, rfl, ?_⟩
    exact ini_mk (G := GMatrices K) (r := .mats b) (fun H' k => ⟨b', b, rfl, rfl, (ob.same (k6)).same k, (by omega), wf⟩) fun a H1 _ k o => h a H1 (Same.trans (Same.trans (Same.trans (k2) (kb)) (k6)) k) o
  | .root sq b, wf, hd => by
    have hd' : 1 + dep b ≤ 4 := hd
    have Gb : GF PW w K mg base (dep b + 7) "_law_ring" (spRing K b) := g_ring z b wf.2 (by omega)
    refine gf_of z.c z.x z.g (c_glo__law_ring z.c) (f_F_law_ring z.c) (fn_plain (k := dep (RS.root sq b) + 6) (f_F_law_ring z.c) sc_lring (fun vs H Q E h => ?_) (fun _ _ _ _ _ _ us hl => match us, hl with | [_], _ => rfl) fun cdv A outer s H vs Q E hr h => ?_)
    · obtain ⟨x, rfl, _⟩ := h; rfl
    obtain ⟨_, rfl, ⟨p, x, rfl, hp, hi⟩, h⟩ := h
    have hr6 := hr.mono (j := 6) (Nat.le_add_left _ _)
    have hrb := hr.mono (j := dep b + 7) (by show dep b + 7 ≤ (1 + dep b) + 6; omega)
    refine ⟨_, pss_cons (ps_set (i := 1) sc_lring.nd rfl (.inl rfl) (pe_ix ix_tup (pv 0) pe_int (fun _ _ => rfl)))
        (pss_cons (ps_if (pt_cmpR op_eq (pv 1) pe_str (nomark _)) (pss_one ps_never) pss_nil)
        (pss_cons (ps_if (pt_cmpR op_in_seq (pv 1) (pe_lst (pa_cons pe_str (pa_cons pe_str (pa_cons pe_str pa_nil)))) rfl) (pss_one ps_never) pss_nil)
        (pss_cons (ps_if (pt_cmpR op_eq (pv 1) pe_str (nomark _)) (pss_one ps_never) pss_nil)
        (pss_cons (ps_if (pt_cmpR op_eq (pv 1) pe_str (nomark _)) (pss_one ps_never) pss_nil)
        (pss_cons (ps_set (i := 2) sc_lring.nd rfl (.inl rfl) (pe_cf Gb hrb (by rfl) pass0 (pa_cons (pe_ix ix_tup (pv 0) (pe_un un_neg pe_int) (fun _ _ => rfl)) pa_nil)))
        (pss_cons (ps_if (pt_cmpR op_in_seq (pv 1) (pe_lst (pa_cons pe_str (pa_cons pe_str pa_nil))) rfl) (pss_one (ps_ret (pe_ifExp (pt_cmpR op_eq (pv 1) pe_str (nomark _)) (pe_mk (gc_Matrices z) (hr6.mono (by decide)) (by rfl) pass0 (pa_cons (pe_ix ix_tup (pv 0) pe_int (fun _ _ => rfl)) (pa_cons (pv 2) pa_nil))) (pe_mk (gc_Roots z) (hr6.mono (by decide)) (by rfl) pass0 (pa_cons (pe_ix ix_tup (pv 0) pe_int (fun _ _ => rfl)) (pa_cons (pv 2) pa_nil)))))) pss_nil)
        pss_never)))))), ?_⟩
    refine ⟨_, rfl, p, _, _, _, rfl, rfl, SqT.of hp, atI_nat (j := 0) rfl, ?_⟩
    refine ⟨_, rfl, rfl, _, rfl, iteBF (by decide +kernel) ?_⟩
    refine ⟨_, rfl, lnb rfl, fun u2 hu2 => ?_⟩
    have k2 := same_new (o := .lst [V.str "whole", V.str "rests", V.str "sets"]) hu2
    refine ⟨u2, _, rfl, .inl (SqL.of upd_same), rfl, rfl, _, rfl, iteBF (by decide +kernel) ?_⟩
    refine ⟨_, rfl, rfl, _, rfl, iteBF (by decide +kernel) ?_⟩
    refine ⟨_, rfl, rfl, _, rfl, iteBF (by decide +kernel) ?_⟩
    refine ⟨_, rfl, _, rfl, p, _, _, _, rfl, rfl, SqT.of (k2 _ _ (hp)), rfl, _, rfl, hi.same (k2), fun b' Hb kb ob => ?_⟩
    refine ⟨_, rfl, lnb rfl, fun u6 hu6 => ?_⟩
    have k6 := same_new (o := .lst [V.str "matrices", V.str "roots"]) hu6
    refine ⟨u6, _, rfl, .inl (SqL.of upd_same), rfl, rfl, _, rfl, iteBT (by decide +kernel) ?_⟩
    refine ⟨_, rfl, rfl, _, rfl, iteBF (by decide +kernel) ?_⟩
    refine ⟨_, rfl, p, _, _, _, rfl, rfl, SqT.of (k6 _ _ (kb _ _ (k2 _ _ (hp)))), atI_nat (j := 1) rfl, _, rfl, ?_⟩
    exact ini_mk (G := GRoots K) (r := .root sq b) (fun H' k => ⟨sq, b', b, rfl, rfl, (ob.same (k6)).same k, (by omega), wf⟩) fun a H1 _ k o => h a H1 (Same.trans (Same.trans (Same.trans (k2) (kb)) (k6)) k) o
  | .words l b, wf, hd => by
    have hd' : 1 + dep b ≤ 4 := hd
    have Gb : GF PW w K mg base (dep b + 7) "_law_ring" (spRing K b) := g_ring z b wf.2 (by omega)
    refine gf_of z.c z.x z.g (c_glo__law_ring z.c) (f_F_law_ring z.c) (fn_plain (k := dep (RS.words l b) + 6) (f_F_law_ring z.c) sc_lring (fun vs H Q E h => ?_) (fun _ _ _ _ _ _ us hl => match us, hl with | [_], _ => rfl) fun cdv A outer s H vs Q E hr h => ?_)
    · obtain ⟨x, rfl, _⟩ := h; rfl
    obtain ⟨_, rfl, ⟨p, x, rfl, hp, hi⟩, h⟩ := h
    have hr6 := hr.mono (j := 6) (Nat.le_add_left _ _)
    have hrb := hr.mono (j := dep b + 7) (by show dep b + 7 ≤ (1 + dep b) + 6; omega)
    refine ⟨_, pss_cons (ps_set (i := 1) sc_lring.nd rfl (.inl rfl) (pe_ix ix_tup (pv 0) pe_int (fun _ _ => rfl)))
        (pss_cons (ps_if (pt_cmpR op_eq (pv 1) pe_str (nomark _)) (pss_one ps_never) pss_nil)
        (pss_cons (ps_if (pt_cmpR op_in_seq (pv 1) (pe_lst (pa_cons pe_str (pa_cons pe_str (pa_cons pe_str pa_nil)))) rfl) (pss_one ps_never) pss_nil)
        (pss_cons (ps_if (pt_cmpR op_eq (pv 1) pe_str (nomark _)) (pss_one ps_never) pss_nil)
        (pss_cons (ps_if (pt_cmpR op_eq (pv 1) pe_str (nomark _)) (pss_one ps_never) pss_nil)
        (pss_cons (ps_set (i := 2) sc_lring.nd rfl (.inl rfl) (pe_cf Gb hrb (by rfl) pass0 (pa_cons (pe_ix ix_tup (pv 0) (pe_un un_neg pe_int) (fun _ _ => rfl)) pa_nil)))
        (pss_cons (ps_if (pt_cmpR op_in_seq (pv 1) (pe_lst (pa_cons pe_str (pa_cons pe_str pa_nil))) rfl) (pss_one ps_never) pss_nil)
        (pss_cons (ps_if (pt_cmpR op_in_seq (pv 1) (pe_lst (pa_cons pe_str (pa_cons pe_str pa_nil))) rfl) (pss_one (ps_ret (pe_ifExp (pt_cmpR op_eq (pv 1) pe_str (nomark _)) (pe_mk (gc_Words z) (hr6.mono (by decide)) (by rfl) pass0 (pa_cons (pe_ix ix_tup (pv 0) pe_int (fun _ _ => rfl)) (pa_cons (pv 2) pa_nil))) (pe_mk (gc_Twists z) (hr6.mono (by decide)) (by rfl) pass0 (pa_cons (pe_ix ix_tup (pv 0) pe_int (fun _ _ => rfl)) (pa_cons (pv 2) pa_nil)))))) pss_nil)
        pss_never))))))), ?_⟩
    refine ⟨_, rfl, p, _, _, _, rfl, rfl, SqT.of hp, atI_nat (j := 0) rfl, ?_⟩
    refine ⟨_, rfl, rfl, _, rfl, iteBF (by decide +kernel) ?_⟩
    refine ⟨_, rfl, lnb rfl, fun u2 hu2 => ?_⟩
    have k2 := same_new (o := .lst [V.str "whole", V.str "rests", V.str "sets"]) hu2
    refine ⟨u2, _, rfl, .inl (SqL.of upd_same), rfl, rfl, _, rfl, iteBF (by decide +kernel) ?_⟩
    refine ⟨_, rfl, rfl, _, rfl, iteBF (by decide +kernel) ?_⟩
    refine ⟨_, rfl, rfl, _, rfl, iteBF (by decide +kernel) ?_⟩
    refine ⟨_, rfl, _, rfl, p, _, _, _, rfl, rfl, SqT.of (k2 _ _ (hp)), rfl, _, rfl, hi.same (k2), fun b' Hb kb ob => ?_⟩
    refine ⟨_, rfl, lnb rfl, fun u6 hu6 => ?_⟩
    have k6 := same_new (o := .lst [V.str "matrices", V.str "roots"]) hu6
    refine ⟨u6, _, rfl, .inl (SqL.of upd_same), rfl, rfl, _, rfl, iteBF (by decide +kernel) ?_⟩
    refine ⟨_, rfl, lnb rfl, fun u7 hu7 => ?_⟩
    have k7 := same_new (o := .lst [V.str "words", V.str "twists"]) hu7
    refine ⟨u7, _, rfl, .inl (SqL.of upd_same), rfl, rfl, _, rfl, iteBT (by decide +kernel) ?_⟩
    refine ⟨_, rfl, rfl, _, rfl, iteBT (by decide +kernel) ?_⟩
    refine ⟨_, rfl, p, _, _, _, rfl, rfl, SqT.of (k7 _ _ (k6 _ _ (kb _ _ (k2 _ _ (hp))))), atI_nat (j := 1) rfl, _, rfl, ?_⟩
    exact ini_mk (G := GWords K) (r := .words l b) (fun H' k => ⟨l, b', b, rfl, rfl, (ob.same (Same.trans (k6) (k7))).same k, (by omega), wf⟩) fun a H1 _ k o => h a H1 (Same.trans (Same.trans (Same.trans (Same.trans (k2) (kb)) (k6)) (k7)) k) o
  | .twist t b, wf, hd => by
    have hd' : 1 + dep b ≤ 4 := hd
    have Gb : GF PW w K mg base (dep b + 7) "_law_ring" (spRing K b) := g_ring z b wf.2.1 (by omega)
    refine gf_of z.c z.x z.g (c_glo__law_ring z.c) (f_F_law_ring z.c) (fn_plain (k := dep (RS.twist t b) + 6) (f_F_law_ring z.c) sc_lring (fun vs H Q E h => ?_) (fun _ _ _ _ _ _ us hl => match us, hl with | [_], _ => rfl) fun cdv A outer s H vs Q E hr h => ?_)
    · obtain ⟨x, rfl, _⟩ := h; rfl
    obtain ⟨_, rfl, ⟨p, x, rfl, hp, hi⟩, h⟩ := h
    have hr6 := hr.mono (j := 6) (Nat.le_add_left _ _)
    have hrb := hr.mono (j := dep b + 7) (by show dep b + 7 ≤ (1 + dep b) + 6; omega)
    refine ⟨_, pss_cons (ps_set (i := 1) sc_lring.nd rfl (.inl rfl) (pe_ix ix_tup (pv 0) pe_int (fun _ _ => rfl)))
        (pss_cons (ps_if (pt_cmpR op_eq (pv 1) pe_str (nomark _)) (pss_one ps_never) pss_nil)
        (pss_cons (ps_if (pt_cmpR op_in_seq (pv 1) (pe_lst (pa_cons pe_str (pa_cons pe_str (pa_cons pe_str pa_nil)))) rfl) (pss_one ps_never) pss_nil)
        (pss_cons (ps_if (pt_cmpR op_eq (pv 1) pe_str (nomark _)) (pss_one ps_never) pss_nil)
        (pss_cons (ps_if (pt_cmpR op_eq (pv 1) pe_str (nomark _)) (pss_one ps_never) pss_nil)
        (pss_cons (ps_set (i := 2) sc_lring.nd rfl (.inl rfl) (pe_cf Gb hrb (by rfl) pass0 (pa_cons (pe_ix ix_tup (pv 0) (pe_un un_neg pe_int) (fun _ _ => rfl)) pa_nil)))
        (pss_cons (ps_if (pt_cmpR op_in_seq (pv 1) (pe_lst (pa_cons pe_str (pa_cons pe_str pa_nil))) rfl) (pss_one ps_never) pss_nil)
        (pss_cons (ps_if (pt_cmpR op_in_seq (pv 1) (pe_lst (pa_cons pe_str (pa_cons pe_str pa_nil))) rfl) (pss_one (ps_ret (pe_ifExp (pt_cmpR op_eq (pv 1) pe_str (nomark _)) (pe_mk (gc_Words z) (hr6.mono (by decide)) (by rfl) pass0 (pa_cons (pe_ix ix_tup (pv 0) pe_int (fun _ _ => rfl)) (pa_cons (pv 2) pa_nil))) (pe_mk (gc_Twists z) (hr6.mono (by decide)) (by rfl) pass0 (pa_cons (pe_ix ix_tup (pv 0) pe_int (fun _ _ => rfl)) (pa_cons (pv 2) pa_nil)))))) pss_nil)
        pss_never))))))), ?_⟩
    refine ⟨_, rfl, p, _, _, _, rfl, rfl, SqT.of hp, atI_nat (j := 0) rfl, ?_⟩
    refine ⟨_, rfl, rfl, _, rfl, iteBF (by decide +kernel) ?_⟩
    refine ⟨_, rfl, lnb rfl, fun u2 hu2 => ?_⟩
    have k2 := same_new (o := .lst [V.str "whole", V.str "rests", V.str "sets"]) hu2
    refine ⟨u2, _, rfl, .inl (SqL.of upd_same), rfl, rfl, _, rfl, iteBF (by decide +kernel) ?_⟩
    refine ⟨_, rfl, rfl, _, rfl, iteBF (by decide +kernel) ?_⟩
    refine ⟨_, rfl, rfl, _, rfl, iteBF (by decide +kernel) ?_⟩
    refine ⟨_, rfl, _, rfl, p, _, _, _, rfl, rfl, SqT.of (k2 _ _ (hp)), rfl, _, rfl, hi.same (k2), fun b' Hb kb ob => ?_⟩
    refine ⟨_, rfl, lnb rfl, fun u6 hu6 => ?_⟩
    have k6 := same_new (o := .lst [V.str "matrices", V.str "roots"]) hu6
    refine ⟨u6, _, rfl, .inl (SqL.of upd_same), rfl, rfl, _, rfl, iteBF (by decide +kernel) ?_⟩
    refine ⟨_, rfl, lnb rfl, fun u7 hu7 => ?_⟩
    have k7 := same_new (o := .lst [V.str "words", V.str "twists"]) hu7
    refine ⟨u7, _, rfl, .inl (SqL.of upd_same), rfl, rfl, _, rfl, iteBT (by decide +kernel) ?_⟩
    refine ⟨_, rfl, rfl, _, rfl, iteBF (by decide +kernel) ?_⟩
    refine ⟨_, rfl, p, _, _, _, rfl, rfl, SqT.of (k7 _ _ (k6 _ _ (kb _ _ (k2 _ _ (hp))))), atI_nat (j := 1) rfl, _, rfl, ?_⟩
    exact ini_mk (G := GTwists K) (r := .twist t b) (fun H' k => ⟨t, b', b, rfl, rfl, (ob.same (Same.trans (k6) (k7))).same k, (by omega), wf⟩) fun a H1 _ k o => h a H1 (Same.trans (Same.trans (Same.trans (Same.trans (k2) (kb)) (k6)) (k7)) k) o
  | .tri b, wf, hd => by
    have hd' : 1 + dep b ≤ 4 := hd
    have Gb : GF PW w K mg base (dep b + 7) "_law_ring" (spRing K b) := g_ring z b wf (by omega)
    refine gf_of z.c z.x z.g (c_glo__law_ring z.c) (f_F_law_ring z.c) (fn_plain (k := dep (RS.tri b) + 6) (f_F_law_ring z.c) sc_lring (fun vs H Q E h => ?_) (fun _ _ _ _ _ _ us hl => match us, hl with | [_], _ => rfl) fun cdv A outer s H vs Q E hr h => ?_)
    · obtain ⟨x, rfl, _⟩ := h; rfl
    obtain ⟨_, rfl, ⟨p, x, rfl, hp, hi⟩, h⟩ := h
    have hr6 := hr.mono (j := 6) (Nat.le_add_left _ _)
    have hrb := hr.mono (j := dep b + 7) (by show dep b + 7 ≤ (1 + dep b) + 6; omega)
    refine ⟨_, pss_cons (ps_set (i := 1) sc_lring.nd rfl (.inl rfl) (pe_ix ix_tup (pv 0) pe_int (fun _ _ => rfl)))
        (pss_cons (ps_if (pt_cmpR op_eq (pv 1) pe_str (nomark _)) (pss_one ps_never) pss_nil)
        (pss_cons (ps_if (pt_cmpR op_in_seq (pv 1) (pe_lst (pa_cons pe_str (pa_cons pe_str (pa_cons pe_str pa_nil)))) rfl) (pss_one ps_never) pss_nil)
        (pss_cons (ps_if (pt_cmpR op_eq (pv 1) pe_str (nomark _)) (pss_one ps_never) pss_nil)
        (pss_cons (ps_if (pt_cmpR op_eq (pv 1) pe_str (nomark _)) (pss_one ps_never) pss_nil)
        (pss_cons (ps_set (i := 2) sc_lring.nd rfl (.inl rfl) (pe_cf Gb hrb (by rfl) pass0 (pa_cons (pe_ix ix_tup (pv 0) (pe_un un_neg pe_int) (fun _ _ => rfl)) pa_nil)))
        (pss_cons (ps_if (pt_cmpR op_in_seq (pv 1) (pe_lst (pa_cons pe_str (pa_cons pe_str pa_nil))) rfl) (pss_one ps_never) pss_nil)
        (pss_cons (ps_if (pt_cmpR op_in_seq (pv 1) (pe_lst (pa_cons pe_str (pa_cons pe_str pa_nil))) rfl) (pss_one ps_never) pss_nil)
        (pss_cons (ps_if (pt_cmpR op_in_seq (pv 1) (pe_lst (pa_cons pe_str (pa_cons pe_str pa_nil))) rfl) (pss_one (ps_ret (pe_ifExp (pt_cmpR op_eq (pv 1) pe_str (nomark _)) (pe_mk (gc_Triangles z) (hr6.mono (by decide)) (by rfl) pass0 (pa_cons (pv 2) pa_nil)) (pe_mk (gc_Polynomials z) (hr6.mono (by decide)) (by rfl) pass0 (pa_cons (pv 2) pa_nil))))) pss_nil)
        pss_never)))))))), ?_⟩
    refine ⟨_, rfl, p, _, _, _, rfl, rfl, SqT.of hp, atI_nat (j := 0) rfl, ?_⟩
    refine ⟨_, rfl, rfl, _, rfl, iteBF (by decide +kernel) ?_⟩
    refine ⟨_, rfl, lnb rfl, fun u2 hu2 => ?_⟩
    have k2 := same_new (o := .lst [V.str "whole", V.str "rests", V.str "sets"]) hu2
    refine ⟨u2, _, rfl, .inl (SqL.of upd_same), rfl, rfl, _, rfl, iteBF (by decide +kernel) ?_⟩
    refine ⟨_, rfl, rfl, _, rfl, iteBF (by decide +kernel) ?_⟩
    refine ⟨_, rfl, rfl, _, rfl, iteBF (by decide +kernel) ?_⟩
    refine ⟨_, rfl, _, rfl, p, _, _, _, rfl, rfl, SqT.of (k2 _ _ (hp)), rfl, _, rfl, hi.same (k2), fun b' Hb kb ob => ?_⟩
    refine ⟨_, rfl, lnb rfl, fun u6 hu6 => ?_⟩
    have k6 := same_new (o := .lst [V.str "matrices", V.str "roots"]) hu6
    refine ⟨u6, _, rfl, .inl (SqL.of upd_same), rfl, rfl, _, rfl, iteBF (by decide +kernel) ?_⟩
    refine ⟨_, rfl, lnb rfl, fun u7 hu7 => ?_⟩
    have k7 := same_new (o := .lst [V.str "words", V.str "twists"]) hu7
    refine ⟨u7, _, rfl, .inl (SqL.of upd_same), rfl, rfl, _, rfl, iteBF (by decide +kernel) ?_⟩
    refine ⟨_, rfl, lnb rfl, fun u8 hu8 => ?_⟩
    have k8 := same_new (o := .lst [V.str "triangles", V.str "polynomials"]) hu8
    refine ⟨u8, _, rfl, .inl (SqL.of upd_same), rfl, rfl, _, rfl, iteBT (by decide +kernel) ?_⟩
    refine ⟨_, rfl, rfl, _, rfl, iteBT (by decide +kernel) ?_⟩
    refine ⟨_, rfl, ?_⟩
    exact ini_mk (G := GTriangles K) (r := .tri b) (fun H' k => ⟨b', b, rfl, rfl, (ob.same (Same.trans (Same.trans (k6) (k7)) (k8))).same k, (by omega), wf⟩) fun a H1 _ k o => h a H1 (Same.trans (Same.trans (Same.trans (Same.trans (Same.trans (k2) (kb)) (k6)) (k7)) (k8)) k) o
  | .poly b, wf, hd => by
    have hd' : 1 + dep b ≤ 4 := hd
    have Gb : GF PW w K mg base (dep b + 7) "_law_ring" (spRing K b) := g_ring z b wf (by omega)
    refine gf_of z.c z.x z.g (c_glo__law_ring z.c) (f_F_law_ring z.c) (fn_plain (k := dep (RS.poly b) + 6) (f_F_law_ring z.c) sc_lring (fun vs H Q E h => ?_) (fun _ _ _ _ _ _ us hl => match us, hl with | [_], _ => rfl) fun cdv A outer s H vs Q E hr h => ?_)
    · obtain ⟨x, rfl, _⟩ := h; rfl
    obtain ⟨_, rfl, ⟨p, x, rfl, hp, hi⟩, h⟩ := h
    have hr6 := hr.mono (j := 6) (Nat.le_add_left _ _)
    have hrb := hr.mono (j := dep b + 7) (by show dep b + 7 ≤ (1 + dep b) + 6; omega)
    refine ⟨_, pss_cons (ps_set (i := 1) sc_lring.nd rfl (.inl rfl) (pe_ix ix_tup (pv 0) pe_int (fun _ _ => rfl)))
        (pss_cons (ps_if (pt_cmpR op_eq (pv 1) pe_str (nomark _)) (pss_one ps_never) pss_nil)
        (pss_cons (ps_if (pt_cmpR op_in_seq (pv 1) (pe_lst (pa_cons pe_str (pa_cons pe_str (pa_cons pe_str pa_nil)))) rfl) (pss_one ps_never) pss_nil)
        (pss_cons (ps_if (pt_cmpR op_eq (pv 1) pe_str (nomark _)) (pss_one ps_never) pss_nil)
        (pss_cons (ps_if (pt_cmpR op_eq (pv 1) pe_str (nomark _)) (pss_one ps_never) pss_nil)
        (pss_cons (ps_set (i := 2) sc_lring.nd rfl (.inl rfl) (pe_cf Gb hrb (by rfl) pass0 (pa_cons (pe_ix ix_tup (pv 0) (pe_un un_neg pe_int) (fun _ _ => rfl)) pa_nil)))
        (pss_cons (ps_if (pt_cmpR op_in_seq (pv 1) (pe_lst (pa_cons pe_str (pa_cons pe_str pa_nil))) rfl) (pss_one ps_never) pss_nil)
        (pss_cons (ps_if (pt_cmpR op_in_seq (pv 1) (pe_lst (pa_cons pe_str (pa_cons pe_str pa_nil))) rfl) (pss_one ps_never) pss_nil)
        (pss_cons (ps_if (pt_cmpR op_in_seq (pv 1) (pe_lst (pa_cons pe_str (pa_cons pe_str pa_nil))) rfl) (pss_one (ps_ret (pe_ifExp (pt_cmpR op_eq (pv 1) pe_str (nomark _)) (pe_mk (gc_Triangles z) (hr6.mono (by decide)) (by rfl) pass0 (pa_cons (pv 2) pa_nil)) (pe_mk (gc_Polynomials z) (hr6.mono (by decide)) (by rfl) pass0 (pa_cons (pv 2) pa_nil))))) pss_nil)
        pss_never)))))))), ?_⟩
    refine ⟨_, rfl, p, _, _, _, rfl, rfl, SqT.of hp, atI_nat (j := 0) rfl, ?_⟩
    refine ⟨_, rfl, rfl, _, rfl, iteBF (by decide +kernel) ?_⟩
    refine ⟨_, rfl, lnb rfl, fun u2 hu2 => ?_⟩
    have k2 := same_new (o := .lst [V.str "whole", V.str "rests", V.str "sets"]) hu2
    refine ⟨u2, _, rfl, .inl (SqL.of upd_same), rfl, rfl, _, rfl, iteBF (by decide +kernel) ?_⟩
    refine ⟨_, rfl, rfl, _, rfl, iteBF (by decide +kernel) ?_⟩
    refine ⟨_, rfl, rfl, _, rfl, iteBF (by decide +kernel) ?_⟩
    refine ⟨_, rfl, _, rfl, p, _, _, _, rfl, rfl, SqT.of (k2 _ _ (hp)), rfl, _, rfl, hi.same (k2), fun b' Hb kb ob => ?_⟩
    refine ⟨_, rfl, lnb rfl, fun u6 hu6 => ?_⟩
    have k6 := same_new (o := .lst [V.str "matrices", V.str "roots"]) hu6
    refine ⟨u6, _, rfl, .inl (SqL.of upd_same), rfl, rfl, _, rfl, iteBF (by decide +kernel) ?_⟩
    refine ⟨_, rfl, lnb rfl, fun u7 hu7 => ?_⟩
    have k7 := same_new (o := .lst [V.str "words", V.str "twists"]) hu7
    refine ⟨u7, _, rfl, .inl (SqL.of upd_same), rfl, rfl, _, rfl, iteBF (by decide +kernel) ?_⟩
    refine ⟨_, rfl, lnb rfl, fun u8 hu8 => ?_⟩
    have k8 := same_new (o := .lst [V.str "triangles", V.str "polynomials"]) hu8
    refine ⟨u8, _, rfl, .inl (SqL.of upd_same), rfl, rfl, _, rfl, iteBT (by decide +kernel) ?_⟩
    refine ⟨_, rfl, rfl, _, rfl, iteBF (by decide +kernel) ?_⟩
    refine ⟨_, rfl, ?_⟩
    exact ini_mk (G := GPolynomials K) (r := .poly b) (fun H' k => ⟨b', b, rfl, rfl, (ob.same (Same.trans (Same.trans (k6) (k7)) (k8))).same k, (by omega), wf⟩) fun a H1 _ k o => h a H1 (Same.trans (Same.trans (Same.trans (Same.trans (Same.trans (k2) (kb)) (k6)) (k7)) (k8)) k) o
  | .dual b, wf, hd => by
    have hd' : 1 + dep b ≤ 4 := hd
    have Gb : GF PW w K mg base (dep b + 7) "_law_ring" (spRing K b) := g_ring z b wf (by omega)
    refine gf_of z.c z.x z.g (c_glo__law_ring z.c) (f_F_law_ring z.c) (fn_plain (k := dep (RS.dual b) + 6) (f_F_law_ring z.c) sc_lring (fun vs H Q E h => ?_) (fun _ _ _ _ _ _ us hl => match us, hl with | [_], _ => rfl) fun cdv A outer s H vs Q E hr h => ?_)
    · obtain ⟨x, rfl, _⟩ := h; rfl
    obtain ⟨_, rfl, ⟨p, x, rfl, hp, hi⟩, h⟩ := h
    have hr6 := hr.mono (j := 6) (Nat.le_add_left _ _)
    have hrb := hr.mono (j := dep b + 7) (by show dep b + 7 ≤ (1 + dep b) + 6; omega)
    refine ⟨_, pss_cons (ps_set (i := 1) sc_lring.nd rfl (.inl rfl) (pe_ix ix_tup (pv 0) pe_int (fun _ _ => rfl)))
        (pss_cons (ps_if (pt_cmpR op_eq (pv 1) pe_str (nomark _)) (pss_one ps_never) pss_nil)
        (pss_cons (ps_if (pt_cmpR op_in_seq (pv 1) (pe_lst (pa_cons pe_str (pa_cons pe_str (pa_cons pe_str pa_nil)))) rfl) (pss_one ps_never) pss_nil)
        (pss_cons (ps_if (pt_cmpR op_eq (pv 1) pe_str (nomark _)) (pss_one ps_never) pss_nil)
        (pss_cons (ps_if (pt_cmpR op_eq (pv 1) pe_str (nomark _)) (pss_one ps_never) pss_nil)
        (pss_cons (ps_set (i := 2) sc_lring.nd rfl (.inl rfl) (pe_cf Gb hrb (by rfl) pass0 (pa_cons (pe_ix ix_tup (pv 0) (pe_un un_neg pe_int) (fun _ _ => rfl)) pa_nil)))
        (pss_cons (ps_if (pt_cmpR op_in_seq (pv 1) (pe_lst (pa_cons pe_str (pa_cons pe_str pa_nil))) rfl) (pss_one ps_never) pss_nil)
        (pss_cons (ps_if (pt_cmpR op_in_seq (pv 1) (pe_lst (pa_cons pe_str (pa_cons pe_str pa_nil))) rfl) (pss_one ps_never) pss_nil)
        (pss_cons (ps_if (pt_cmpR op_in_seq (pv 1) (pe_lst (pa_cons pe_str (pa_cons pe_str pa_nil))) rfl) (pss_one ps_never) pss_nil)
        (pss_cons (ps_if (pt_cmpR op_eq (pv 1) pe_str (nomark _)) (pss_one (ps_ret (pe_mk (gc_Duals z) (hr6.mono (by decide)) (by rfl) pass0 (pa_cons (pv 2) pa_nil)))) pss_nil)
        pss_never))))))))), ?_⟩
    refine ⟨_, rfl, p, _, _, _, rfl, rfl, SqT.of hp, atI_nat (j := 0) rfl, ?_⟩
    refine ⟨_, rfl, rfl, _, rfl, iteBF (by decide +kernel) ?_⟩
    refine ⟨_, rfl, lnb rfl, fun u2 hu2 => ?_⟩
    have k2 := same_new (o := .lst [V.str "whole", V.str "rests", V.str "sets"]) hu2
    refine ⟨u2, _, rfl, .inl (SqL.of upd_same), rfl, rfl, _, rfl, iteBF (by decide +kernel) ?_⟩
    refine ⟨_, rfl, rfl, _, rfl, iteBF (by decide +kernel) ?_⟩
    refine ⟨_, rfl, rfl, _, rfl, iteBF (by decide +kernel) ?_⟩
    refine ⟨_, rfl, _, rfl, p, _, _, _, rfl, rfl, SqT.of (k2 _ _ (hp)), rfl, _, rfl, hi.same (k2), fun b' Hb kb ob => ?_⟩
    refine ⟨_, rfl, lnb rfl, fun u6 hu6 => ?_⟩
    have k6 := same_new (o := .lst [V.str "matrices", V.str "roots"]) hu6
    refine ⟨u6, _, rfl, .inl (SqL.of upd_same), rfl, rfl, _, rfl, iteBF (by decide +kernel) ?_⟩
    refine ⟨_, rfl, lnb rfl, fun u7 hu7 => ?_⟩
    have k7 := same_new (o := .lst [V.str "words", V.str "twists"]) hu7
    refine ⟨u7, _, rfl, .inl (SqL.of upd_same), rfl, rfl, _, rfl, iteBF (by decide +kernel) ?_⟩
    refine ⟨_, rfl, lnb rfl, fun u8 hu8 => ?_⟩
    have k8 := same_new (o := .lst [V.str "triangles", V.str "polynomials"]) hu8
    refine ⟨u8, _, rfl, .inl (SqL.of upd_same), rfl, rfl, _, rfl, iteBF (by decide +kernel) ?_⟩
    refine ⟨_, rfl, rfl, _, rfl, iteBT (by decide +kernel) ?_⟩
    refine ⟨_, rfl, ?_⟩
    exact ini_mk (G := GDuals K) (r := .dual b) (fun H' k => ⟨b', b, rfl, rfl, (ob.same (Same.trans (Same.trans (k6) (k7)) (k8))).same k, (by omega), wf⟩) fun a H1 _ k o => h a H1 (Same.trans (Same.trans (Same.trans (Same.trans (Same.trans (k2) (kb)) (k6)) (k7)) (k8)) k) o
  | .quat b, wf, hd => by
    have hd' : 1 + dep b ≤ 4 := hd
    have Gb : GF PW w K mg base (dep b + 7) "_law_ring" (spRing K b) := g_ring z b wf.2 (by omega)
    refine gf_of z.c z.x z.g (c_glo__law_ring z.c) (f_F_law_ring z.c) (fn_plain (k := dep (RS.quat b) + 6) (f_F_law_ring z.c) sc_lring (fun vs H Q E h => ?_) (fun _ _ _ _ _ _ us hl => match us, hl with | [_], _ => rfl) fun cdv A outer s H vs Q E hr h => ?_)
    · obtain ⟨x, rfl, _⟩ := h; rfl
    obtain ⟨_, rfl, ⟨p, x, rfl, hp, hi⟩, h⟩ := h
    have hr6 := hr.mono (j := 6) (Nat.le_add_left _ _)
    have hrb := hr.mono (j := dep b + 7) (by show dep b + 7 ≤ (1 + dep b) + 6; omega)
    refine ⟨_, pss_cons (ps_set (i := 1) sc_lring.nd rfl (.inl rfl) (pe_ix ix_tup (pv 0) pe_int (fun _ _ => rfl)))
        (pss_cons (ps_if (pt_cmpR op_eq (pv 1) pe_str (nomark _)) (pss_one ps_never) pss_nil)
        (pss_cons (ps_if (pt_cmpR op_in_seq (pv 1) (pe_lst (pa_cons pe_str (pa_cons pe_str (pa_cons pe_str pa_nil)))) rfl) (pss_one ps_never) pss_nil)
        (pss_cons (ps_if (pt_cmpR op_eq (pv 1) pe_str (nomark _)) (pss_one ps_never) pss_nil)
        (pss_cons (ps_if (pt_cmpR op_eq (pv 1) pe_str (nomark _)) (pss_one ps_never) pss_nil)
        (pss_cons (ps_set (i := 2) sc_lring.nd rfl (.inl rfl) (pe_cf Gb hrb (by rfl) pass0 (pa_cons (pe_ix ix_tup (pv 0) (pe_un un_neg pe_int) (fun _ _ => rfl)) pa_nil)))
        (pss_cons (ps_if (pt_cmpR op_in_seq (pv 1) (pe_lst (pa_cons pe_str (pa_cons pe_str pa_nil))) rfl) (pss_one ps_never) pss_nil)
        (pss_cons (ps_if (pt_cmpR op_in_seq (pv 1) (pe_lst (pa_cons pe_str (pa_cons pe_str pa_nil))) rfl) (pss_one ps_never) pss_nil)
        (pss_cons (ps_if (pt_cmpR op_in_seq (pv 1) (pe_lst (pa_cons pe_str (pa_cons pe_str pa_nil))) rfl) (pss_one ps_never) pss_nil)
        (pss_cons (ps_if (pt_cmpR op_eq (pv 1) pe_str (nomark _)) (pss_one ps_never) pss_nil)
        (pss_one (ps_ret (pe_ifExp (pt_cmpR op_eq (pv 1) pe_str (nomark _)) (pe_mk (gc_Quaternions z) (hr6.mono (by decide)) (by rfl) pass0 (pa_cons (pv 2) pa_nil)) (pe_mk (gc_Swapped z) (hr6.mono (by decide)) (by rfl) pass0 (pa_cons (pv 2) pa_nil)))))))))))))), ?_⟩
    refine ⟨_, rfl, p, _, _, _, rfl, rfl, SqT.of hp, atI_nat (j := 0) rfl, ?_⟩
    refine ⟨_, rfl, rfl, _, rfl, iteBF (by decide +kernel) ?_⟩
    refine ⟨_, rfl, lnb rfl, fun u2 hu2 => ?_⟩
    have k2 := same_new (o := .lst [V.str "whole", V.str "rests", V.str "sets"]) hu2
    refine ⟨u2, _, rfl, .inl (SqL.of upd_same), rfl, rfl, _, rfl, iteBF (by decide +kernel) ?_⟩
    refine ⟨_, rfl, rfl, _, rfl, iteBF (by decide +kernel) ?_⟩
    refine ⟨_, rfl, rfl, _, rfl, iteBF (by decide +kernel) ?_⟩
    refine ⟨_, rfl, _, rfl, p, _, _, _, rfl, rfl, SqT.of (k2 _ _ (hp)), rfl, _, rfl, hi.same (k2), fun b' Hb kb ob => ?_⟩
    refine ⟨_, rfl, lnb rfl, fun u6 hu6 => ?_⟩
    have k6 := same_new (o := .lst [V.str "matrices", V.str "roots"]) hu6
    refine ⟨u6, _, rfl, .inl (SqL.of upd_same), rfl, rfl, _, rfl, iteBF (by decide +kernel) ?_⟩
    refine ⟨_, rfl, lnb rfl, fun u7 hu7 => ?_⟩
    have k7 := same_new (o := .lst [V.str "words", V.str "twists"]) hu7
    refine ⟨u7, _, rfl, .inl (SqL.of upd_same), rfl, rfl, _, rfl, iteBF (by decide +kernel) ?_⟩
    refine ⟨_, rfl, lnb rfl, fun u8 hu8 => ?_⟩
    have k8 := same_new (o := .lst [V.str "triangles", V.str "polynomials"]) hu8
    refine ⟨u8, _, rfl, .inl (SqL.of upd_same), rfl, rfl, _, rfl, iteBF (by decide +kernel) ?_⟩
    refine ⟨_, rfl, rfl, _, rfl, iteBF (by decide +kernel) ?_⟩
    refine ⟨_, rfl, rfl, _, rfl, iteBT (by decide +kernel) ?_⟩
    refine ⟨_, rfl, ?_⟩
    exact ini_mk (G := GQuaternions K) (r := .quat b) (fun H' k => ⟨b', b, rfl, rfl, (ob.same (Same.trans (Same.trans (k6) (k7)) (k8))).same k, (by omega), wf⟩) fun a H1 _ k o => h a H1 (Same.trans (Same.trans (Same.trans (Same.trans (Same.trans (k2) (kb)) (k6)) (k7)) (k8)) k) o
  | .swp b, wf, hd => by
    have hd' : 1 + dep b ≤ 4 := hd
    have Gb : GF PW w K mg base (dep b + 7) "_law_ring" (spRing K b) := g_ring z b wf (by omega)
    refine gf_of z.c z.x z.g (c_glo__law_ring z.c) (f_F_law_ring z.c) (fn_plain (k := dep (RS.swp b) + 6) (f_F_law_ring z.c) sc_lring (fun vs H Q E h => ?_) (fun _ _ _ _ _ _ us hl => match us, hl with | [_], _ => rfl) fun cdv A outer s H vs Q E hr h => ?_)
    · obtain ⟨x, rfl, _⟩ := h; rfl
    obtain ⟨_, rfl, ⟨p, x, rfl, hp, hi⟩, h⟩ := h
    have hr6 := hr.mono (j := 6) (Nat.le_add_left _ _)
    have hrb := hr.mono (j := dep b + 7) (by show dep b + 7 ≤ (1 + dep b) + 6; omega)
    refine ⟨_, pss_cons (ps_set (i := 1) sc_lring.nd rfl (.inl rfl) (pe_ix ix_tup (pv 0) pe_int (fun _ _ => rfl)))
        (pss_cons (ps_if (pt_cmpR op_eq (pv 1) pe_str (nomark _)) (pss_one ps_never) pss_nil)
        (pss_cons (ps_if (pt_cmpR op_in_seq (pv 1) (pe_lst (pa_cons pe_str (pa_cons pe_str (pa_cons pe_str pa_nil)))) rfl) (pss_one ps_never) pss_nil)
        (pss_cons (ps_if (pt_cmpR op_eq (pv 1) pe_str (nomark _)) (pss_one ps_never) pss_nil)
        (pss_cons (ps_if (pt_cmpR op_eq (pv 1) pe_str (nomark _)) (pss_one ps_never) pss_nil)
        (pss_cons (ps_set (i := 2) sc_lring.nd rfl (.inl rfl) (pe_cf Gb hrb (by rfl) pass0 (pa_cons (pe_ix ix_tup (pv 0) (pe_un un_neg pe_int) (fun _ _ => rfl)) pa_nil)))
        (pss_cons (ps_if (pt_cmpR op_in_seq (pv 1) (pe_lst (pa_cons pe_str (pa_cons pe_str pa_nil))) rfl) (pss_one ps_never) pss_nil)
        (pss_cons (ps_if (pt_cmpR op_in_seq (pv 1) (pe_lst (pa_cons pe_str (pa_cons pe_str pa_nil))) rfl) (pss_one ps_never) pss_nil)
        (pss_cons (ps_if (pt_cmpR op_in_seq (pv 1) (pe_lst (pa_cons pe_str (pa_cons pe_str pa_nil))) rfl) (pss_one ps_never) pss_nil)
        (pss_cons (ps_if (pt_cmpR op_eq (pv 1) pe_str (nomark _)) (pss_one ps_never) pss_nil)
        (pss_one (ps_ret (pe_ifExp (pt_cmpR op_eq (pv 1) pe_str (nomark _)) (pe_mk (gc_Quaternions z) (hr6.mono (by decide)) (by rfl) pass0 (pa_cons (pv 2) pa_nil)) (pe_mk (gc_Swapped z) (hr6.mono (by decide)) (by rfl) pass0 (pa_cons (pv 2) pa_nil)))))))))))))), ?_⟩
    refine ⟨_, rfl, p, _, _, _, rfl, rfl, SqT.of hp, atI_nat (j := 0) rfl, ?_⟩
    refine ⟨_, rfl, rfl, _, rfl, iteBF (by decide +kernel) ?_⟩
    refine ⟨_, rfl, lnb rfl, fun u2 hu2 => ?_⟩
    have k2 := same_new (o := .lst [V.str "whole", V.str "rests", V.str "sets"]) hu2
    refine ⟨u2, _, rfl, .inl (SqL.of upd_same), rfl, rfl, _, rfl, iteBF (by decide +kernel) ?_⟩
    refine ⟨_, rfl, rfl, _, rfl, iteBF (by decide +kernel) ?_⟩
    refine ⟨_, rfl, rfl, _, rfl, iteBF (by decide +kernel) ?_⟩
    refine ⟨_, rfl, _, rfl, p, _, _, _, rfl, rfl, SqT.of (k2 _ _ (hp)), rfl, _, rfl, hi.same (k2), fun b' Hb kb ob => ?_⟩
    refine ⟨_, rfl, lnb rfl, fun u6 hu6 => ?_⟩
    have k6 := same_new (o := .lst [V.str "matrices", V.str "roots"]) hu6
    refine ⟨u6, _, rfl, .inl (SqL.of upd_same), rfl, rfl, _, rfl, iteBF (by decide +kernel) ?_⟩
    refine ⟨_, rfl, lnb rfl, fun u7 hu7 => ?_⟩
    have k7 := same_new (o := .lst [V.str "words", V.str "twists"]) hu7
    refine ⟨u7, _, rfl, .inl (SqL.of upd_same), rfl, rfl, _, rfl, iteBF (by decide +kernel) ?_⟩
    refine ⟨_, rfl, lnb rfl, fun u8 hu8 => ?_⟩
    have k8 := same_new (o := .lst [V.str "triangles", V.str "polynomials"]) hu8
    refine ⟨u8, _, rfl, .inl (SqL.of upd_same), rfl, rfl, _, rfl, iteBF (by decide +kernel) ?_⟩
    refine ⟨_, rfl, rfl, _, rfl, iteBF (by decide +kernel) ?_⟩
    refine ⟨_, rfl, rfl, _, rfl, iteBF (by decide +kernel) ?_⟩
    refine ⟨_, rfl, ?_⟩
    exact ini_mk (G := GSwapped K) (r := .swp b) (fun H' k => ⟨b', b, rfl, rfl, (ob.same (Same.trans (Same.trans (k6) (k7)) (k8))).same k, (by omega), wf⟩) fun a H1 _ k o => h a H1 (Same.trans (Same.trans (Same.trans (Same.trans (Same.trans (k2) (kb)) (k6)) (k7)) (k8)) k) o
  | .pairs a b, wf, hd => by
    have hd' : 1 + max (dep a) (dep b) ≤ 4 := hd
    have Ga : GF PW w K mg base (dep a + 7) "_law_ring" (spRing K a) := g_ring z a wf.1 (by omega)
    have Gb : GF PW w K mg base (dep b + 7) "_law_ring" (spRing K b) := g_ring z b wf.2 (by omega)
    refine gf_of z.c z.x z.g (c_glo__law_ring z.c) (f_F_law_ring z.c) (fn_plain (k := dep (RS.pairs a b) + 6) (f_F_law_ring z.c) sc_lring (fun vs H Q E h => ?_) (fun _ _ _ _ _ _ us hl => match us, hl with | [_], _ => rfl) fun cdv A outer s H vs Q E hr h => ?_)
    · obtain ⟨x, rfl, _⟩ := h; rfl
    obtain ⟨_, rfl, ⟨p, x, y, rfl, hp, hi, hj⟩, h⟩ := h
    have hr6 := hr.mono (j := 6) (Nat.le_add_left _ _)
    have hra := hr.mono (j := dep a + 7) (by show dep a + 7 ≤ (1 + max (dep a) (dep b)) + 6; omega)
    have hrb := hr.mono (j := dep b + 7) (by show dep b + 7 ≤ (1 + max (dep a) (dep b)) + 6; omega)
    refine ⟨_, pss_cons (ps_set (i := 1) sc_lring.nd rfl (.inl rfl) (pe_ix ix_tup (pv 0) pe_int (fun _ _ => rfl)))
        (pss_cons (ps_if (pt_cmpR op_eq (pv 1) pe_str (nomark _)) (pss_one ps_never) pss_nil)
        (pss_cons (ps_if (pt_cmpR op_in_seq (pv 1) (pe_lst (pa_cons pe_str (pa_cons pe_str (pa_cons pe_str pa_nil)))) rfl) (pss_one ps_never) pss_nil)
        (pss_cons (ps_if (pt_cmpR op_eq (pv 1) pe_str (nomark _)) (pss_one ps_never) pss_nil)
        (pss_cons (ps_if (pt_cmpR op_eq (pv 1) pe_str (nomark _)) (pss_one (ps_ret (pe_mk (gc_Pairs z) (hr6.mono (by decide)) (by rfl) pass0 (pa_cons (pe_cf Ga hra (by rfl) pass0 (pa_cons (pe_ix ix_tup (pv 0) pe_int (fun _ _ => rfl)) pa_nil)) (pa_cons (pe_cf Gb hrb (by rfl) pass0 (pa_cons (pe_ix ix_tup (pv 0) pe_int (fun _ _ => rfl)) pa_nil)) pa_nil))))) pss_nil)
        pss_never)))), ?_⟩
    refine ⟨_, rfl, p, _, _, _, rfl, rfl, SqT.of hp, atI_nat (j := 0) rfl, ?_⟩
    refine ⟨_, rfl, rfl, _, rfl, iteBF (by decide +kernel) ?_⟩
    refine ⟨_, rfl, lnb rfl, fun u2 hu2 => ?_⟩
    have k2 := same_new (o := .lst [V.str "whole", V.str "rests", V.str "sets"]) hu2
    refine ⟨u2, _, rfl, .inl (SqL.of upd_same), rfl, rfl, _, rfl, iteBF (by decide +kernel) ?_⟩
    refine ⟨_, rfl, rfl, _, rfl, iteBF (by decide +kernel) ?_⟩
    refine ⟨_, rfl, rfl, _, rfl, iteBT (by decide +kernel) ?_⟩
    refine ⟨_, rfl, p, _, _, _, rfl, rfl, SqT.of (k2 _ _ (hp)), atI_nat (j := 1) rfl, _, rfl, hi.same (k2), fun a' H2 k5 oa => ?_⟩
    have hp2 := k5 _ _ (k2 _ _ (hp))
    refine ⟨_, rfl, p, _, _, _, rfl, rfl, SqT.of hp2, atI_nat (j := 2) rfl, _, rfl, hj.same (Same.trans (k2) k5), fun b' H3 k6 ob => ?_⟩
    exact ini_mk (G := GPairs K) (r := .pairs a b) (fun H' k => ⟨a', a, b', b, rfl, rfl, (oa.same k6).same k, ob.same k, (by omega), (by omega), wf⟩) fun c H1 _ k o => h c H1 (Same.trans (Same.trans (Same.trans (k2) k5) k6) k) o
end
end J

/-! the law's draws of rings (printed by genG6.py) -/
namespace J
open PySem PySem.Spec PyProof.Rows L2
open JM (RS num dep N4)
section
variable {P : Program} {w : World} {K : PySem.W.Frag} {mg : Str → Option Value} {base : Heap}
/-- a step of the heap, the bag's list aside -/
structure Ch (b : Addr) (H H' : Hp) : Prop where
  bag : Bag H' b
  k : SameB b H H'
  t : KeepT H H'
theorem Ch.refl {b : Addr} {H : Hp} (h : Bag H b) : Ch b H H := ⟨h, SameB.refl b H, fun _ _ _ e => e⟩
theorem Ch.new {b u : Addr} {H : Hp} {o : HO} (h : Bag H b) (hu : H u = none) : Ch b H (upd H u o) := ⟨h.same (same_new hu), Same.but (same_new hu), Same.keepT (same_new hu)⟩
theorem Ch.of {b : Addr} {H H' : Hp} (h : Bag H b) (h' : Bag H' b) (k : SameB b H H') : Ch b H H' := ⟨h', k, h.keepT k⟩
theorem Ch.ofS {b : Addr} {H H' : Hp} (h : Bag H b) (k : Same H H') : Ch b H H' := ⟨h.same k, Same.but k, Same.keepT k⟩
theorem Ch.trans {b : Addr} {H H1 H2 : Hp} (h : Ch b H H1) (h' : Ch b H1 H2) : Ch b H H2 := ⟨h'.bag, h.k.trans h'.k, h.t.trans h'.t⟩
theorem pick_all {Pp : V → Prop} {xs : List V} (h : ∀ x ∈ xs, Pp x) {i : Nat} {x : V} (e : xs[i]? = some x) : Pp x := h x (List.mem_of_getElem? e)
theorem all_nil {Pp : V → Prop} : ∀ x ∈ ([] : List V), Pp x := fun x h => nomatch h
theorem all_cons {Pp : V → Prop} {a : V} {xs : List V} (h : Pp a) (t : ∀ x ∈ xs, Pp x) : ∀ x ∈ a :: xs, Pp x := fun x m => by
  rcases List.mem_cons.mp m with e | e
  · rw [e]; exact h
  · exact t x e
def isN (Pn : Nat → Prop) (x : V) : Prop := ∃ n : Nat, x = nt n ∧ Pn n
theorem sc_plain : FnScope ["_law_bag_here", "_law_way"] ["_law_bag_here"] dF_law_plain.scope := ⟨rfl, rfl, rfl, by decide +kernel, rfl, by decide +kernel, by decide +kernel⟩
def spPlain : Sp := fun vs H Q _ => ∃ b : Addr, vs = [.ref b] ∧ Bag H b ∧ ∀ (r : RS) (v : V) H', JM.wf r → dep r = 1 → (num r).s = 1 → isSpec r H' v → Ch b H H' → Q v H'
theorem g_plain (z : Z K mg base) : GF P w K mg base 3 "_law_plain" spPlain := by
  refine gf_of z.c z.x z.g (c_glo__law_plain z.c) (f_F_law_plain z.c) (fn_plain (f_F_law_plain z.c) sc_plain (fun vs H Q E h => ?_) (fun _ _ _ _ _ _ us hl => match us, hl with | [_], _ => rfl) fun cdv A outer s H vs Q E hr h => ?_)
  · obtain ⟨b, rfl, hb, q⟩ := h; rfl
  · obtain ⟨b, rfl, hb, q⟩ := h
    have GD : GF P w K mg base 1 "_law_draw" spDraw := g_draw z
    have GP : GF P w K mg base 2 "_law_pick" spPick := g_pick z
    refine ⟨_, (pss_cons (ps_set (i := 1) sc_plain.nd rfl (.inl rfl) (pe_cf GD (hr.mono (by decide)) (by rfl) pass0 (pa_cons (pv 0) (pa_cons pe_int pa_nil)))) (pss_cons (ps_if (pt_cmpR op_eq (pv 1) pe_int (nomark _)) (pss_one (ps_ret (pe_tup (pa_cons pe_str (pa_cons (pe_cf GP (hr.mono (by decide)) (by rfl) pass0 (pa_cons (pv 0) (pa_cons (pe_lst (pa_cons pe_int (pa_cons pe_int (pa_cons pe_int (pa_cons pe_int (pa_cons pe_int (pa_cons pe_int (pa_cons pe_int (pa_cons pe_int pa_nil))))))))) pa_nil))) pa_nil))))) pss_nil) (pss_cons (ps_if (pt_cmpR op_eq (pv 1) pe_int (nomark _)) (pss_one (ps_ret (pe_tup (pa_cons pe_str pa_nil)))) pss_nil) (pss_cons (ps_if (pt_cmpR op_eq (pv 1) pe_int (nomark _)) (pss_one (ps_ret (pe_tup (pa_cons pe_str (pa_cons (pe_op op_add pe_int (pe_cf GD (hr.mono (by decide)) (by rfl) pass0 (pa_cons (pv 0) (pa_cons pe_int pa_nil)))) pa_nil))))) pss_nil) (pss_one (ps_ret (pe_tup (pa_cons pe_str (pa_cons (pe_cf GP (hr.mono (by decide)) (by rfl) pass0 (pa_cons (pv 0) (pa_cons (pe_lst (pa_cons pe_int (pa_cons pe_int (pa_cons pe_int (pa_cons pe_int (pa_cons pe_int (pa_cons pe_int (pa_cons pe_int (pa_cons (pe_op op_add pe_int (pe_cf GD (hr.mono (by decide)) (by rfl) pass0 (pa_cons (pv 0) (pa_cons pe_int pa_nil)))) pa_nil))))))))) pa_nil))) pa_nil))))))))), ?_⟩
    refine ⟨_, rfl, b, 6, rfl, hb, by decide, by decide, fun way H1 hway hb1 k1 => ?_⟩
    have c1 := Ch.of hb hb1 k1
    refine ⟨_, rfl, rfl, _, rfl, ite2 (fun _ => ?_) (fun _ => ⟨_, rfl, rfl, _, rfl, ite2 (fun _ => ?_) (fun _ => ⟨_, rfl, rfl, _, rfl, ite2 (fun _ => ?_) (fun _ => ?_)⟩)⟩)⟩
    · refine ⟨_, rfl, lnb rfl, fun u hu => ?_⟩
      have c2 := Ch.new (o := .lst [V.int 1, V.int 1, V.int 2, V.int 3, V.int 6, V.int 12, V.int 10, V.int 45]) c1.bag hu
      refine ⟨b, u, _, rfl, c2.bag, upd_same, c1.bag.ne hu, (fun h => by cases h), (show 8 < 2 ^ 29 by decide), fun i x H3 hx hb3 k3 => ?_⟩
      have c3 := Ch.of c2.bag hb3 k3
      obtain ⟨d, rfl, hd⟩ := pick_all (Pp := isN (· ∈ JM.dL)) (all_cons ⟨1, rfl, by decide⟩ (all_cons ⟨1, rfl, by decide⟩ (all_cons ⟨2, rfl, by decide⟩ (all_cons ⟨3, rfl, by decide⟩ (all_cons ⟨6, rfl, by decide⟩ (all_cons ⟨12, rfl, by decide⟩ (all_cons ⟨10, rfl, by decide⟩ (all_cons ⟨45, rfl, by decide⟩ all_nil)))))))) hx
      refine ⟨lnb rfl, fun v hv => ?_⟩
      have c4 := Ch.new (o := .tup [V.str "whole", nt d]) c3.bag hv
      exact q (.whole d) _ _ hd rfl rfl ⟨v, rfl, upd_same⟩ (c1.trans (c2.trans (c3.trans c4)))
    · refine ⟨lnb rfl, fun v hv => ?_⟩
      exact q .frac _ _ trivial rfl rfl ⟨v, rfl, upd_same⟩ (c1.trans (Ch.new c1.bag hv))
    · refine ⟨_, rfl, b, 4, rfl, c1.bag, by decide, by decide, fun n H2 hn hb2 k2 => ?_⟩
      have c2 := Ch.of c1.bag hb2 k2
      have e : (1 : Int) + (n : Int) = ((1 + n : Nat) : Int) := by omega
      refine ⟨_, _, rfl, rfl, ?_⟩
      refine ⟨lnb rfl, fun v hv => ?_⟩
      exact q (.sets (1 + n)) _ _ ⟨by omega, by omega⟩ rfl rfl ⟨v, rfl, upd_same⟩ (c1.trans (c2.trans (Ch.new c2.bag hv)))
    · refine ⟨_, rfl, _, rfl, b, 40, rfl, c1.bag, by decide, by decide, fun n H2 hn hb2 k2 => ?_⟩
      have c2 := Ch.of c1.bag hb2 k2
      have e : (2 : Int) + (n : Int) = ((2 + n : Nat) : Int) := by omega
      refine ⟨_, _, rfl, rfl, ?_⟩
      refine ⟨lnb rfl, fun u hu => ?_⟩
      have c3 := Ch.new (o := .lst [V.int 2, V.int 3, V.int 4, V.int 6, V.int 8, V.int 9, V.int 12, nt (2 + n)]) c2.bag hu
      refine ⟨b, u, _, rfl, c3.bag, upd_same, c2.bag.ne hu, (fun h => by cases h), (show 8 < 2 ^ 29 by decide), fun i x H3 hx hb3 k3 => ?_⟩
      have c4 := Ch.of c3.bag hb3 k3
      obtain ⟨d, rfl, hd⟩ := pick_all (Pp := isN fun d => 2 ≤ d ∧ d ≤ 64) (all_cons ⟨2, rfl, by decide⟩ (all_cons ⟨3, rfl, by decide⟩ (all_cons ⟨4, rfl, by decide⟩ (all_cons ⟨6, rfl, by decide⟩ (all_cons ⟨8, rfl, by decide⟩ (all_cons ⟨9, rfl, by decide⟩ (all_cons ⟨12, rfl, by decide⟩ (all_cons ⟨2 + n, rfl, by omega, by omega⟩ all_nil)))))))) hx
      refine ⟨lnb rfl, fun v hv => ?_⟩
      exact q (.rests d) _ _ hd rfl rfl ⟨v, rfl, upd_same⟩ (c1.trans (c2.trans (c3.trans (c4.trans (Ch.new c4.bag hv)))))
theorem sc_fits : FnScope ["_law_h", "_law_base"] ["_law_h", "_law_base"] dF_law_fits_part.scope := ⟨rfl, rfl, rfl, by decide +kernel, rfl, by decide +kernel, by decide +kernel⟩
def fitB (kd : Bool) (h n : Nat) : Bool := if kd = true then decide (n % h = 0) else decide (Nat.gcd h n = 1)
def kdV (kd : Bool) : V := V.str (if kd = true then ("rests" : Str) else ("whole" : Str))
theorem kd_dec {b : Bool} : decide (kdV b = V.str ("rests" : Str)) = b := by
  cases b with
  | true => rfl
  | false => exact decide_eq_false fun e => by injection e with e; revert e; decide
def spFits : Sp := fun vs H Q _ => ∃ (h : Nat) (p : Addr) (n : Nat) (kd : Bool), vs = [nt h, .ref p] ∧ H p = some (.tup [kdV kd, nt n]) ∧ 0 < h ∧ Q (.bl (fitB kd h n)) H
theorem g_fits (z : Z K mg base) : GF P w K mg base 2 "_law_fits_part" spFits := by
  refine gf_of z.c z.x z.g (c_glo__law_fits_part z.c) (f_F_law_fits_part z.c) (fn_plain (f_F_law_fits_part z.c) sc_fits (fun vs H Q E h => ?_) (fun _ _ _ _ _ _ us hl => match us, hl with | [_, _], _ => rfl) fun cdv A outer s H vs Q E hr h => ?_)
  · obtain ⟨h, p, n, kd, rfl, hp, h0, q⟩ := h; rfl
  · obtain ⟨h, p, n, kd, rfl, hp, h0, q⟩ := h
    have G1 : GF P w K mg base 1 "_law_gcd" spGcd := g_lgcd z
    refine ⟨_, (pss_one (ps_ret (pe_ifExp (pt_cmpR op_eq (pe_ix ix_tup (pv 1) pe_int (fun _ _ => rfl)) pe_str (nomark _)) (pe_cmpR op_eq (pe_op op_mod (pe_callTy call_int1 (by rfl) (z.free (c_free_int z.c)) (by decide +kernel) (pa_cons (pe_ix ix_tup (pv 1) pe_int (fun _ _ => rfl)) pa_nil)) (pv 0)) pe_int (nomark _)) (pe_cmpR op_eq (pe_cf G1 (hr.mono (by decide)) (by rfl) pass0 (pa_cons (pv 0) (pa_cons (pe_ix ix_tup (pv 1) pe_int (fun _ _ => rfl)) pa_nil))) pe_int (nomark _))))), ?_⟩
    refine ⟨_, rfl, p, _, _, _, rfl, rfl, SqT.of hp, atI_nat (j := 0) rfl, rfl, _, rfl, ?_⟩
    rw [kd_dec]
    cases kd with
    | true =>
      refine iteT ⟨_, rfl, p, _, _, _, rfl, rfl, SqT.of hp, atI_nat (j := 1) rfl, .inl ⟨_, rfl, _, rfl, _, _, rfl, rfl, by omega, rfl, ?_⟩⟩
      show Q (.bl (decide (V.int ((n : Int) % (h : Int)) = V.int 0))) H
      rw [emod_nat, dec_zero]
      exact q
    | false =>
      refine iteF ⟨_, rfl, _, rfl, p, _, _, _, rfl, rfl, SqT.of hp, atI_nat (j := 1) rfl, h, n, rfl, rfl, ?_⟩
      show Q (.bl (decide (nt (Nat.gcd h n) = V.int 1))) H
      rw [dec_one]
      exact q
theorem sc_comm : FnScope ["_law_bag_here", "_law_deep", "_law_plain_here", "_law_kind_z"] ["_law_bag_here", "_law_deep"] dF_law_commuting.scope := ⟨rfl, rfl, rfl, by decide +kernel, rfl, by decide +kernel, by decide +kernel⟩
def spComm : Sp := fun vs H Q _ => ∃ (b : Addr) (n : Nat), vs = [.ref b, nt n] ∧ Bag H b ∧ ∀ (r : RS) (v : V) H', JM.wf r → (dep r ≤ 1 ∨ (dep r ≤ 2 ∧ 2 ≤ n)) → (num r).s = 1 → isSpec r H' v → Ch b H H' → Q v H'
theorem g_comm (z : Z K mg base) : GF P w K mg base 4 "_law_commuting" spComm := by
  refine gf_of z.c z.x z.g (c_glo__law_commuting z.c) (f_F_law_commuting z.c) (fn_plain (f_F_law_commuting z.c) sc_comm (fun vs H Q E h => ?_) (fun _ _ _ _ _ _ us hl => match us, hl with | [_, _], _ => rfl) fun cdv A outer s H vs Q E hr h => ?_)
  · obtain ⟨b, n, rfl, hb, q⟩ := h; rfl
  · obtain ⟨b, n, rfl, hb, q⟩ := h
    have GD : GF P w K mg base 1 "_law_draw" spDraw := g_draw z
    have GP : GF P w K mg base 2 "_law_pick" spPick := g_pick z
    have GL : GF P w K mg base 3 "_law_plain" spPlain := g_plain z
    refine ⟨_, (pss_cons (ps_set (i := 2) sc_comm.nd rfl (.inl rfl) (pe_cf GL (hr.mono (by decide)) (by rfl) pass0 (pa_cons (pv 0) pa_nil))) (pss_cons (ps_if (pw_or (pt_cmpR op_lt (pv 1) pe_int (nomark _)) (pw_or1 (pt_cmpR op_eq (pe_cf GD (hr.mono (by decide)) (by rfl) pass0 (pa_cons (pv 0) (pa_cons pe_int pa_nil))) pe_int (nomark _)))).pt (pss_one (ps_ret (pv 2))) pss_nil) (pss_cons (ps_set (i := 3) sc_comm.nd rfl (.inl rfl) (pe_cf GP (hr.mono (by decide)) (by rfl) pass0 (pa_cons (pv 0) (pa_cons (pe_lst (pa_cons pe_str (pa_cons pe_str (pa_cons pe_str (pa_cons pe_str pa_nil))))) pa_nil)))) (pss_cons (ps_if (pt_cmpR op_eq (pv 3) pe_str (nomark _)) (pss_one (ps_ret (pe_tup (pa_cons (pv 3) (pa_cons (pv 2) (pa_cons (pe_cf GL (hr.mono (by decide)) (by rfl) pass0 (pa_cons (pv 0) pa_nil)) pa_nil)))))) pss_nil) (pss_one (ps_ret (pe_ifExp (pt_cmpR op_eq (pv 3) pe_str (nomark _)) (pe_tup (pa_cons (pv 3) (pa_cons (pe_op op_sub (pe_cf GD (hr.mono (by decide)) (by rfl) pass0 (pa_cons (pv 0) (pa_cons pe_int pa_nil))) pe_int) (pa_cons (pv 2) pa_nil)))) (pe_tup (pa_cons (pv 3) (pa_cons (pv 2) pa_nil)))))))))), ?_⟩
    refine ⟨_, rfl, b, rfl, hb, fun r v H1 w1 d1 s1 sp1 c1 => ?_⟩
    refine ⟨_, rfl, _, _, rfl, rfl, _, rfl, ite2 (fun _ => iteT ⟨_, rfl, q r v H1 w1 (.inl (Nat.le_of_eq d1)) s1 sp1 c1⟩) (fun hn => ?_)⟩
    have hn2 : 2 ≤ n := by
      rcases Nat.lt_or_ge n 2 with h | h
      · exact absurd (decide_eq_true (show (n : Int) < 2 by omega)) hn
      · exact h
    refine ⟨_, rfl, b, 2, rfl, c1.bag, by decide, by decide, fun x H2 hx hb2 k2 => ?_⟩
    have c2 := Ch.of c1.bag hb2 k2
    refine ⟨rfl, _, rfl, ite2 (fun _ => ⟨_, rfl, q r v H2 w1 (.inl (Nat.le_of_eq d1)) s1 (sp1.keepT c2.t) (c1.trans c2)⟩) (fun _ => ?_)⟩
    refine ⟨_, rfl, lnb rfl, fun u hu => ?_⟩
    have c3 := Ch.new (o := .lst [V.str "polynomials", V.str "duals", V.str "roots", V.str "pairs"]) c2.bag hu
    refine ⟨b, u, _, rfl, c3.bag, upd_same, c2.bag.ne hu, (fun h => by cases h), (show 4 < 2 ^ 29 by decide), fun i x H3 hx hb3 k3 => ?_⟩
    have c4 := Ch.of c3.bag hb3 k3
    have C4 := c1.trans (c2.trans (c3.trans c4))
    have sp4 := sp1.keepT (c2.trans (c3.trans c4)).t
    have hk : x = V.str "polynomials" ∨ x = V.str "duals" ∨ x = V.str "roots" ∨ x = V.str "pairs" := pick_all (Pp := fun x => x = V.str "polynomials" ∨ x = V.str "duals" ∨ x = V.str "roots" ∨ x = V.str "pairs") (all_cons (.inl rfl) (all_cons (.inr (.inl rfl)) (all_cons (.inr (.inr (.inl rfl))) (all_cons (.inr (.inr (.inr rfl))) all_nil)))) hx
    rcases hk with rfl | rfl | rfl | rfl
    · refine ⟨_, rfl, rfl, _, rfl, iteBF (by decide +kernel) ⟨_, rfl, rfl, _, rfl, iteBF (by decide +kernel) ⟨_, rfl, _, rfl, lnb rfl, fun y hy => ?_⟩⟩⟩
      have c5 := Ch.new (o := .tup [V.str "polynomials", v]) c4.bag hy
      exact q (.poly r) _ _ w1 (.inr ⟨by show 1 + dep r ≤ 2; omega, hn2⟩) s1 ⟨y, v, rfl, upd_same, sp4.keepT c5.t⟩ (C4.trans c5)
    · refine ⟨_, rfl, rfl, _, rfl, iteBF (by decide +kernel) ⟨_, rfl, rfl, _, rfl, iteBF (by decide +kernel) ⟨_, rfl, _, rfl, lnb rfl, fun y hy => ?_⟩⟩⟩
      have c5 := Ch.new (o := .tup [V.str "duals", v]) c4.bag hy
      exact q (.dual r) _ _ w1 (.inr ⟨by show 1 + dep r ≤ 2; omega, hn2⟩) s1 ⟨y, v, rfl, upd_same, sp4.keepT c5.t⟩ (C4.trans c5)
    · refine ⟨_, rfl, rfl, _, rfl, iteBF (by decide +kernel) ⟨_, rfl, rfl, _, rfl, iteBT (by decide +kernel) ⟨_, rfl, _, rfl, b, 9, rfl, c4.bag, by decide, by decide, fun m H5 hm hb5 k5 => ?_⟩⟩⟩
      have c5 := Ch.of c4.bag hb5 k5
      refine ⟨_, _, rfl, rfl, _, rfl, lnb rfl, fun y hy => ?_⟩
      have c6 := Ch.new (o := .tup [V.str "roots", V.int ((m : Int) - 4), v]) c5.bag hy
      exact q (.root ((m : Int) - 4) r) _ _ ⟨⟨by omega, by omega⟩, w1⟩ (.inr ⟨by show 1 + dep r ≤ 2; omega, hn2⟩) s1 ⟨y, v, rfl, upd_same, sp4.keepT (c5.trans c6).t⟩ (C4.trans (c5.trans c6))
    · refine ⟨_, rfl, rfl, _, rfl, iteBT (by decide +kernel) ⟨_, rfl, _, rfl, _, rfl, b, rfl, c4.bag, fun r' v' H5 w2 d2 s2 sp2 c5 => ⟨lnb rfl, fun y hy => ?_⟩⟩⟩
      have c6 := Ch.new (o := .tup [V.str "pairs", v, v']) c5.bag hy
      refine q (.pairs r r') _ _ ⟨w1, w2⟩ (.inr ⟨by show 1 + max (dep r) (dep r') ≤ 2; omega, hn2⟩) ?_ ⟨y, v, v', rfl, upd_same, sp4.keepT (c5.trans c6).t, sp2.keepT c6.t⟩ (C4.trans (c5.trans c6))
      show Nat.lcm (num r).s (num r').s = 1
      rw [s1, s2]
      rfl
end
end J

/-! the law's any (printed by genG7.py) -/
namespace J
open PySem PySem.Spec PyProof.Rows L2
open JM (RS num dep N4)
section
variable {P : Program} {w : World} {K : PySem.W.Frag} {mg : Str → Option Value} {base : Heap}
def spAny (n : Nat) : Sp := fun vs H Q _ => ∃ b : Addr, vs = [.ref b, nt n] ∧ Bag H b ∧ ∀ (r : RS) (v : V) H', JM.wf r → dep r ≤ max 1 n → isSpec r H' v → Ch b H H' → Q v H'
theorem sc_any : FnScope ["_law_bag_here", "_law_deep", "_law_kind_z", "_law_base", "_law_h"] ["_law_bag_here", "_law_deep"] dF_law_any.scope := ⟨rfl, rfl, rfl, by decide +kernel, rfl, by decide +kernel, by decide +kernel⟩
theorem g_any0 (z : Z K mg base) (n : Nat) (hn : n < 2) : GF P w K mg base (n + 5) "_law_any" (spAny n) := by
    refine gf_of z.c z.x z.g (c_glo__law_any z.c) (f_F_law_any z.c) (fn_plain (k := n + 4) (f_F_law_any z.c) sc_any (fun vs H Q E h => ?_) (fun _ _ _ _ _ _ us hl => match us, hl with | [_, _], _ => rfl) fun cdv A outer s H vs Q E hr h => ?_)
    · obtain ⟨b, rfl, _⟩ := h; rfl
    obtain ⟨b, rfl, hb, q⟩ := h
    have GD : GF P w K mg base 1 "_law_draw" spDraw := g_draw z
    have GP : GF P w K mg base 2 "_law_pick" spPick := g_pick z
    have GL : GF P w K mg base 3 "_law_plain" spPlain := g_plain z
    have GC : GF P w K mg base 4 "_law_commuting" spComm := g_comm z
    have GFI : GF P w K mg base 2 "_law_fits_part" spFits := g_fits z
    replace hr := hr.mono (j := 4) (Nat.le_add_left _ _)
    refine ⟨_, pss_cons (ps_if (pw_or (pt_cmpR op_lt (pv 1) pe_int (nomark _)) (pw_or1 (pt_cmpR op_eq (pe_cf GD (hr.mono (by decide)) (by rfl) pass0 (pa_cons (pv 0) (pa_cons pe_int pa_nil))) pe_int (nomark _)))).pt (pss_one (ps_ret (pe_cf GL (hr.mono (by decide)) (by rfl) pass0 (pa_cons (pv 0) pa_nil)))) pss_nil) pss_never, ?_⟩
    refine ⟨_, rfl, _, _, rfl, rfl, _, rfl, iteDT (by omega) (iteT ⟨_, rfl, b, rfl, hb, fun r v H1 w1 d1 s1 sp1 c1 => q r v H1 w1 (by omega) sp1 c1⟩)⟩
theorem g_any (z : Z K mg base) : ∀ n, GF P w K mg base (n + 5) "_law_any" (spAny n)
  | 0 => g_any0 z 0 (by decide)
  | 1 => g_any0 z 1 (by decide)
  | n + 2 => by
    have GA : GF P w K mg base (n + 1 + 5) "_law_any" (spAny (n + 1)) := g_any z (n + 1)
    refine gf_of z.c z.x z.g (c_glo__law_any z.c) (f_F_law_any z.c) (fn_plain (k := n + 1 + 5) (f_F_law_any z.c) sc_any (fun vs H Q E h => ?_) (fun _ _ _ _ _ _ us hl => match us, hl with | [_, _], _ => rfl) fun cdv A outer s H vs Q E hrA h => ?_)
    · obtain ⟨b, rfl, _⟩ := h; rfl
    obtain ⟨b, rfl, hb, q⟩ := h
    have GD : GF P w K mg base 1 "_law_draw" spDraw := g_draw z
    have GP : GF P w K mg base 2 "_law_pick" spPick := g_pick z
    have GL : GF P w K mg base 3 "_law_plain" spPlain := g_plain z
    have GC : GF P w K mg base 4 "_law_commuting" spComm := g_comm z
    have GFI : GF P w K mg base 2 "_law_fits_part" spFits := g_fits z
    have hr := hrA.mono (j := 4) (by omega)
    have eDM : [V.ref b, V.int (((n + 2 : Nat) : Int) - 1)] = [V.ref b, nt (n + 1)] := by
      have e : ((n + 2 : Nat) : Int) - 1 = ((n + 1 : Nat) : Int) := by omega
      rw [e]
    refine ⟨_, pss_cons (ps_if (pw_or (pt_cmpR op_lt (pv 1) pe_int (nomark _)) (pw_or1 (pt_cmpR op_eq (pe_cf GD (hr.mono (by decide)) (by rfl) pass0 (pa_cons (pv 0) (pa_cons pe_int pa_nil))) pe_int (nomark _)))).pt (pss_one (ps_ret (pe_cf GL (hr.mono (by decide)) (by rfl) pass0 (pa_cons (pv 0) pa_nil)))) pss_nil) (pss_cons (ps_set (i := 2) sc_any.nd rfl (.inl rfl) (pe_cf GP (hr.mono (by decide)) (by rfl) pass0 (pa_cons (pv 0) (pa_cons (pe_lst (pa_cons pe_str (pa_cons pe_str (pa_cons pe_str (pa_cons pe_str (pa_cons pe_str (pa_cons pe_str (pa_cons pe_str (pa_cons pe_str (pa_cons pe_str (pa_cons pe_str pa_nil))))))))))) pa_nil)))) (pss_cons (ps_if (pt_cmpR op_eq (pv 2) pe_str (nomark _)) (pss_cons (ps_set (i := 3) sc_any.nd rfl (.inr rfl) (pe_cf GP (hr.mono (by decide)) (by rfl) pass0 (pa_cons (pv 0) (pa_cons (pe_lst (pa_cons (pe_tup (pa_cons pe_str (pa_cons (pe_cf GP (hr.mono (by decide)) (by rfl) pass0 (pa_cons (pv 0) (pa_cons (pe_lst (pa_cons pe_int (pa_cons pe_int (pa_cons pe_int (pa_cons pe_int (pa_cons pe_int pa_nil)))))) pa_nil))) pa_nil))) (pa_cons (pe_tup (pa_cons pe_str (pa_cons (pe_cf GP (hr.mono (by decide)) (by rfl) pass0 (pa_cons (pv 0) (pa_cons (pe_lst (pa_cons pe_int (pa_cons pe_int (pa_cons pe_int pa_nil)))) pa_nil))) pa_nil))) pa_nil))) pa_nil)))) (pss_one (ps_ret (pe_tup (pa_cons (pv 2) (pa_cons (pe_cf GP (hr.mono (by decide)) (by rfl) pass0 (pa_cons (pv 0) (pa_cons (pe_lc (own := [("_law_h", 4)]) (g := gName 4) (tt := tB (tCR spFits (tCons (tVar 4) (tCons (tVar 3) tNil)))) (te := tVar 4) rfl sc_any.nd (pi_range2 (by rfl) (z.free (c_free_range z.c)) (pa_cons pe_int (pa_cons pe_int pa_nil))) (blkOk_by (by kernel_rfl)) (fun _ _ _ _ _ => pg_name sc_any.nd rfl (.inl rfl)) (fun _ _ _ _ _ => pts_one (pt_val (pe_cf GFI (hr.mono (by decide)) (by rfl) pass0 (pa_cons (pv 4) (pa_cons (pv 3) pa_nil))))) (fun _ _ _ _ _ => pv 4)) pa_nil))) (pa_cons (pv 3) pa_nil))))))) pss_nil) (pss_cons (ps_if (pt_cmpR op_eq (pv 2) pe_str (nomark _)) (pss_one (ps_ret (pe_tup (pa_cons (pv 2) (pa_cons (pe_cf GC (hr.mono (by decide)) (by rfl) pass0 (pa_cons (pv 0) (pa_cons (pe_op op_sub (pv 1) pe_int) pa_nil))) pa_nil))))) pss_nil) (pss_cons (ps_set (i := 3) sc_any.nd rfl (.inr rfl) (pe_cf GA hrA (by rfl) pass0 (pa_cons (pv 0) (pa_cons (pe_op op_sub (pv 1) pe_int) pa_nil)))) (pss_cons (ps_if (pt_cmpR op_eq (pv 2) pe_str (nomark _)) (pss_one (ps_ret (pe_tup (pa_cons (pv 2) (pa_cons (pv 3) (pa_cons (pe_cf GA hrA (by rfl) pass0 (pa_cons (pv 0) (pa_cons (pe_op op_sub (pv 1) pe_int) pa_nil))) pa_nil)))))) pss_nil) (pss_cons (ps_if (pt_cmpR op_in_seq (pv 2) (pe_lst (pa_cons pe_str (pa_cons pe_str (pa_cons pe_str pa_nil)))) rfl) (pss_one (ps_ret (pe_tup (pa_cons (pv 2) (pa_cons (pe_ifExp (pt_cmpR op_eq (pv 2) pe_str (nomark _)) pe_int (pe_ifExp (pt_cmpR op_eq (pv 2) pe_str (nomark _)) (pe_op op_add pe_int (pe_cf GD (hr.mono (by decide)) (by rfl) pass0 (pa_cons (pv 0) (pa_cons pe_int pa_nil)))) (pe_op op_sub (pe_cf GD (hr.mono (by decide)) (by rfl) pass0 (pa_cons (pv 0) (pa_cons pe_int pa_nil))) pe_int))) (pa_cons (pv 3) pa_nil)))))) pss_nil) (pss_one (ps_ret (pe_tup (pa_cons (pv 2) (pa_cons (pv 3) pa_nil))))))))))), ?_⟩
    refine ⟨_, rfl, _, _, rfl, rfl, _, rfl, iteDF (by omega) ⟨_, rfl, b, 4, rfl, hb, by decide, by decide, fun m H1 hm hb1 k1 => ?_⟩⟩
    have c1 := Ch.of hb hb1 k1
    refine ⟨rfl, _, rfl, ite2 (fun _ => ⟨_, rfl, b, rfl, c1.bag, fun r v H2 w1 d1 s1 sp1 c2 => q r v H2 w1 (by omega) sp1 (c1.trans c2)⟩) (fun _ => ?_)⟩
    refine ⟨_, rfl, lnb rfl, fun u hu => ?_⟩
    have c3 := Ch.new (o := .lst [V.str "matrices", V.str "triangles", V.str "polynomials", V.str "duals", V.str "roots", V.str "words", V.str "pairs", V.str "quaternions", V.str "swapped", V.str "twists"]) c1.bag hu
    refine ⟨b, u, _, rfl, c3.bag, upd_same, c1.bag.ne hu, (fun h => by cases h), (show 10 < 2 ^ 29 by decide), fun i x H4 hx hb4 k4 => ?_⟩
    have c4 := Ch.of c3.bag hb4 k4
    have C4 := c1.trans (c3.trans c4)
    have hk : x = V.str "matrices" ∨ x = V.str "triangles" ∨ x = V.str "polynomials" ∨ x = V.str "duals" ∨ x = V.str "roots" ∨ x = V.str "words" ∨ x = V.str "pairs" ∨ x = V.str "quaternions" ∨ x = V.str "swapped" ∨ x = V.str "twists" := pick_all (Pp := fun x => x = V.str "matrices" ∨ x = V.str "triangles" ∨ x = V.str "polynomials" ∨ x = V.str "duals" ∨ x = V.str "roots" ∨ x = V.str "words" ∨ x = V.str "pairs" ∨ x = V.str "quaternions" ∨ x = V.str "swapped" ∨ x = V.str "twists") (all_cons (.inl rfl) (all_cons (.inr (.inl rfl)) (all_cons (.inr (.inr (.inl rfl))) (all_cons (.inr (.inr (.inr (.inl rfl)))) (all_cons (.inr (.inr (.inr (.inr (.inl rfl))))) (all_cons (.inr (.inr (.inr (.inr (.inr (.inl rfl)))))) (all_cons (.inr (.inr (.inr (.inr (.inr (.inr (.inl rfl))))))) (all_cons (.inr (.inr (.inr (.inr (.inr (.inr (.inr (.inl rfl)))))))) (all_cons (.inr (.inr (.inr (.inr (.inr (.inr (.inr (.inr (.inl rfl))))))))) (all_cons (.inr (.inr (.inr (.inr (.inr (.inr (.inr (.inr (.inr rfl))))))))) all_nil)))))))))) hx
    rcases hk with rfl | rfl | rfl | rfl | rfl | rfl | rfl | rfl | rfl | rfl
    · refine ⟨_, rfl, rfl, _, rfl, iteBF (by decide +kernel) ?_⟩
      refine ⟨_, rfl, rfl, _, rfl, iteBF (by decide +kernel) ?_⟩
      refine ⟨_, rfl, _, rfl, _, _, rfl, rfl, b, eDM, c4.bag, fun r x H5 w1 d1 sp1 c5 => ?_⟩
      refine ⟨_, rfl, rfl, _, rfl, iteBF (by decide +kernel) ?_⟩
      refine ⟨_, rfl, lnb rfl, fun u2 hu2 => ?_⟩
      have c6 := Ch.new (o := .lst [V.str "matrices", V.str "words", V.str "roots"]) c5.bag hu2
      refine ⟨u2, _, rfl, .inl (SqL.of upd_same), rfl, rfl, _, rfl, iteBT (by decide +kernel) ?_⟩
      refine ⟨_, rfl, _, rfl, rfl, _, rfl, iteBT (by decide +kernel) ⟨_, rfl, lnb rfl, fun y hy => ?_⟩⟩
      have c7 := Ch.new (o := .tup [V.str "matrices", nt 2, x]) c6.bag hy
      exact q (.mats r) _ _ w1 (by show 1 + dep r ≤ max 1 (n + 2); omega) ⟨y, x, rfl, upd_same, sp1.keepT (c6.trans c7).t⟩ (C4.trans (c5.trans (c6.trans c7)))
    · refine ⟨_, rfl, rfl, _, rfl, iteBF (by decide +kernel) ?_⟩
      refine ⟨_, rfl, rfl, _, rfl, iteBF (by decide +kernel) ?_⟩
      refine ⟨_, rfl, _, rfl, _, _, rfl, rfl, b, eDM, c4.bag, fun r x H5 w1 d1 sp1 c5 => ?_⟩
      refine ⟨_, rfl, rfl, _, rfl, iteBF (by decide +kernel) ?_⟩
      refine ⟨_, rfl, lnb rfl, fun u2 hu2 => ?_⟩
      have c6 := Ch.new (o := .lst [V.str "matrices", V.str "words", V.str "roots"]) c5.bag hu2
      refine ⟨u2, _, rfl, .inl (SqL.of upd_same), rfl, rfl, _, rfl, iteBF (by decide +kernel) ?_⟩
      refine ⟨_, rfl, _, rfl, lnb rfl, fun y hy => ?_⟩
      have c7 := Ch.new (o := .tup [V.str "triangles", x]) c6.bag hy
      exact q (.tri r) _ _ w1 (by show 1 + dep r ≤ max 1 (n + 2); omega) ⟨y, x, rfl, upd_same, sp1.keepT (c6.trans c7).t⟩ (C4.trans (c5.trans (c6.trans c7)))
    · refine ⟨_, rfl, rfl, _, rfl, iteBF (by decide +kernel) ?_⟩
      refine ⟨_, rfl, rfl, _, rfl, iteBF (by decide +kernel) ?_⟩
      refine ⟨_, rfl, _, rfl, _, _, rfl, rfl, b, eDM, c4.bag, fun r x H5 w1 d1 sp1 c5 => ?_⟩
      refine ⟨_, rfl, rfl, _, rfl, iteBF (by decide +kernel) ?_⟩
      refine ⟨_, rfl, lnb rfl, fun u2 hu2 => ?_⟩
      have c6 := Ch.new (o := .lst [V.str "matrices", V.str "words", V.str "roots"]) c5.bag hu2
      refine ⟨u2, _, rfl, .inl (SqL.of upd_same), rfl, rfl, _, rfl, iteBF (by decide +kernel) ?_⟩
      refine ⟨_, rfl, _, rfl, lnb rfl, fun y hy => ?_⟩
      have c7 := Ch.new (o := .tup [V.str "polynomials", x]) c6.bag hy
      exact q (.poly r) _ _ w1 (by show 1 + dep r ≤ max 1 (n + 2); omega) ⟨y, x, rfl, upd_same, sp1.keepT (c6.trans c7).t⟩ (C4.trans (c5.trans (c6.trans c7)))
    · refine ⟨_, rfl, rfl, _, rfl, iteBF (by decide +kernel) ?_⟩
      refine ⟨_, rfl, rfl, _, rfl, iteBF (by decide +kernel) ?_⟩
      refine ⟨_, rfl, _, rfl, _, _, rfl, rfl, b, eDM, c4.bag, fun r x H5 w1 d1 sp1 c5 => ?_⟩
      refine ⟨_, rfl, rfl, _, rfl, iteBF (by decide +kernel) ?_⟩
      refine ⟨_, rfl, lnb rfl, fun u2 hu2 => ?_⟩
      have c6 := Ch.new (o := .lst [V.str "matrices", V.str "words", V.str "roots"]) c5.bag hu2
      refine ⟨u2, _, rfl, .inl (SqL.of upd_same), rfl, rfl, _, rfl, iteBF (by decide +kernel) ?_⟩
      refine ⟨_, rfl, _, rfl, lnb rfl, fun y hy => ?_⟩
      have c7 := Ch.new (o := .tup [V.str "duals", x]) c6.bag hy
      exact q (.dual r) _ _ w1 (by show 1 + dep r ≤ max 1 (n + 2); omega) ⟨y, x, rfl, upd_same, sp1.keepT (c6.trans c7).t⟩ (C4.trans (c5.trans (c6.trans c7)))
    · refine ⟨_, rfl, rfl, _, rfl, iteBF (by decide +kernel) ?_⟩
      refine ⟨_, rfl, rfl, _, rfl, iteBF (by decide +kernel) ?_⟩
      refine ⟨_, rfl, _, rfl, _, _, rfl, rfl, b, eDM, c4.bag, fun r x H5 w1 d1 sp1 c5 => ?_⟩
      refine ⟨_, rfl, rfl, _, rfl, iteBF (by decide +kernel) ?_⟩
      refine ⟨_, rfl, lnb rfl, fun u2 hu2 => ?_⟩
      have c6 := Ch.new (o := .lst [V.str "matrices", V.str "words", V.str "roots"]) c5.bag hu2
      refine ⟨u2, _, rfl, .inl (SqL.of upd_same), rfl, rfl, _, rfl, iteBT (by decide +kernel) ?_⟩
      refine ⟨_, rfl, _, rfl, rfl, _, rfl, iteBF (by decide +kernel) ⟨_, rfl, rfl, _, rfl, iteBF (by decide +kernel) ⟨_, rfl, b, 9, rfl, c6.bag, by decide, by decide, fun m H6 hm hb6 k6 => ?_⟩⟩⟩
      have c7 := Ch.of c6.bag hb6 k6
      refine ⟨_, _, rfl, rfl, _, rfl, lnb rfl, fun y hy => ?_⟩
      have c8 := Ch.new (o := .tup [V.str "roots", V.int ((m : Int) - 4), x]) c7.bag hy
      exact q (.root ((m : Int) - 4) r) _ _ ⟨⟨by omega, by omega⟩, w1⟩ (by show 1 + dep r ≤ max 1 (n + 2); omega) ⟨y, x, rfl, upd_same, sp1.keepT (c6.trans (c7.trans c8)).t⟩ (C4.trans (c5.trans (c6.trans (c7.trans c8))))
    · refine ⟨_, rfl, rfl, _, rfl, iteBF (by decide +kernel) ?_⟩
      refine ⟨_, rfl, rfl, _, rfl, iteBF (by decide +kernel) ?_⟩
      refine ⟨_, rfl, _, rfl, _, _, rfl, rfl, b, eDM, c4.bag, fun r x H5 w1 d1 sp1 c5 => ?_⟩
      refine ⟨_, rfl, rfl, _, rfl, iteBF (by decide +kernel) ?_⟩
      refine ⟨_, rfl, lnb rfl, fun u2 hu2 => ?_⟩
      have c6 := Ch.new (o := .lst [V.str "matrices", V.str "words", V.str "roots"]) c5.bag hu2
      refine ⟨u2, _, rfl, .inl (SqL.of upd_same), rfl, rfl, _, rfl, iteBT (by decide +kernel) ?_⟩
      refine ⟨_, rfl, _, rfl, rfl, _, rfl, iteBF (by decide +kernel) ⟨_, rfl, rfl, _, rfl, iteBT (by decide +kernel) ⟨_, rfl, b, 3, rfl, c6.bag, by decide, by decide, fun m H6 hm hb6 k6 => ?_⟩⟩⟩
      have c7 := Ch.of c6.bag hb6 k6
      refine ⟨_, _, rfl, rfl, _, rfl, lnb rfl, fun y hy => ?_⟩
      have c8 := Ch.new (o := .tup [V.str "words", nt (1 + m), x]) c7.bag hy
      exact q (.words (1 + m) r) _ _ ⟨⟨by omega, by omega⟩, w1⟩ (by show 1 + dep r ≤ max 1 (n + 2); omega) ⟨y, x, rfl, upd_same, sp1.keepT (c6.trans (c7.trans c8)).t⟩ (C4.trans (c5.trans (c6.trans (c7.trans c8))))
    · refine ⟨_, rfl, rfl, _, rfl, iteBF (by decide +kernel) ?_⟩
      refine ⟨_, rfl, rfl, _, rfl, iteBF (by decide +kernel) ?_⟩
      refine ⟨_, rfl, _, rfl, _, _, rfl, rfl, b, eDM, c4.bag, fun r x H5 w1 d1 sp1 c5 => ?_⟩
      refine ⟨_, rfl, rfl, _, rfl, iteBT (by decide +kernel) ?_⟩
      refine ⟨_, rfl, _, rfl, _, rfl, _, rfl, _, _, rfl, rfl, b, eDM, c5.bag, fun r' x' H6 w2 d2 sp2 c6 => ⟨lnb rfl, fun y hy => ?_⟩⟩
      have c7 := Ch.new (o := .tup [V.str "pairs", x, x']) c6.bag hy
      exact q (.pairs r r') _ _ ⟨w1, w2⟩ (by show 1 + max (dep r) (dep r') ≤ max 1 (n + 2); omega) ⟨y, x, x', rfl, upd_same, sp1.keepT (c6.trans c7).t, sp2.keepT c7.t⟩ (C4.trans (c5.trans (c6.trans c7)))
    · refine ⟨_, rfl, rfl, _, rfl, iteBF (by decide +kernel) ?_⟩
      refine ⟨_, rfl, rfl, _, rfl, iteBT (by decide +kernel) ?_⟩
      refine ⟨_, rfl, _, rfl, _, rfl, _, _, rfl, rfl, b, n + 1, eDM, c4.bag, fun r x H5 w1 d1 s1 sp1 c5 => ⟨lnb rfl, fun y hy => ?_⟩⟩
      have c6 := Ch.new (o := .tup [V.str "quaternions", x]) c5.bag hy
      exact q (.quat r) _ _ ⟨s1, w1⟩ (by show 1 + dep r ≤ max 1 (n + 2); omega) ⟨y, x, rfl, upd_same, sp1.keepT c6.t⟩ (C4.trans (c5.trans c6))
    · refine ⟨_, rfl, rfl, _, rfl, iteBF (by decide +kernel) ?_⟩
      refine ⟨_, rfl, rfl, _, rfl, iteBF (by decide +kernel) ?_⟩
      refine ⟨_, rfl, _, rfl, _, _, rfl, rfl, b, eDM, c4.bag, fun r x H5 w1 d1 sp1 c5 => ?_⟩
      refine ⟨_, rfl, rfl, _, rfl, iteBF (by decide +kernel) ?_⟩
      refine ⟨_, rfl, lnb rfl, fun u2 hu2 => ?_⟩
      have c6 := Ch.new (o := .lst [V.str "matrices", V.str "words", V.str "roots"]) c5.bag hu2
      refine ⟨u2, _, rfl, .inl (SqL.of upd_same), rfl, rfl, _, rfl, iteBF (by decide +kernel) ?_⟩
      refine ⟨_, rfl, _, rfl, lnb rfl, fun y hy => ?_⟩
      have c7 := Ch.new (o := .tup [V.str "swapped", x]) c6.bag hy
      exact q (.swp r) _ _ w1 (by show 1 + dep r ≤ max 1 (n + 2); omega) ⟨y, x, rfl, upd_same, sp1.keepT (c6.trans c7).t⟩ (C4.trans (c5.trans (c6.trans c7)))
    · refine ⟨_, rfl, rfl, _, rfl, iteBT (by decide +kernel) ?_⟩
      refine ⟨_, rfl, _, rfl, lnb rfl, fun u5 hu5 => ?_⟩
      have c5 := Ch.new (o := .lst [V.int 2, V.int 4, V.int 6, V.int 9, V.int 12]) c4.bag hu5
      refine ⟨b, u5, _, rfl, c5.bag, upd_same, c4.bag.ne hu5, (fun h => by cases h), (show 5 < 2 ^ 29 by decide), fun i6 x6 H6 hx6 hb6 k6 => ?_⟩
      have c6 := Ch.of c5.bag hb6 k6
      obtain ⟨a, rfl, ha⟩ := pick_all (Pp := isN fun d => 2 ≤ d ∧ d ≤ 64) (all_cons ⟨2, rfl, by decide⟩ (all_cons ⟨4, rfl, by decide⟩ (all_cons ⟨6, rfl, by decide⟩ (all_cons ⟨9, rfl, by decide⟩ (all_cons ⟨12, rfl, by decide⟩ all_nil))))) hx6
      refine ⟨lnb rfl, fun p1 hp1 => ?_⟩
      have c7 := Ch.new (o := .tup [V.str "rests", nt a]) c6.bag hp1
      refine ⟨_, rfl, lnb rfl, fun u8 hu8 => ?_⟩
      have c8 := Ch.new (o := .lst [V.int 1, V.int 2, V.int 6]) c7.bag hu8
      refine ⟨b, u8, _, rfl, c8.bag, upd_same, c7.bag.ne hu8, (fun h => by cases h), (show 3 < 2 ^ 29 by decide), fun i9 x9 H9 hx9 hb9 k9 => ?_⟩
      have c9 := Ch.of c8.bag hb9 k9
      obtain ⟨d, rfl, hd⟩ := pick_all (Pp := isN fun d => d ∈ JM.dL ∧ JM.radV d = d) (all_cons ⟨1, rfl, by decide⟩ (all_cons ⟨2, rfl, by decide⟩ (all_cons ⟨6, rfl, by decide⟩ all_nil))) hx9
      refine ⟨lnb rfl, fun p2 hp2 => ?_⟩
      have c10 := Ch.new (o := .tup [V.str "whole", nt d]) c9.bag hp2
      refine ⟨lnb rfl, fun u11 hu11 => ?_⟩
      have c11 := Ch.new (o := .lst [V.ref p1, V.ref p2]) c10.bag hu11
      refine ⟨b, u11, _, rfl, c11.bag, upd_same, c10.bag.ne hu11, (fun h => by cases h), (show 2 < 2 ^ 29 by decide), fun i12 x12 H12 hx12 hb12 k12 => ?_⟩
      have c12 := Ch.of c11.bag hb12 k12
      have e1 : H12 p1 = some (.tup [V.str "rests", nt a]) := (c8.trans (c9.trans (c10.trans (c11.trans c12)))).t _ _ (fun _ z => by cases z) upd_same
      have e2 : H12 p2 = some (.tup [V.str "whole", nt d]) := (c11.trans c12).t _ _ (fun _ z => by cases z) upd_same
      have C12 := C4.trans (c5.trans (c6.trans (c7.trans (c8.trans (c9.trans (c10.trans (c11.trans c12)))))))
      obtain ⟨p, m, kd, rfl, hp, hm⟩ : ∃ (p : Addr) (m : Nat) (kd : Bool), x12 = .ref p ∧ H12 p = some (.tup [kdV kd, nt m]) ∧ ((kd = true ∧ 2 ≤ m ∧ m ≤ 64) ∨ (kd = false ∧ m ∈ JM.dL ∧ JM.radV m = m)) :=
        pick_all (Pp := fun x => ∃ (p : Addr) (m : Nat) (kd : Bool), x = .ref p ∧ H12 p = some (.tup [kdV kd, nt m]) ∧ ((kd = true ∧ 2 ≤ m ∧ m ≤ 64) ∨ (kd = false ∧ m ∈ JM.dL ∧ JM.radV m = m))) (all_cons ⟨p1, a, true, rfl, e1, .inl ⟨rfl, ha⟩⟩ (all_cons ⟨p2, d, false, rfl, e2, .inr ⟨rfl, hd⟩⟩ all_nil)) hx12
      refine ⟨_, rfl, _, rfl, 1, 14, rfl, ⟨by decide, by decide, by decide, by decide⟩, fun D hD => ?_⟩
      refine lc_range (n := 13) (fun i H' => Same H12 H' ∧ ∃ hs : List Nat, H' D = some (.lst (hs.map ntV)) ∧ (∀ h ∈ hs, 1 ≤ h ∧ h ≤ 13 ∧ fitB kd h m = true) ∧ (0 < i → hs ≠ []) ∧ hs.length ≤ i) ⟨same_new hD, [], upd_same, (fun h m => nomatch m), (fun h => absurd h (Nat.lt_irrefl 0)), Nat.le_refl 0⟩ ?_ ?_
      · rintro i H' hi ⟨kk, hs, hd', hall, hne, hlen⟩
        have ei : (1 : Int) + (i : Int) = ((1 + i : Nat) : Int) := by omega
        rw [ei]
        refine ⟨rfl, _, rfl, _, rfl, 1 + i, p, m, kd, rfl, kk _ _ hp, by omega, _, rfl, ?_⟩
        have hz : (hs.map ntV).length < sizeLine := by
          rw [List.length_map]
          have := le_line (n := 1000) (by decide)
          omega
        cases hf : fitB kd (1 + i) m with
        | true =>
          refine iteT ⟨_, rfl, _, hd', hz, ?_, hs ++ [1 + i], ?_, ?_, ?_, ?_⟩
          · intro b' o' e
            have : b' ≠ D := fun z => by rw [z, hD] at e; cases e
            rw [upd_ne this]
            exact kk _ _ e
          · rw [upd_same, List.map_append]
            rfl
          · intro h hh
            rcases List.mem_append.mp hh with h1 | h1
            · exact hall h h1
            · obtain rfl := List.mem_singleton.mp h1
              exact ⟨by omega, by omega, hf⟩
          · intro _ h0
            simp at h0
          · rw [List.length_append]
            show hs.length + 1 ≤ i + 1
            omega
        | false =>
          refine iteF ⟨kk, hs, hd', hall, fun _ => ?_, by omega⟩
          rcases Nat.eq_zero_or_pos i with h0 | h0
          · subst h0
            exfalso
            unfold fitB at hf
            cases kd with
            | true => rw [if_pos rfl, Nat.mod_one] at hf; cases hf
            | false => rw [if_neg Bool.false_ne_true] at hf; exact absurd (Nat.gcd_one_left m) (of_decide_eq_false hf)
          · exact hne h0
      · rintro H13 ⟨kk, hs, hd', hall, hne, hlen⟩
        have c13 := Ch.ofS c12.bag kk
        have hDb : D ≠ b := c12.bag.ne hD
        have hne' := hne (by decide)
        refine ⟨b, D, hs.map ntV, rfl, c13.bag, hd', hDb, (fun h => hne' (List.map_eq_nil_iff.mp h)), by rw [List.length_map]; omega, fun i14 x14 H14 hx14 hb14 k14 => ?_⟩
        have c14 := Ch.of c13.bag hb14 k14
        rw [List.getElem?_map] at hx14
        cases hh : hs[i14]? with
        | none => rw [hh] at hx14; cases hx14
        | some h =>
          rw [hh] at hx14
          obtain rfl : nt h = x14 := Option.some.inj hx14
          obtain ⟨h1, h2, h3⟩ := hall h (List.mem_of_getElem? hh)
          refine ⟨_, rfl, lnb rfl, fun y hy => ?_⟩
          have c15 := Ch.new (o := .tup [V.str "twists", nt h, V.ref p]) c14.bag hy
          have CC := C12.trans (c13.trans (c14.trans c15))
          have hp' := (c13.trans (c14.trans c15)).t _ _ (fun _ z => by cases z) hp
          unfold fitB at h3
          rcases hm with ⟨rfl, m1, m2⟩ | ⟨rfl, m1, m2⟩
          · rw [if_pos rfl, decide_eq_true_eq] at h3
            exact q (.twist h (.rests m)) _ _ ⟨⟨h1, by omega⟩, ⟨m1, m2⟩, .inl ⟨m, rfl, Nat.dvd_of_mod_eq_zero h3⟩⟩ (by show 1 + 1 ≤ max 1 (n + 2); omega) ⟨y, .ref p, rfl, upd_same, ⟨p, rfl, hp'⟩⟩ CC
          · rw [if_neg Bool.false_ne_true, decide_eq_true_eq] at h3
            exact q (.twist h (.whole m)) _ _ ⟨⟨h1, by omega⟩, m1, .inr ⟨m, rfl, by rw [m2]; exact h3⟩⟩ (by show 1 + 1 ≤ max 1 (n + 2); omega) ⟨y, .ref p, rfl, upd_same, ⟨p, rfl, hp'⟩⟩ CC
end
end J

/-! the law's realms and samples (printed by genG8.py) -/
namespace J
open PySem PySem.Spec PyProof.Rows L2
open JM (RS num dep N4)
section
variable {P : Program} {w : World} {K : PySem.W.Frag} {mg : Str → Option Value} {base : Heap}
theorem sc_drawn : FnScope ["_law_bag_here", "_law_d", "_law_part", "_law_more"] ["_law_bag_here"] dF_law_drawn_realm.scope := ⟨rfl, rfl, rfl, by decide +kernel, rfl, by decide +kernel, by decide +kernel⟩
def spDrawn : Sp := fun vs H Q _ => ∃ b : Addr, vs = [.ref b] ∧ Bag H b ∧ ∀ (n : N4) (v : Addr) H', n.i ∈ JM.dL → n.o ≤ 1000 → n.s ≤ 1000 → n.t ≤ 1000 → H' v = some (.tup (n4V n)) → Ch b H H' → Q (.ref v) H'
theorem g_drawn (z : Z K mg base) : GF P w K mg base 3 "_law_drawn_realm" spDrawn := by
  refine gf_of z.c z.x z.g (c_glo__law_drawn_realm z.c) (f_F_law_drawn_realm z.c) (fn_plain (f_F_law_drawn_realm z.c) sc_drawn (fun vs H Q E h => ?_) (fun _ _ _ _ _ _ us hl => match us, hl with | [_], _ => rfl) fun cdv A outer s H vs Q E hr h => ?_)
  · obtain ⟨b, rfl, hb, q⟩ := h; rfl
  · obtain ⟨b, rfl, hb, q⟩ := h
    have GD : GF P w K mg base 1 "_law_draw" spDraw := g_draw z
    have GP : GF P w K mg base 2 "_law_pick" spPick := g_pick z
    refine ⟨_, (pss_cons (ps_set (i := 1) sc_drawn.nd rfl (.inl rfl) (pe_cf GP (hr.mono (by decide)) (by rfl) pass0 (pa_cons (pv 0) (pa_cons (pe_lst (pa_cons pe_int (pa_cons pe_int (pa_cons pe_int (pa_cons pe_int (pa_cons pe_int (pa_cons pe_int (pa_cons pe_int (pa_cons pe_int (pa_cons pe_int pa_nil)))))))))) pa_nil)))) (pss_cons (ps_set (i := 2) sc_drawn.nd rfl (.inl rfl) (pe_cf GP (hr.mono (by decide)) (by rfl) pass0 (pa_cons (pv 0) (pa_cons (pe_lst (pa_cons pe_int (pa_cons pe_int (pa_cons pe_int (pa_cons pe_int (pa_cons pe_int (pa_cons pe_int (pa_cons pe_int (pa_cons pe_int (pa_cons (pe_op op_add pe_int (pe_cf GD (hr.mono (by decide)) (by rfl) pass0 (pa_cons (pv 0) (pa_cons pe_int pa_nil)))) pa_nil)))))))))) pa_nil)))) (pss_cons (ps_set (i := 3) sc_drawn.nd rfl (.inl rfl) (pe_cf GP (hr.mono (by decide)) (by rfl) pass0 (pa_cons (pv 0) (pa_cons (pe_lst (pa_cons pe_int (pa_cons pe_int (pa_cons pe_int (pa_cons pe_int (pa_cons pe_int (pa_cons (pe_op op_add pe_int (pe_cf GD (hr.mono (by decide)) (by rfl) pass0 (pa_cons (pv 0) (pa_cons pe_int pa_nil)))) pa_nil))))))) pa_nil)))) (pss_one (ps_ret (pe_tup (pa_cons (pv 1) (pa_cons (pe_op op_mul (pv 2) (pe_cf GP (hr.mono (by decide)) (by rfl) pass0 (pa_cons (pv 0) (pa_cons (pe_lst (pa_cons pe_int (pa_cons pe_int (pa_cons pe_int (pa_cons pe_int (pa_cons pe_int pa_nil)))))) pa_nil)))) (pa_cons (pe_ifExp (pt_cmpR op_eq (pe_cf GD (hr.mono (by decide)) (by rfl) pass0 (pa_cons (pv 0) (pa_cons pe_int pa_nil))) pe_int (nomark _)) (pe_op op_mul (pv 2) (pv 3)) (pv 3)) (pa_cons (pe_cf GP (hr.mono (by decide)) (by rfl) pass0 (pa_cons (pv 0) (pa_cons (pe_lst (pa_cons (pv 2) (pa_cons (pe_op op_mul (pv 2) pe_int) (pa_cons pe_int (pa_cons (pv 3) (pa_cons (pe_op op_add pe_int (pe_cf GD (hr.mono (by decide)) (by rfl) pass0 (pa_cons (pv 0) (pa_cons pe_int pa_nil)))) pa_nil)))))) pa_nil))) pa_nil)))))))))), ?_⟩
    refine ⟨_, rfl, ?_⟩
    refine ⟨lnb rfl, fun u1 hu1 => ?_⟩
    have c1 := Ch.new (o := .lst [V.int 1, V.int 1, V.int 1, V.int 2, V.int 3, V.int 6, V.int 10, V.int 12, V.int 35]) hb hu1
    refine ⟨b, u1, _, rfl, c1.bag, upd_same, (hb).ne hu1, (fun h => by cases h), (show 9 < 2 ^ 29 by decide), fun i2 x2 H2 hx2 hb2 k2 => ?_⟩
    have c2 := Ch.of c1.bag hb2 k2
    obtain ⟨d, rfl, hd⟩ := pick_all (Pp := isN fun d => d ∈ JM.dL) (all_cons ⟨1, rfl, by decide⟩ (all_cons ⟨1, rfl, by decide⟩ (all_cons ⟨1, rfl, by decide⟩ (all_cons ⟨2, rfl, by decide⟩ (all_cons ⟨3, rfl, by decide⟩ (all_cons ⟨6, rfl, by decide⟩ (all_cons ⟨10, rfl, by decide⟩ (all_cons ⟨12, rfl, by decide⟩ (all_cons ⟨35, rfl, by decide⟩ all_nil))))))))) hx2
    refine ⟨_, rfl, ?_⟩
    refine ⟨_, rfl, b, 60, rfl, c2.bag, by decide, by decide, fun e1 H3 he1 hb3 k3 => ?_⟩
    have c3 := Ch.of c2.bag hb3 k3
    refine ⟨_, _, rfl, rfl, ?_⟩
    refine ⟨lnb rfl, fun u4 hu4 => ?_⟩
    have c4 := Ch.new (o := .lst [V.int 0, V.int 1, V.int 2, V.int 3, V.int 4, V.int 6, V.int 12, V.int 30, nt (1 + e1)]) c3.bag hu4
    refine ⟨b, u4, _, rfl, c4.bag, upd_same, (c3.bag).ne hu4, (fun h => by cases h), (show 9 < 2 ^ 29 by decide), fun i5 x5 H5 hx5 hb5 k5 => ?_⟩
    have c5 := Ch.of c4.bag hb5 k5
    obtain ⟨p, rfl, hp⟩ := pick_all (Pp := isN fun d => d ≤ 60) (all_cons ⟨0, rfl, by decide⟩ (all_cons ⟨1, rfl, by decide⟩ (all_cons ⟨2, rfl, by decide⟩ (all_cons ⟨3, rfl, by decide⟩ (all_cons ⟨4, rfl, by decide⟩ (all_cons ⟨6, rfl, by decide⟩ (all_cons ⟨12, rfl, by decide⟩ (all_cons ⟨30, rfl, by decide⟩ (all_cons ⟨1 + e1, rfl, by omega⟩ all_nil))))))))) hx5
    refine ⟨_, rfl, ?_⟩
    refine ⟨_, rfl, b, 12, rfl, c5.bag, by decide, by decide, fun e2 H6 he2 hb6 k6 => ?_⟩
    have c6 := Ch.of c5.bag hb6 k6
    refine ⟨_, _, rfl, rfl, ?_⟩
    refine ⟨lnb rfl, fun u7 hu7 => ?_⟩
    have c7 := Ch.new (o := .lst [V.int 0, V.int 0, V.int 1, V.int 2, V.int 5, nt (1 + e2)]) c6.bag hu7
    refine ⟨b, u7, _, rfl, c7.bag, upd_same, (c6.bag).ne hu7, (fun h => by cases h), (show 6 < 2 ^ 29 by decide), fun i8 x8 H8 hx8 hb8 k8 => ?_⟩
    have c8 := Ch.of c7.bag hb8 k8
    obtain ⟨m, rfl, hm⟩ := pick_all (Pp := isN fun d => d ≤ 12) (all_cons ⟨0, rfl, by decide⟩ (all_cons ⟨0, rfl, by decide⟩ (all_cons ⟨1, rfl, by decide⟩ (all_cons ⟨2, rfl, by decide⟩ (all_cons ⟨5, rfl, by decide⟩ (all_cons ⟨1 + e2, rfl, by omega⟩ all_nil)))))) hx8
    refine ⟨_, rfl, _, rfl, _, rfl, ?_⟩
    refine ⟨lnb rfl, fun u9 hu9 => ?_⟩
    have c9 := Ch.new (o := .lst [V.int 0, V.int 1, V.int 1, V.int 2, V.int 3]) c8.bag hu9
    refine ⟨b, u9, _, rfl, c9.bag, upd_same, (c8.bag).ne hu9, (fun h => by cases h), (show 5 < 2 ^ 29 by decide), fun i10 x10 H10 hx10 hb10 k10 => ?_⟩
    have c10 := Ch.of c9.bag hb10 k10
    obtain ⟨f, rfl, hf⟩ := pick_all (Pp := isN fun d => d ≤ 3) (all_cons ⟨0, rfl, by decide⟩ (all_cons ⟨1, rfl, by decide⟩ (all_cons ⟨1, rfl, by decide⟩ (all_cons ⟨2, rfl, by decide⟩ (all_cons ⟨3, rfl, by decide⟩ all_nil))))) hx10
    refine ⟨_, _, rfl, rfl, .inl ⟨by omega, by omega⟩, ?_⟩
    refine ⟨_, rfl, b, 2, rfl, c10.bag, by decide, by decide, fun g H11 hg hb11 k11 => ?_⟩
    have c11 := Ch.of c10.bag hb11 k11
    have hpm : p * m ≤ 720 := Nat.le_trans (Nat.mul_le_mul hp hm) (by decide)
    have hpf : p * f ≤ 180 := Nat.le_trans (Nat.mul_le_mul hp hf) (by decide)
    refine ⟨rfl, _, rfl, ite2 (fun _ => ?_) (fun _ => ?_)⟩
    · refine ⟨_, rfl, _, rfl, _, _, rfl, rfl, .inl ⟨by omega, by omega⟩, _, rfl, ?_⟩
      refine ⟨_, rfl, _, rfl, _, _, rfl, rfl, .inl ⟨by omega, by omega⟩, _, rfl, ?_⟩
      refine ⟨_, rfl, b, 24, rfl, c11.bag, by decide, by decide, fun e3 H12 he3 hb12 k12 => ?_⟩
      have c12 := Ch.of c11.bag hb12 k12
      refine ⟨_, _, rfl, rfl, ?_⟩
      refine ⟨lnb rfl, fun u13 hu13 => ?_⟩
      have c13 := Ch.new (o := .lst [nt p, nt (p * 2), V.int 0, nt m, nt (1 + e3)]) c12.bag hu13
      refine ⟨b, u13, _, rfl, c13.bag, upd_same, (c12.bag).ne hu13, (fun h => by cases h), (show 5 < 2 ^ 29 by decide), fun i14 x14 H14 hx14 hb14 k14 => ?_⟩
      have c14 := Ch.of c13.bag hb14 k14
      obtain ⟨t, rfl, ht⟩ := pick_all (Pp := isN fun d => d ≤ 120) (all_cons ⟨p, rfl, by omega⟩ (all_cons ⟨p * 2, rfl, by omega⟩ (all_cons ⟨0, rfl, by decide⟩ (all_cons ⟨m, rfl, by omega⟩ (all_cons ⟨1 + e3, rfl, by omega⟩ all_nil))))) hx14
      refine ⟨lnb rfl, fun y hy => ?_⟩
      have cy := Ch.new (o := .tup [nt d, nt (p * f), nt (p * m), nt t]) c14.bag hy
      exact q ⟨d, p * f, p * m, t⟩ y _ hd (by show p * f ≤ 1000; omega) (by show p * m ≤ 1000; omega) (by show t ≤ 1000; omega) upd_same (c1.trans (c2.trans (c3.trans (c4.trans (c5.trans (c6.trans (c7.trans (c8.trans (c9.trans (c10.trans (c11.trans (c12.trans (c13.trans (c14.trans (cy)))))))))))))))
    · refine ⟨_, rfl, _, rfl, ?_⟩
      refine ⟨_, rfl, _, rfl, _, _, rfl, rfl, .inl ⟨by omega, by omega⟩, _, rfl, ?_⟩
      refine ⟨_, rfl, b, 24, rfl, c11.bag, by decide, by decide, fun e3 H12 he3 hb12 k12 => ?_⟩
      have c12 := Ch.of c11.bag hb12 k12
      refine ⟨_, _, rfl, rfl, ?_⟩
      refine ⟨lnb rfl, fun u13 hu13 => ?_⟩
      have c13 := Ch.new (o := .lst [nt p, nt (p * 2), V.int 0, nt m, nt (1 + e3)]) c12.bag hu13
      refine ⟨b, u13, _, rfl, c13.bag, upd_same, (c12.bag).ne hu13, (fun h => by cases h), (show 5 < 2 ^ 29 by decide), fun i14 x14 H14 hx14 hb14 k14 => ?_⟩
      have c14 := Ch.of c13.bag hb14 k14
      obtain ⟨t, rfl, ht⟩ := pick_all (Pp := isN fun d => d ≤ 120) (all_cons ⟨p, rfl, by omega⟩ (all_cons ⟨p * 2, rfl, by omega⟩ (all_cons ⟨0, rfl, by decide⟩ (all_cons ⟨m, rfl, by omega⟩ (all_cons ⟨1 + e3, rfl, by omega⟩ all_nil))))) hx14
      refine ⟨lnb rfl, fun y hy => ?_⟩
      have cy := Ch.new (o := .tup [nt d, nt (p * f), nt (m), nt t]) c14.bag hy
      exact q ⟨d, p * f, m, t⟩ y _ hd (by show p * f ≤ 1000; omega) (by show m ≤ 1000; omega) (by show t ≤ 1000; omega) upd_same (c1.trans (c2.trans (c3.trans (c4.trans (c5.trans (c6.trans (c7.trans (c8.trans (c9.trans (c10.trans (c11.trans (c12.trans (c13.trans (c14.trans (cy)))))))))))))))
theorem sc_samp : FnScope ["_law_bag_here"] ["_law_bag_here"] dF_law_samples.scope := ⟨rfl, rfl, rfl, by decide +kernel, rfl, by decide +kernel, by decide +kernel⟩
def spSamp : Sp := fun vs H Q _ => ∃ b : Addr, vs = [.ref b] ∧ Bag H b ∧ ∀ (p : Addr) (xs : List V) H', H' p = some (.lst xs) → p ≠ b → xs.length ≤ 20 → (∀ x ∈ xs, ∃ r : RS, JM.wf r ∧ dep r ≤ 3 ∧ isSpec r H' x) → Ch b H H' → Q (.ref p) H'
theorem g_samp (z : Z K mg base) : GF P w K mg base 9 "_law_samples" spSamp := by
  refine gf_of z.c z.x z.g (c_glo__law_samples z.c) (f_F_law_samples z.c) (fn_plain (f_F_law_samples z.c) sc_samp (fun vs H Q E h => ?_) (fun _ _ _ _ _ _ us hl => match us, hl with | [_], _ => rfl) fun cdv A outer s H vs Q E hr h => ?_)
  · obtain ⟨b, rfl, hb, q⟩ := h; rfl
  · obtain ⟨b, rfl, hb, q⟩ := h
    have GD : GF P w K mg base 1 "_law_draw" spDraw := g_draw z
    have GP : GF P w K mg base 2 "_law_pick" spPick := g_pick z
    have GA : GF P w K mg base (3 + 5) "_law_any" (spAny 3) := g_any z 3
    refine ⟨_, (pss_one (ps_ret (pe_lst (pa_cons (pe_tup (pa_cons pe_str (pa_cons (pe_op op_add pe_int (pe_cf GD (hr.mono (by decide)) (by rfl) pass0 (pa_cons (pv 0) (pa_cons pe_int pa_nil)))) pa_nil))) (pa_cons (pe_tup (pa_cons pe_str (pa_cons (pe_tup (pa_cons pe_str (pa_cons (pe_op op_add pe_int (pe_cf GD (hr.mono (by decide)) (by rfl) pass0 (pa_cons (pv 0) (pa_cons pe_int pa_nil)))) pa_nil))) pa_nil))) (pa_cons (pe_tup (pa_cons pe_str (pa_cons pe_int pa_nil))) (pa_cons (pe_tup (pa_cons pe_str (pa_cons (pe_cf GP (hr.mono (by decide)) (by rfl) pass0 (pa_cons (pv 0) (pa_cons (pe_lst (pa_cons pe_int (pa_cons pe_int (pa_cons pe_int (pa_cons pe_int (pa_cons pe_int (pa_cons pe_int pa_nil))))))) pa_nil))) pa_nil))) (pa_cons (pe_tup (pa_cons pe_str (pa_cons (pe_tup (pa_cons pe_str (pa_cons pe_int pa_nil))) pa_nil))) (pa_cons (pe_tup (pa_cons pe_str (pa_cons pe_int (pa_cons (pe_tup (pa_cons pe_str (pa_cons (pe_op op_add pe_int (pe_cf GD (hr.mono (by decide)) (by rfl) pass0 (pa_cons (pv 0) (pa_cons pe_int pa_nil)))) pa_nil))) pa_nil)))) (pa_cons (pe_tup (pa_cons pe_str pa_nil)) (pa_cons (pe_tup (pa_cons pe_str (pa_cons pe_int (pa_cons (pe_tup (pa_cons pe_str (pa_cons pe_int pa_nil))) pa_nil)))) (pa_cons (pe_tup (pa_cons pe_str (pa_cons pe_int (pa_cons (pe_tup (pa_cons pe_str (pa_cons pe_int pa_nil))) pa_nil)))) (pa_cons (pe_tup (pa_cons pe_str (pa_cons pe_int (pa_cons (pe_tup (pa_cons pe_str (pa_cons pe_int pa_nil))) pa_nil)))) (pa_cons (pe_tup (pa_cons pe_str (pa_cons pe_int (pa_cons (pe_tup (pa_cons pe_str (pa_cons (pe_cf GP (hr.mono (by decide)) (by rfl) pass0 (pa_cons (pv 0) (pa_cons (pe_lst (pa_cons pe_int (pa_cons pe_int pa_nil))) pa_nil))) pa_nil))) pa_nil)))) (pa_cons (pe_tup (pa_cons pe_str (pa_cons (pe_tup (pa_cons pe_str (pa_cons pe_int pa_nil))) pa_nil))) (pa_cons (pe_cf GA hr (by rfl) pass0 (pa_cons (pv 0) (pa_cons pe_int pa_nil))) pa_nil)))))))))))))))), ?_⟩
    refine ⟨_, rfl, b, 30, rfl, hb, by decide, by decide, fun a1 H1 ha1 hb1 k1 => ?_⟩
    have c1 := Ch.of hb hb1 k1
    refine ⟨_, _, rfl, rfl, ?_⟩
    refine ⟨lnb rfl, fun u2 hu2 => ?_⟩
    have c2 := Ch.new (o := .tup [V.str "rests", nt (2 + a1)]) c1.bag hu2
    refine ⟨_, rfl, b, 30, rfl, c2.bag, by decide, by decide, fun a2 H3 ha2 hb3 k3 => ?_⟩
    have c3 := Ch.of c2.bag hb3 k3
    refine ⟨_, _, rfl, rfl, ?_⟩
    refine ⟨lnb rfl, fun u4 hu4 => ?_⟩
    have c4 := Ch.new (o := .tup [V.str "rests", nt (2 + a2)]) c3.bag hu4
    refine ⟨lnb rfl, fun u5 hu5 => ?_⟩
    have c5 := Ch.new (o := .tup [V.str "duals", V.ref u4]) c4.bag hu5
    refine ⟨lnb rfl, fun u6 hu6 => ?_⟩
    have c6 := Ch.new (o := .tup [V.str "sets", nt 2]) c5.bag hu6
    refine ⟨_, rfl, ?_⟩
    refine ⟨lnb rfl, fun u7 hu7 => ?_⟩
    have c7 := Ch.new (o := .lst [V.int 1, V.int 2, V.int 3, V.int 6, V.int 10, V.int 35]) c6.bag hu7
    refine ⟨b, u7, _, rfl, c7.bag, upd_same, (c6.bag).ne hu7, (fun h => by cases h), (show 6 < 2 ^ 29 by decide), fun i8 x8 H8 hx8 hb8 k8 => ?_⟩
    have c8 := Ch.of c7.bag hb8 k8
    obtain ⟨w1, rfl, hw1⟩ := pick_all (Pp := isN fun d => d ∈ JM.dL) (all_cons ⟨1, rfl, by decide⟩ (all_cons ⟨2, rfl, by decide⟩ (all_cons ⟨3, rfl, by decide⟩ (all_cons ⟨6, rfl, by decide⟩ (all_cons ⟨10, rfl, by decide⟩ (all_cons ⟨35, rfl, by decide⟩ all_nil)))))) hx8
    refine ⟨lnb rfl, fun u9 hu9 => ?_⟩
    have c9 := Ch.new (o := .tup [V.str "whole", nt w1]) c8.bag hu9
    refine ⟨lnb rfl, fun u10 hu10 => ?_⟩
    have c10 := Ch.new (o := .tup [V.str "whole", nt 2]) c9.bag hu10
    refine ⟨lnb rfl, fun u11 hu11 => ?_⟩
    have c11 := Ch.new (o := .tup [V.str "duals", V.ref u10]) c10.bag hu11
    refine ⟨_, rfl, b, 12, rfl, c11.bag, by decide, by decide, fun a3 H12 ha3 hb12 k12 => ?_⟩
    have c12 := Ch.of c11.bag hb12 k12
    refine ⟨_, _, rfl, rfl, ?_⟩
    refine ⟨lnb rfl, fun u13 hu13 => ?_⟩
    have c13 := Ch.new (o := .tup [V.str "rests", nt (2 + a3)]) c12.bag hu13
    refine ⟨lnb rfl, fun u14 hu14 => ?_⟩
    have c14 := Ch.new (o := .tup [V.str "matrices", nt 2, V.ref u13]) c13.bag hu14
    refine ⟨lnb rfl, fun u15 hu15 => ?_⟩
    have c15 := Ch.new (o := .tup [V.str "fractions"]) c14.bag hu15
    refine ⟨lnb rfl, fun u16 hu16 => ?_⟩
    have c16 := Ch.new (o := .tup [V.str "rests", nt 4]) c15.bag hu16
    refine ⟨lnb rfl, fun u17 hu17 => ?_⟩
    have c17 := Ch.new (o := .tup [V.str "twists", nt 2, V.ref u16]) c16.bag hu17
    refine ⟨lnb rfl, fun u18 hu18 => ?_⟩
    have c18 := Ch.new (o := .tup [V.str "rests", nt 12]) c17.bag hu18
    refine ⟨lnb rfl, fun u19 hu19 => ?_⟩
    have c19 := Ch.new (o := .tup [V.str "twists", nt 3, V.ref u18]) c18.bag hu19
    refine ⟨lnb rfl, fun u20 hu20 => ?_⟩
    have c20 := Ch.new (o := .tup [V.str "whole", nt 6]) c19.bag hu20
    refine ⟨lnb rfl, fun u21 hu21 => ?_⟩
    have c21 := Ch.new (o := .tup [V.str "twists", nt 5, V.ref u20]) c20.bag hu21
    refine ⟨_, rfl, ?_⟩
    refine ⟨lnb rfl, fun u22 hu22 => ?_⟩
    have c22 := Ch.new (o := .lst [V.int 1, V.int 6]) c21.bag hu22
    refine ⟨b, u22, _, rfl, c22.bag, upd_same, (c21.bag).ne hu22, (fun h => by cases h), (show 2 < 2 ^ 29 by decide), fun i23 x23 H23 hx23 hb23 k23 => ?_⟩
    have c23 := Ch.of c22.bag hb23 k23
    obtain ⟨w2, rfl, hw2⟩ := pick_all (Pp := isN fun d => d ∈ JM.dL) (all_cons ⟨1, rfl, by decide⟩ (all_cons ⟨6, rfl, by decide⟩ all_nil)) hx23
    refine ⟨lnb rfl, fun u24 hu24 => ?_⟩
    have c24 := Ch.new (o := .tup [V.str "whole", nt w2]) c23.bag hu24
    refine ⟨lnb rfl, fun u25 hu25 => ?_⟩
    have c25 := Ch.new (o := .tup [V.str "words", nt 2, V.ref u24]) c24.bag hu25
    refine ⟨lnb rfl, fun u26 hu26 => ?_⟩
    have c26 := Ch.new (o := .tup [V.str "rests", nt 6]) c25.bag hu26
    refine ⟨lnb rfl, fun u27 hu27 => ?_⟩
    have c27 := Ch.new (o := .tup [V.str "quaternions", V.ref u26]) c26.bag hu27
    refine ⟨_, rfl, b, rfl, c27.bag, fun ra va H28 wa da sa c28 => ?_⟩
    refine ⟨lnb rfl, fun u29 hu29 => ?_⟩
    have c29 := Ch.new (o := .lst [V.ref u2, V.ref u5, V.ref u6, V.ref u9, V.ref u11, V.ref u14, V.ref u15, V.ref u17, V.ref u19, V.ref u21, V.ref u25, V.ref u27, va]) c28.bag hu29
    exact q u29 _ _ upd_same (c28.bag.ne hu29) (Nat.le_of_ble_eq_true rfl) (all_cons ⟨.rests (2 + a1), ⟨by omega, by omega⟩, (Nat.le_of_ble_eq_true rfl), isSpec.keepT (c3.trans (c4.trans (c5.trans (c6.trans (c7.trans (c8.trans (c9.trans (c10.trans (c11.trans (c12.trans (c13.trans (c14.trans (c15.trans (c16.trans (c17.trans (c18.trans (c19.trans (c20.trans (c21.trans (c22.trans (c23.trans (c24.trans (c25.trans (c26.trans (c27.trans (c28.trans (c29))))))))))))))))))))))))))).t ⟨u2, rfl, upd_same⟩⟩ (all_cons ⟨.dual (.rests (2 + a2)), (show 2 ≤ 2 + a2 ∧ 2 + a2 ≤ 64 by omega), (Nat.le_of_ble_eq_true rfl), isSpec.keepT (c6.trans (c7.trans (c8.trans (c9.trans (c10.trans (c11.trans (c12.trans (c13.trans (c14.trans (c15.trans (c16.trans (c17.trans (c18.trans (c19.trans (c20.trans (c21.trans (c22.trans (c23.trans (c24.trans (c25.trans (c26.trans (c27.trans (c28.trans (c29)))))))))))))))))))))))).t ⟨u5, .ref u4, rfl, upd_same, ⟨u4, rfl, c5.t _ _ (fun _ z => by cases z) upd_same⟩⟩⟩ (all_cons ⟨.sets 2, ⟨by decide, by decide⟩, (Nat.le_of_ble_eq_true rfl), isSpec.keepT (c7.trans (c8.trans (c9.trans (c10.trans (c11.trans (c12.trans (c13.trans (c14.trans (c15.trans (c16.trans (c17.trans (c18.trans (c19.trans (c20.trans (c21.trans (c22.trans (c23.trans (c24.trans (c25.trans (c26.trans (c27.trans (c28.trans (c29))))))))))))))))))))))).t ⟨u6, rfl, upd_same⟩⟩ (all_cons ⟨.whole w1, hw1, (Nat.le_of_ble_eq_true rfl), isSpec.keepT (c10.trans (c11.trans (c12.trans (c13.trans (c14.trans (c15.trans (c16.trans (c17.trans (c18.trans (c19.trans (c20.trans (c21.trans (c22.trans (c23.trans (c24.trans (c25.trans (c26.trans (c27.trans (c28.trans (c29)))))))))))))))))))).t ⟨u9, rfl, upd_same⟩⟩ (all_cons ⟨.dual (.whole 2), (show 2 ∈ JM.dL by decide), (Nat.le_of_ble_eq_true rfl), isSpec.keepT (c12.trans (c13.trans (c14.trans (c15.trans (c16.trans (c17.trans (c18.trans (c19.trans (c20.trans (c21.trans (c22.trans (c23.trans (c24.trans (c25.trans (c26.trans (c27.trans (c28.trans (c29)))))))))))))))))).t ⟨u11, .ref u10, rfl, upd_same, ⟨u10, rfl, c11.t _ _ (fun _ z => by cases z) upd_same⟩⟩⟩ (all_cons ⟨.mats (.rests (2 + a3)), (show 2 ≤ 2 + a3 ∧ 2 + a3 ≤ 64 by omega), (Nat.le_of_ble_eq_true rfl), isSpec.keepT (c15.trans (c16.trans (c17.trans (c18.trans (c19.trans (c20.trans (c21.trans (c22.trans (c23.trans (c24.trans (c25.trans (c26.trans (c27.trans (c28.trans (c29))))))))))))))).t ⟨u14, .ref u13, rfl, upd_same, ⟨u13, rfl, c14.t _ _ (fun _ z => by cases z) upd_same⟩⟩⟩ (all_cons ⟨.frac, trivial, (Nat.le_of_ble_eq_true rfl), isSpec.keepT (c16.trans (c17.trans (c18.trans (c19.trans (c20.trans (c21.trans (c22.trans (c23.trans (c24.trans (c25.trans (c26.trans (c27.trans (c28.trans (c29)))))))))))))).t ⟨u15, rfl, upd_same⟩⟩ (all_cons ⟨.twist 2 (.rests 4), ⟨⟨by decide, by decide⟩, ⟨by decide, by decide⟩, .inl ⟨4, rfl, by decide⟩⟩, (Nat.le_of_ble_eq_true rfl), isSpec.keepT (c18.trans (c19.trans (c20.trans (c21.trans (c22.trans (c23.trans (c24.trans (c25.trans (c26.trans (c27.trans (c28.trans (c29)))))))))))).t ⟨u17, .ref u16, rfl, upd_same, ⟨u16, rfl, c17.t _ _ (fun _ z => by cases z) upd_same⟩⟩⟩ (all_cons ⟨.twist 3 (.rests 12), ⟨⟨by decide, by decide⟩, ⟨by decide, by decide⟩, .inl ⟨12, rfl, by decide⟩⟩, (Nat.le_of_ble_eq_true rfl), isSpec.keepT (c20.trans (c21.trans (c22.trans (c23.trans (c24.trans (c25.trans (c26.trans (c27.trans (c28.trans (c29)))))))))).t ⟨u19, .ref u18, rfl, upd_same, ⟨u18, rfl, c19.t _ _ (fun _ z => by cases z) upd_same⟩⟩⟩ (all_cons ⟨.twist 5 (.whole 6), ⟨⟨by decide, by decide⟩, (show 6 ∈ JM.dL by decide), .inr ⟨6, rfl, by decide⟩⟩, (Nat.le_of_ble_eq_true rfl), isSpec.keepT (c22.trans (c23.trans (c24.trans (c25.trans (c26.trans (c27.trans (c28.trans (c29)))))))).t ⟨u21, .ref u20, rfl, upd_same, ⟨u20, rfl, c21.t _ _ (fun _ z => by cases z) upd_same⟩⟩⟩ (all_cons ⟨.words 2 (.whole w2), ⟨⟨by decide, by decide⟩, hw2⟩, (Nat.le_of_ble_eq_true rfl), isSpec.keepT (c26.trans (c27.trans (c28.trans (c29)))).t ⟨u25, .ref u24, rfl, upd_same, ⟨u24, rfl, c25.t _ _ (fun _ z => by cases z) upd_same⟩⟩⟩ (all_cons ⟨.quat (.rests 6), ⟨rfl, (by decide), (by decide)⟩, (Nat.le_of_ble_eq_true rfl), isSpec.keepT (c28.trans (c29)).t ⟨u27, .ref u26, rfl, upd_same, ⟨u26, rfl, c27.t _ _ (fun _ z => by cases z) upd_same⟩⟩⟩ (all_cons ⟨ra, wa, (da), isSpec.keepT (c29).t sa⟩ all_nil))))))))))))) (c1.trans (c2.trans (c3.trans (c4.trans (c5.trans (c6.trans (c7.trans (c8.trans (c9.trans (c10.trans (c11.trans (c12.trans (c13.trans (c14.trans (c15.trans (c16.trans (c17.trans (c18.trans (c19.trans (c20.trans (c21.trans (c22.trans (c23.trans (c24.trans (c25.trans (c26.trans (c27.trans (c28.trans (c29)))))))))))))))))))))))))))))
end
end J

/-! the law: what its expressions read -/
namespace J
open PySem PySem.Spec PyProof.Rows L2
open JM (RS num dep N4 NF)
section
variable {P : Program} {w : World} {K : PySem.W.Frag} {mg : Str → Option Value} {base : Heap}
abbrev CR (K : PySem.W.Frag) : Addr := He.ga K "Realm"
abbrev mR (K : PySem.W.Frag) (m : Str) : Addr := He.ma K (He.ga K "Realm") m
/-! operators on two realms -/
theorem or_r {H : Hp} {Q : VK} {a b : Addr} {m n : N4} (ra : IsRealm K H a m) (rb : IsRealm K H b n) (bm : N29 m) (bn : N29 n) (q : ∀ c H', Same H H' → IsRealm K H' c (JM.orN m n) → Q (.ref c) H') : rO (CR K) (spROr K) (.ref a) (.ref b) H Q := by
  obtain ⟨dx, p, o⟩ := id ra
  obtain ⟨dx', p', o'⟩ := id rb
  exact ⟨a, dx, _, b, dx', _, rfl, rfl, o.at_, o'.at_, a, m, b, n, rfl, ra, rb, bm, bn, q⟩
theorem and_r {H : Hp} {Q : VK} {a b : Addr} {m n : N4} (ra : IsRealm K H a m) (rb : IsRealm K H b n) (bm : m.i < 2 ^ 14) (bn : n.i < 2 ^ 14) (q : ∀ c H' l, Same H H' → IsRealm K H' c l → Q (.ref c) H') : rO (CR K) (spRAnd K) (.ref a) (.ref b) H Q := by
  obtain ⟨dx, p, o⟩ := id ra
  obtain ⟨dx', p', o'⟩ := id rb
  exact ⟨a, dx, _, b, dx', _, rfl, rfl, o.at_, o'.at_, a, m, b, n, rfl, ra, rb, bm, bn, q⟩
theorem eq_r {H : Hp} {Q : VK} {a b : Addr} {m n : N4} (ra : IsRealm K H a m) (rb : IsRealm K H b n) (q : Q (.bl (decide (m = n))) H) : rO (CR K) (spREq K) (.ref a) (.ref b) H Q := by
  obtain ⟨dx, p, o⟩ := id ra
  obtain ⟨dx', p', o'⟩ := id rb
  exact ⟨a, dx, _, b, dx', _, rfl, rfl, o.at_, o'.at_, a, m, b, n, rfl, ra, rb, q⟩
theorem in_r {H : Hp} {Q : VK} {a b : Addr} {neg : Bool} {m : N4} {r : RS} (ra : IsRealm K H a m) (rb : ROb K H b r) (hd : dep r ≤ 3) (q : ∀ c H', Same H H' → (c = true ↔ JM.ringIn (num r) m) → Q (.bl (if neg then !c else c)) H') : rIn_ (CR K) neg (spRC K) (.ref b) (.ref a) H Q := by
  obtain ⟨dx, p, o⟩ := id ra
  exact ⟨a, dx, _, rfl, o.at_, a, m, b, r, rfl, ra, rb, hd, fun c H' k h => ⟨c, rfl, q c H' k h⟩⟩
theorem me_within (z : Z K mg base) : Meth K (CR K) "within" (mR K "within") := He.meth_ok (c_meth_Realm_within z.c)
theorem wi_rd {σ : L2.St} {H : Hp} {Q : VK} {i j : Nat} {a b : Addr} {m n : N4} (z : Z K mg base) (ha : σ[i]? = some (some (.ref a))) (hb : σ[j]? = some (some (.ref b))) (ra : IsRealm K H a m) (rb : IsRealm K H b n) (q : ∀ c H', Same H H' → (c = true ↔ JM.within m n) → Q (.bl c) H') :
    tMe K "within" (mR K "within") (spRW K) (tVar i) (tCons (tVar j) tNil) σ H Q := by
  obtain ⟨dx, p, o⟩ := id ra
  exact ⟨_, ha, a, _, dx, _, rfl, o.at_, cls_realm z, me_within z, rfl, _, hb, a, m, b, n, rfl, ra, rb, q⟩
/-! bounds -/
theorem gcd_max (a b : Nat) : Nat.gcd a b ≤ max a b := by
  rcases Nat.eq_zero_or_pos a with h | h
  · rw [h, Nat.gcd_zero_left]; omega
  · have := Nat.gcd_le_left b h; omega
theorem settled_29 {n : N4} (h1 : n.o ≤ 1000) (h2 : n.s ≤ 1000) (h3 : n.t ≤ 1000) : (JM.settled n).o < 10000 ∧ (JM.settled n).s < 10000 ∧ (JM.settled n).t < 10000 := by
  have e1 := gcd_max n.o (2 * n.t)
  have e2 := gcd_max n.t (Nat.gcd n.o (2 * n.t))
  have e3 := gcd_max n.s (Nat.gcd n.t (Nat.gcd n.o (2 * n.t)))
  have s1 : JM.strip (Nat.gcd n.o (2 * n.t)) n.i ≤ Nat.gcd n.o (2 * n.t) := JM.strip_le
  have s2 : JM.strip (Nat.gcd n.s (Nat.gcd n.t (Nat.gcd n.o (2 * n.t)))) n.i ≤ Nat.gcd n.s (Nat.gcd n.t (Nat.gcd n.o (2 * n.t))) := JM.strip_le
  have s3 : JM.strip (Nat.gcd n.t (Nat.gcd n.o (2 * n.t))) n.i ≤ Nat.gcd n.t (Nat.gcd n.o (2 * n.t)) := JM.strip_le
  refine ⟨?_, ?_, ?_⟩
  · show JM.strip (Nat.gcd n.o (2 * n.t)) n.i < 10000
    omega
  · show JM.strip (Nat.gcd n.s (Nat.gcd n.t (Nat.gcd n.o (2 * n.t)))) n.i < 10000
    omega
  · show JM.strip (Nat.gcd n.t (Nat.gcd n.o (2 * n.t))) n.i < 10000
    omega
theorem joined_lt {m n : N4} {B : Nat} (hB : 1 < B) (h0 : 0 < m.i) (hm : m.i < B) (hn : n.i < B) : (JM.joined m n).i < B := by
  unfold JM.joined
  dsimp only
  split
  · exact hB
  · split
    · exact Nat.lt_of_le_of_lt (Nat.gcd_le_left _ h0) hm
    · split
      · exact Nat.lt_of_le_of_lt JM.strip_le hm
      · exact Nat.lt_of_le_of_lt JM.strip_le hn
theorem orN_lt {m n : N4} {B : Nat} (hB : 1 < B) (h0 : 0 < m.i) (hm : m.i < B) (hn : n.i < B) : (JM.orN m n).i < B := by
  unfold JM.orN
  split
  · exact settled_i hn hB
  · split
    · exact settled_i hm hB
    · exact settled_i (joined_lt hB h0 hm hn) hB
/-- a drawn realm, settled -/
def rn (n : N4) : N4 := JM.settled ⟨JM.radV n.i, n.o, n.s, n.t⟩
structure Dr (n : N4) : Prop where
  i : n.i ∈ JM.dL
  o : n.o ≤ 1000
  s : n.s ≤ 1000
  t : n.t ≤ 1000
theorem Dr.nf {n : N4} (h : Dr n) : NF (rn n) := JM.nf_settled (JM.rad_ok n.i h.i).2.2.1
theorem Dr.ilt {n : N4} (h : Dr n) : (rn n).i < 50 := settled_i (Nat.lt_of_le_of_lt (JM.rad_ok n.i h.i).2.2.2.1 (show 45 < 50 by decide)) (by decide)
theorem Dr.b {n : N4} (h : Dr n) : (rn n).o < 10000 ∧ (rn n).s < 10000 ∧ (rn n).t < 10000 := settled_29 (n := ⟨JM.radV n.i, n.o, n.s, n.t⟩) h.o h.s h.t
theorem Dr.n29 {n : N4} (h : Dr n) : N29 (rn n) := by
  obtain ⟨h1, h2, h3⟩ := h.b
  exact ⟨by omega, by omega, by omega⟩
theorem n29_1 : N29 ⟨1, 1, 1, 1⟩ := ⟨by decide, by decide, by decide⟩
theorem n29_0 : N29 ⟨1, 0, 0, 0⟩ := ⟨by decide, by decide, by decide⟩
/-! the bag beside a growing list of ints -/
theorem Bag.updL {H : Hp} {b D : Addr} (h : Bag H b) (hD : D ≠ b) {ms : List Int} (hl : ms.length ≤ 63) : Bag (upd H D (.lst (ms.map V.int))) b := by
  obtain ⟨c, cells, i, r, m, o⟩ := h
  by_cases e : c = D
  · subst e
    exact ⟨c, ms, i, r, m, by rw [upd_ne (Ne.symm hD)]; exact o.at_, upd_same, o.ne, hl, o.mb⟩
  · exact ⟨c, cells, i, r, m, by rw [upd_ne (Ne.symm hD)]; exact o.at_, by rw [upd_ne e]; exact o.ce, o.ne, o.len, o.mb⟩
/-! any ring -/
def spRingU (K : PySem.W.Frag) : Sp := fun vs H Q _ => ∃ r x, vs = [x] ∧ JM.wf r ∧ dep r ≤ 3 ∧ isSpec r H x ∧ ∀ a H', Same H H' → ROb K H' a r → Q (.ref a) H'
theorem g_ringU (z : Z K mg base) : GF PW w K mg base 10 "_law_ring" (spRingU K) := by
  have G0 := g_ring (w := w) z .frac trivial (by decide)
  refine ⟨?_, G0.m, G0.kp⟩
  intro A outer s H us vs Q E hr e0 rv h
  obtain ⟨r, x, e, w1, d1, i1, q⟩ := h
  have G1 := g_ring (w := w) z r w1 (by omega)
  exact G1.f A outer s H us vs Q E (hr.mono (by omega)) e0 rv ⟨x, e, i1, q⟩
end
end J

/-! the law: the second part of a turn (printed by genH2.py) -/
namespace J
open PySem PySem.Spec PyProof.Rows L2
open JM (RS num dep N4 NF)
section
variable {X : Cx}
theorem du_or : PySem.dunder (Operator.BitOr.info.2) = ("__or__" : Str) := by kernel_rfl
theorem du_and : PySem.dunder (Operator.BitAnd.info.2) = ("__and__" : Str) := by kernel_rfl
theorem op_orR (z : Z X.K X.mg X.base) (hr : Room 6 X.A) : OpR X (binaryOp .BitOr) (rO (CR X.K) (spROr X.K)) :=
  op_bin (by rw [du_or]; exact (He.meth_ok (c_meth_Realm_or z.c)).at_) (c_self_Realm z.c) (He.meth_ok (c_meth_Realm_or z.c)).fn (r_or z) hr pass0
theorem op_andR (z : Z X.K X.mg X.base) (hr : Room 6 X.A) : OpR X (binaryOp .BitAnd) (rO (CR X.K) (spRAnd X.K)) :=
  op_bin (by rw [du_and]; exact (He.meth_ok (c_meth_Realm_and z.c)).at_) (c_self_Realm z.c) (He.meth_ok (c_meth_Realm_and z.c)).fn (r_and z) hr pass0
theorem op_eqR (z : Z X.K X.mg X.base) (hr : Room 1 X.A) : OpR X (compareOp .Eq) (rO (CR X.K) (spREq X.K)) :=
  op_cmp (fun _ _ => rfl) (He.meth_ok (c_meth_Realm_eq z.c)).at_ (He.meth_ok (c_meth_Realm_eq z.c)).fn (r_eq z) hr pass0
theorem op_inR (z : Z X.K X.mg X.base) (hr : Room 4 X.A) : OpR X (compareOp .In) (rIn_ (CR X.K) false (spRC X.K)) :=
  op_in_ (He.meth_ok (c_meth_Realm_contains z.c)).at_ (He.meth_ok (c_meth_Realm_contains z.c)).fn (r_con z) hr pass0
theorem op_ninR (z : Z X.K X.mg X.base) (hr : Room 4 X.A) : OpR X (compareOp .NotIn) (rIn_ (CR X.K) true (spRC X.K)) :=
  op_nin_ (He.meth_ok (c_meth_Realm_contains z.c)).at_ (He.meth_ok (c_meth_Realm_contains z.c)).fn (r_con z) hr pass0
end
def forB : Stmt → List Stmt
  | .For _ _ b _ _ => b
  | _ => []
/-- the body of the law's loop -/
abbrev lbody : List Stmt := (match dFlaw.body with
  | [_, f, _] => forB f
  | _ => [])
abbrev lawN : List Str := ["_law_script", "_law_bag_here", "_law_turn", "_law_one", "_law_two", "_law_three", "_law_a", "_law_b", "_law_join", "_law_c", "_law_d", "_law_o", "_law_s", "_law_t", "_law_first", "_law_second", "_law_spec", "_law_ring_here", "_law_number"]
theorem sc_law : FnScope lawN ["_law_script"] dFlaw.scope := ⟨rfl, rfl, rfl, by decide +kernel, rfl, by decide +kernel, by decide +kernel⟩
def Shp (b : Addr) (σ : L2.St) : Prop := ∃ v0 v2 v3 v4 v5 v6 v7 v8 v9 v10 v11 v12 v13 v14 v15 v16 v17 v18 : Option V, σ = [v0, some (.ref b), v2, v3, v4, v5, v6, v7, v8, v9, v10, v11, v12, v13, v14, v15, v16, v17, v18]
section
variable {w : World} {K : PySem.W.Frag} {mg : Str → Option Value} {base : Heap}
abbrev lawX (w : World) (K : PySem.W.Frag) (mg : Str → Option Value) (base : Heap) (cdv : Value) (A : Around) (outer : List Env) (s : Shared) (H : Hp) (E : XK) : Cx := (cxOf CX0 PW w K mg base lawN dFlaw.qual dFlaw.scope (dFlaw.at_ K) cdv A outer s H E).nox
theorem law3 (z : Z K mg base) (cdv : Value) (A : Around) (outer : List Env) (s : Shared) (H0 : Hp) (E : XK) (hr : Room 10 (A.deeper (envOfC dFlaw.qual dFlaw.scope s.heap.objs.size (dFlaw.at_ K) cdv))) : ∃ t, PSs (lawX w K mg base cdv A outer s H0 E) (lbody.drop 9) t ∧
    ∀ (D : Ends) (H : Hp) (bg a b j : Addr) (m n : N4) (v0 v2 v3 v4 v5 v9 v10 v11 v12 v13 v14 v15 v16 v17 v18 : Option V), Bag H bg → NF m → NF n →
      IsRealm K H a m → IsRealm K H b n → IsRealm K H j (JM.orN m n) → (∀ σ' H', Shp bg σ' → Ch bg H H' → D.nx σ' H') →
      t D [v0, some (.ref bg), v2, v3, v4, v5, some (.ref a), some (.ref b), some (.ref j), v9, v10, v11, v12, v13, v14, v15, v16, v17, v18] H := by
  have GSA : GF PW w K mg base 9 "_law_samples" spSamp := g_samp z
  have GRU : GF PW w K mg base 10 "_law_ring" (spRingU K) := g_ringU z
  refine ⟨_, pss_one (ps_for PassesOwn.never rfl (pi_list (pe_cf GSA (hr.mono (by decide)) (by rfl) pass0 (pa_cons (pv 1) pa_nil))) (pg_name (i := 16) sc_law.nd rfl (.inl rfl)) (pss_cons (ps_set (i := 17) sc_law.nd rfl (.inl rfl) (pe_cf GRU (hr.mono (by decide)) (by rfl) pass0 (pa_cons (pv 16) pa_nil))) (pss_one (ps_if (pw_and (pw_or (pt_cmpR (op_inR z (hr.mono (by decide))) (pv 17) (pv 6) rfl) (pw_or1 (pt_cmpR (op_inR z (hr.mono (by decide))) (pv 17) (pv 7) rfl))).pt (pw_and1 (pt_cmpR (op_ninR z (hr.mono (by decide))) (pv 17) (pv 8) rfl))).pt (pss_one (ps_ret pe_bl)) pss_nil)))), ?_⟩
  intro D H bg a b j m n v0 v2 v3 v4 v5 v9 v10 v11 v12 v13 v14 v15 v16 v17 v18 hb na nb ra rb rj fin
  refine ⟨_, rfl, bg, rfl, hb, fun p xs H1 hp hpb hlen hall c1 => ⟨p, rfl, ⟨_, SqL.of hp⟩, ?_⟩⟩
  have ra1 := ra.keepT c1.t
  have rb1 := rb.keepT c1.t
  have rj1 := rj.keepT c1.t
  refine for_list (xs := xs) (fun i σ H' => Same H1 H' ∧ ∃ u16 u17 : Option V, σ = [v0, some (.ref bg), v2, v3, v4, v5, some (.ref a), some (.ref b), some (.ref j), v9, v10, v11, v12, v13, v14, v15, u16, u17, v18]) ⟨fun _ _ e => e, v16, v17, rfl⟩ (fun i σ H' _ h => SqL.of (h.1 _ _ hp)) ?_ ?_
  · rintro i x σ H' hx ⟨k, u16, u17, rfl⟩
    obtain ⟨r, w1, dr, sp⟩ := hall x (List.mem_of_getElem? hx)
    refine ⟨_, rfl, r, x, rfl, w1, dr, sp.same k, fun q H2 k2 oq => ?_⟩
    have ra2 := (ra1.same k).same k2
    have rb2 := (rb1.same k).same k2
    have rj2 := (rj1.same k).same k2
    have ok := JM.num_ok w1
    refine ⟨_, rfl, _, rfl, in_r ra2 oq dr fun c1 H3 k3 e1 => ⟨_, rfl, ?_⟩⟩
    cases c1 with
    | true =>
      have hin := JM.ring_or ok na nb (.inl (e1.mp rfl))
      refine iteT (iteT ⟨_, rfl, _, rfl, in_r (rj2.same k3) (oq.same k3) dr fun c H5 k5 e => ⟨_, rfl, ?_⟩⟩)
      have e := e.mpr hin
      subst e
      exact iteF ⟨Same.trans (Same.trans (Same.trans k k2) k3) k5, some x, some (.ref q), rfl⟩
    | false =>
      refine iteF ⟨_, rfl, _, rfl, in_r (rb2.same k3) (oq.same k3) dr fun c2 H4 k4 e2 => ⟨_, rfl, ?_⟩⟩
      cases c2 with
      | true =>
        have hin := JM.ring_or ok na nb (.inr (e2.mp rfl))
        refine iteT ⟨_, rfl, _, rfl, in_r ((rj2.same k3).same k4) ((oq.same k3).same k4) dr fun c H5 k5 e => ⟨_, rfl, ?_⟩⟩
        have e := e.mpr hin
        subst e
        exact iteF ⟨Same.trans (Same.trans (Same.trans (Same.trans k k2) k3) k4) k5, some x, some (.ref q), rfl⟩
      | false => exact iteF (iteF ⟨Same.trans (Same.trans (Same.trans k k2) k3) k4, some x, some (.ref q), rfl⟩)
  · rintro σ H' ⟨k, u16, u17, rfl⟩
    exact fin _ _ ⟨v0, v2, v3, v4, v5, some (.ref a), some (.ref b), some (.ref j), v9, v10, v11, v12, v13, v14, v15, u16, u17, v18, rfl⟩ (c1.trans (Ch.ofS c1.bag k))

theorem bne_self {b c : Bool} (h : b = c) : (!decide (V.bl b = V.bl c)) = false := by
  rw [h, decide_eq_true rfl]
  rfl
theorem aw_rd {σ : L2.St} {H : Hp} {Q : VK} {i j k : Nat} {a b c : Addr} {m n l : N4} (z : Z K mg base) (ha : σ[i]? = some (some (.ref a))) (hb : σ[j]? = some (some (.ref b))) (hc : σ[k]? = some (some (.ref c))) (ra : IsRealm K H a m) (rb : IsRealm K H b n) (rc : IsRealm K H c l)
    (q : ∀ w H', Same H H' → (w = true ↔ JM.within m l ∧ JM.within n l) → Q (.bl w) H') :
    tAndV (tMe K "within" (mR K "within") (spRW K) (tVar i) (tCons (tVar k) tNil)) (tMe K "within" (mR K "within") (spRW K) (tVar j) (tCons (tVar k) tNil)) σ H Q := by
  refine wi_rd z ha hc ra rc fun w1 H1 k1 e1 => ⟨_, rfl, ?_⟩
  cases w1 with
  | true => exact iteT (wi_rd z hb hc (rb.same k1) (rc.same k1) fun w2 H2 k2 e2 => q w2 H2 (Same.trans k1 k2) (by rw [e2]; exact ⟨fun h => ⟨e1.mp rfl, h⟩, fun h => h.2⟩))
  | false => exact iteF (q false H1 k1 ⟨fun h => (by cases h), fun h => (by cases e1.mpr h.1)⟩)
theorem law2 (z : Z K mg base) (cdv : Value) (A : Around) (outer : List Env) (s : Shared) (H0 : Hp) (E : XK) (hr : Room 10 (A.deeper (envOfC dFlaw.qual dFlaw.scope s.heap.objs.size (dFlaw.at_ K) cdv))) : ∃ t, PSs (lawX w K mg base cdv A outer s H0 E) (lbody.drop 4) t ∧
    ∀ (D : Ends) (H : Hp) (bg p1 p2 a b j c : Addr) (n1 n2 mc : N4) (v0 v2 v5 v10 v11 v12 v13 v14 v15 v16 v17 v18 : Option V), Bag H bg → Dr n1 → Dr n2 → H p1 = some (.tup (n4V n1)) → H p2 = some (.tup (n4V n2)) →
      IsRealm K H a (rn n1) → IsRealm K H b (rn n2) → IsRealm K H j (JM.orN (rn n1) (rn n2)) → IsRealm K H c mc → NF mc → (∀ σ' H', Shp bg σ' → Ch bg H H' → D.nx σ' H') →
      t D [v0, some (.ref bg), v2, some (.ref p1), some (.ref p2), v5, some (.ref a), some (.ref b), some (.ref j), some (.ref c), v10, v11, v12, v13, v14, v15, v16, v17, v18] H := by
  have GS2 : GF PW w K mg base 2 "_law_same" (spSame K 2) := g_same z 2
  have GTO : GF PW w K mg base 3 "_law_told" (spTold K) := g_told z
  have GSE : GF PW w K mg base 4 "_law_settle" spLSettle := g_lsettle z
  have GLC : GF PW w K mg base 2 "_law_lcm" spLcm := g_llcm z
  obtain ⟨t3, T3, h3⟩ := law3 (w := w) z cdv A outer s H0 E hr
  refine ⟨_, pss_cons (ps_if (pt_not (pt_val (pe_cf GS2 (hr.mono (by decide)) (by rfl) pass0 (pa_cons (pe_lst (pa_cons (pe_cmpR (op_eqR z (hr.mono (by decide))) (pv 8) (pe_op (op_orR z (hr.mono (by decide))) (pv 7) (pv 6)) (nomark _)) (pa_cons (pe_me (pl := _) (pv 6) (r_within z) (hr.mono (by decide)) pass0 (pa_cons (pv 8) pa_nil)) (pa_cons (pe_me (pl := _) (pv 7) (r_within z) (hr.mono (by decide)) pass0 (pa_cons (pv 8) pa_nil)) (pa_cons (pe_cmpR (op_eqR z (hr.mono (by decide))) (pe_op (op_orR z (hr.mono (by decide))) (pv 6) (pv 6)) (pv 6) (nomark _)) (pa_cons (pe_cmpR (op_eqR z (hr.mono (by decide))) (pe_op (op_orR z (hr.mono (by decide))) (pv 6) (pe_stat0 (pl := _) (pe_glob (v := .ref (He.ga K "Realm")) (by rfl) (z.cls (c_glo_Realm z.c)) rfl) (cread_of (c_cread_Realm z.c)) (stat_of (c_st_Realm_nowhere z.c)) (m_nw z) (hr.mono (by decide)) pass0)) (pv 6) (nomark _)) (pa_cons (pe_cmpR (op_eqR z (hr.mono (by decide))) (pe_op (op_orR z (hr.mono (by decide))) (pe_stat0 (pl := _) (pe_glob (v := .ref (He.ga K "Realm")) (by rfl) (z.cls (c_glo_Realm z.c)) rfl) (cread_of (c_cread_Realm z.c)) (stat_of (c_st_Realm_nowhere z.c)) (m_nw z) (hr.mono (by decide)) pass0) (pv 6)) (pv 6) (nomark _)) (pa_cons (pe_cmpR (op_eqR z (hr.mono (by decide))) (pe_op (op_orR z (hr.mono (by decide))) (pv 6) (pe_stat0 (pl := _) (pe_glob (v := .ref (He.ga K "Realm")) (by rfl) (z.cls (c_glo_Realm z.c)) rfl) (cread_of (c_cread_Realm z.c)) (stat_of (c_st_Realm_everywhere z.c)) (m_ev z) (hr.mono (by decide)) pass0)) (pe_stat0 (pl := _) (pe_glob (v := .ref (He.ga K "Realm")) (by rfl) (z.cls (c_glo_Realm z.c)) rfl) (cread_of (c_cread_Realm z.c)) (stat_of (c_st_Realm_everywhere z.c)) (m_ev z) (hr.mono (by decide)) pass0) (nomark _)) pa_nil)))))))) (pa_cons (pe_op op_rep (pe_lst (pa_cons pe_bl pa_nil)) pe_int) pa_nil))))) (pss_one (ps_ret pe_bl)) pss_nil)
    (pss_cons (ps_if (pw_or (pt_cmpR op_ne (pe_me (pl := _) (pv 8) (r_within z) (hr.mono (by decide)) pass0 (pa_cons (pv 9) pa_nil)) (pe_and (pe_me (pl := _) (pv 6) (r_within z) (hr.mono (by decide)) pass0 (pa_cons (pv 9) pa_nil)) (pe_one (pe_me (pl := _) (pv 7) (r_within z) (hr.mono (by decide)) pass0 (pa_cons (pv 9) pa_nil)))) (nomark _)) (pw_or1 (pt_cmpR op_ne (pe_me (pl := _) (pv 6) (r_within z) (hr.mono (by decide)) pass0 (pa_cons (pv 7) pa_nil)) (pe_cmpR (op_eqR z (hr.mono (by decide))) (pv 8) (pv 7) (nomark _)) (nomark _)))).pt (pss_one (ps_ret pe_bl)) pss_nil)
    (pss_cons (ps_asg (pe_cf GTO (hr.mono (by decide)) (by rfl) pass0 (pa_cons (pv 8) pa_nil)) (pg_tup rfl (pgs_cons (pg_name (i := 10) sc_law.nd rfl (.inl rfl)) (pgs_cons (pg_name (i := 11) sc_law.nd rfl (.inl rfl)) (pgs_cons (pg_name (i := 12) sc_law.nd rfl (.inl rfl)) (pgs_cons (pg_name (i := 13) sc_law.nd rfl (.inl rfl)) pgs_nil))))))
    (pss_cons (ps_par (i := 14) (j := 15) rfl sc_law.nd rfl rfl (by decide) rfl rfl (pa_cons (pe_cf GSE (hr.mono (by decide)) (by rfl) pass0 (pa_cons (pv 3) pa_nil)) (pa_cons (pe_cf GSE (hr.mono (by decide)) (by rfl) pass0 (pa_cons (pv 4) pa_nil)) pa_nil)) (by rfl))
    (pss_cons (ps_if (pw_and (pt_cmpR op_ne (pe_ix ix_tup (pv 14) pe_int (fun _ _ => rfl)) pe_int (nomark _)) (pw_and (pt_cmpR op_ne (pe_ix ix_tup (pv 15) pe_int (fun _ _ => rfl)) pe_int (nomark _)) (pw_and1 (pt_not (pt_val (pe_cf GS2 (hr.mono (by decide)) (by rfl) pass0 (pa_cons (pe_tup (pa_cons (pv 11) (pa_cons (pv 12) (pa_cons (pv 13) pa_nil)))) (pa_cons (pe_tup (pa_cons (pe_cf GLC (hr.mono (by decide)) (by rfl) pass0 (pa_cons (pe_ix ix_tup (pv 14) pe_int (fun _ _ => rfl)) (pa_cons (pe_ix ix_tup (pv 15) pe_int (fun _ _ => rfl)) pa_nil))) (pa_cons (pe_cf GLC (hr.mono (by decide)) (by rfl) pass0 (pa_cons (pe_ix ix_tup (pv 14) pe_int (fun _ _ => rfl)) (pa_cons (pe_ix ix_tup (pv 15) pe_int (fun _ _ => rfl)) pa_nil))) (pa_cons (pe_cf GLC (hr.mono (by decide)) (by rfl) pass0 (pa_cons (pe_ix ix_tup (pv 14) pe_int (fun _ _ => rfl)) (pa_cons (pe_ix ix_tup (pv 15) pe_int (fun _ _ => rfl)) pa_nil))) pa_nil)))) pa_nil)))))))).pt (pss_one (ps_ret pe_bl)) pss_nil)
    T3)))), ?_⟩
  intro D H bg p1 p2 a b j c n1 n2 mc v0 v2 v5 v10 v11 v12 v13 v14 v15 v16 v17 v18 hb d1 d2 h1 h2 ra rb rj rc hc fin
  have a29 := d1.n29
  have b29 := d2.n29
  have na := d1.nf
  have nb := d2.nf
  -- the seven
  refine ⟨_, rfl, _, rfl, _, rfl, or_r rb ra b29 a29 fun c1 H1 k1 r1 => eq_r (rj.same k1) r1 ?_⟩
  rw [JM.or_comm nb na, decide_eq_true rfl]
  have ra1 := ra.same k1
  have rb1 := rb.same k1
  have rj1 := rj.same k1
  refine wi_rd z rfl rfl ra1 rj1 fun w2 H2 k2 e2 => ?_
  have e2 := e2.mpr (JM.within_left na nb)
  subst e2
  refine wi_rd z rfl rfl (rb1.same k2) (rj1.same k2) fun w3 H3 k3 e3 => ?_
  have e3 := e3.mpr (JM.within_right na nb)
  subst e3
  have k23 := Same.trans k2 k3
  have ra3 := ra1.same k23
  refine ⟨_, rfl, _, rfl, or_r ra3 ra3 a29 a29 fun c4 H4 k4 r4 => ⟨_, rfl, eq_r r4 (ra3.same k4) ?_⟩⟩
  rw [JM.or_self na, decide_eq_true rfl]
  have ra4 := ra3.same k4
  refine ⟨_, rfl, rfl, rfl, fun c5 H5 k5 r5 => or_r (ra4.same k5) r5 a29 n29_1 fun c6 H6 k6 r6 => ⟨_, rfl, eq_r r6 ((ra4.same k5).same k6) ?_⟩⟩
  rw [JM.or_none_right na, decide_eq_true rfl]
  have ra6 := (ra4.same k5).same k6
  refine ⟨rfl, rfl, fun c7 H7 k7 r7 => ⟨_, rfl, or_r r7 (ra6.same k7) n29_1 a29 fun c8 H8 k8 r8 => ⟨_, rfl, eq_r r8 ((ra6.same k7).same k8) ?_⟩⟩⟩
  rw [JM.or_none_left na, decide_eq_true rfl]
  have ra8 := (ra6.same k7).same k8
  refine ⟨_, rfl, rfl, rfl, fun c9 H9 k9 r9 => or_r (ra8.same k9) r9 a29 n29_0 fun c10 H10 k10 r10 => ⟨rfl, rfl, fun c11 H11 k11 r11 => eq_r (r10.same k11) r11 ?_⟩⟩
  rw [JM.or_all na, decide_eq_true rfl]
  have K11 := Same.trans (Same.trans (Same.trans (Same.trans (Same.trans (Same.trans (Same.trans (Same.trans (Same.trans k1 k23) k4) k5) k6) k7) k8) k9) k10) k11
  refine ⟨lnb rfl, fun u12 hu12 => ?_⟩
  have k12 := same_new (o := .lst [V.bl true, V.bl true, V.bl true, V.bl true, V.bl true, V.bl true, V.bl true]) hu12
  refine ⟨lnb rfl, fun u13 hu13 => ?_⟩
  have k13 := same_new (o := .lst [V.bl true]) hu13
  refine ⟨u13, 7, _, rfl, rfl, upd_same, by decide, by decide, Nat.le_trans (show 1 * 7 ≤ 1000 by decide) (le_line (Nat.le_refl 1000)), fun u14 hu14 => ?_⟩
  have k14 := same_new (o := .lst (List.replicate (Int.toNat 7) [V.bl true]).flatten) hu14
  refine ⟨_, _, rfl, .inr (.inr ⟨u12, u14, _, _, rfl, rfl, .inl ⟨k14 _ _ (k13 _ _ upd_same), upd_same⟩, rfl, Nat.le_of_ble_eq_true rfl, ?_⟩), fun H15 k15 => ⟨_, rfl, iteNS0 ?_⟩⟩
  · intro i x y hx hy
    have hx := pick_all (Pp := fun v => v = V.bl true) (all_cons rfl (all_cons rfl (all_cons rfl (all_cons rfl (all_cons rfl (all_cons rfl (all_cons rfl all_nil))))))) hx
    have hy := pick_all (Pp := fun v => v = V.bl true) (xs := (List.replicate (Int.toNat 7) [V.bl true]).flatten) (all_cons rfl (all_cons rfl (all_cons rfl (all_cons rfl (all_cons rfl (all_cons rfl (all_cons rfl all_nil))))))) hy
    exact .inl ⟨true, hx, hy⟩
  have K15 := Same.trans (Same.trans (Same.trans (Same.trans K11 k12) k13) k14) k15
  have ra15 := ra.same K15
  have rb15 := rb.same K15
  have rj15 := rj.same K15
  have rc15 := rc.same K15
  -- both laws of within
  refine wi_rd z rfl rfl rj15 rc15 fun w16 H16 k16 e16 => ?_
  refine aw_rd z rfl rfl rfl (ra15.same k16) (rb15.same k16) (rc15.same k16) fun w17 H17 k17 e17 => ?_
  have K17 := Same.trans (Same.trans K15 k16) k17
  have ow := JM.or_within na nb hc
  refine ⟨rfl, _, rfl, iteBF (bne_self ?_) ?_⟩
  · rw [Bool.eq_iff_iff, e16, e17, ow]
  refine wi_rd z rfl rfl (ra.same K17) (rb.same K17) fun w18 H18 k18 e18 => ?_
  have K18 := Same.trans K17 k18
  refine ⟨_, rfl, _, rfl, eq_r (rj.same K18) (rb.same K18) ⟨rfl, _, rfl, iteBF (bne_self ?_) ?_⟩⟩
  · rw [Bool.eq_iff_iff, e18, decide_eq_true_eq]
    exact JM.within_iff_or na nb
  -- the numbers
  refine ⟨_, rfl, j, _, rfl, rj.same K18, fun u19 H19 hu19 k19 ht => ⟨u19, _, rfl, SqT.of ht, rfl, _, _, rfl, _, _, rfl, _, _, rfl, _, _, rfl, rfl, ?_⟩⟩
  have K19 := Same.trans K18 k19
  refine ⟨_, rfl, p1, n1, rfl, K19 _ _ h1, d1.i, fun u20 H20 k20 hf => ⟨_, rfl, p2, n2, rfl, k20 _ _ (K19 _ _ h2), d2.i, fun u21 H21 k21 hg => ⟨_, _, rfl, ?_⟩⟩⟩
  have K21 := Same.trans (Same.trans K19 k20) k21
  have hf := k21 _ _ hf
  have go : ∀ H22, Same H21 H22 → t3 D [v0, some (.ref bg), v2, some (.ref p1), some (.ref p2), v5, some (.ref a), some (.ref b), some (.ref j), some (.ref c), some (nt (JM.orN (rn n1) (rn n2)).i), some (nt (JM.orN (rn n1) (rn n2)).o), some (nt (JM.orN (rn n1) (rn n2)).s), some (nt (JM.orN (rn n1) (rn n2)).t), some (.ref u20), some (.ref u21), v16, v17, v18] H22 := fun H22 k22 =>
    h3 D H22 bg a b j (rn n1) (rn n2) _ _ _ _ _ _ _ _ _ _ _ _ _ _ _ (hb.same (Same.trans K21 k22)) na nb (ra.same (Same.trans K21 k22)) (rb.same (Same.trans K21 k22)) (rj.same (Same.trans K21 k22)) fun σ' H' sh ch => fin σ' H' sh ((Ch.ofS hb (Same.trans K21 k22)).trans ch)
  have kr : Same H21 H21 := fun _ _ e => e
  refine ⟨_, rfl, u20, _, _, _, rfl, rfl, SqT.of hf, atI_nat (j := 1) rfl, rfl, _, rfl, ?_⟩
  have x1 : (!decide (nt (rn n1).o = V.int 1)) = !decide ((rn n1).o = 1) := by rw [dec_one]
  have x2 : (!decide (nt (rn n2).o = V.int 1)) = !decide ((rn n2).o = 1) := by rw [dec_one]
  by_cases o1 : (rn n1).o = 1
  · refine iteBF (x1.trans (by rw [decide_eq_true o1] <;> rfl)) (iteF (go H21 kr))
  refine iteBT (x1.trans (by rw [decide_eq_false o1] <;> rfl)) ⟨_, rfl, u21, _, _, _, rfl, rfl, SqT.of hg, atI_nat (j := 1) rfl, rfl, _, rfl, ?_⟩
  by_cases o2 : (rn n2).o = 1
  · refine iteBF (x2.trans (by rw [decide_eq_true o2] <;> rfl)) (iteF (go H21 kr))
  refine iteBT (x2.trans (by rw [decide_eq_false o2] <;> rfl)) ?_
  obtain ⟨q1, q2, q3⟩ := JM.or_nums na nb o1 o2
  have b1 := a29.o
  have b2 := a29.s
  have b3 := a29.t
  refine ⟨_, rfl, _, rfl, _, rfl, lnb rfl, fun u22 hu22 => ?_⟩
  have k22 := same_new (o := .tup [nt (JM.orN (rn n1) (rn n2)).o, nt (JM.orN (rn n1) (rn n2)).s, nt (JM.orN (rn n1) (rn n2)).t]) hu22
  have hf := k22 _ _ hf
  have hg := k22 _ _ hg
  refine ⟨_, rfl, u20, _, _, _, rfl, rfl, SqT.of hf, atI_nat (j := 1) rfl, _, rfl, u21, _, _, _, rfl, rfl, SqT.of hg, atI_nat (j := 1) rfl, (rn n1).o, (rn n2).o, rfl, b1, ?_⟩
  refine ⟨_, rfl, u20, _, _, _, rfl, rfl, SqT.of hf, atI_nat (j := 2) rfl, _, rfl, u21, _, _, _, rfl, rfl, SqT.of hg, atI_nat (j := 2) rfl, (rn n1).s, (rn n2).s, rfl, b2, ?_⟩
  refine ⟨_, rfl, u20, _, _, _, rfl, rfl, SqT.of hf, atI_nat (j := 3) rfl, _, rfl, u21, _, _, _, rfl, rfl, SqT.of hg, atI_nat (j := 3) rfl, (rn n1).t, (rn n2).t, rfl, b3, lnb rfl, fun u23 hu23 => ?_⟩
  have k23 := same_new (o := .tup [nt (Nat.lcm (rn n1).o (rn n2).o), nt (Nat.lcm (rn n1).s (rn n2).s), nt (Nat.lcm (rn n1).t (rn n2).t)]) hu23
  refine ⟨_, _, rfl, .inr (.inr ⟨u22, u23, _, _, rfl, rfl, .inr ⟨k23 _ _ upd_same, upd_same⟩, rfl, Nat.le_of_ble_eq_true rfl, ?_⟩), fun H24 k24 => ⟨_, rfl, ?_⟩⟩
  · intro i x y hx hy
    refine .inr (.inl ?_)
    match i, hx, hy with
    | 0, hx, hy => exact ⟨_, (Option.some.inj hx).symm.trans (by rw [q1]), (Option.some.inj hy).symm⟩
    | 1, hx, hy => exact ⟨_, (Option.some.inj hx).symm.trans (by rw [q2]), (Option.some.inj hy).symm⟩
    | 2, hx, hy => exact ⟨_, (Option.some.inj hx).symm.trans (by rw [q3]), (Option.some.inj hy).symm⟩
    | i + 3, hx, hy => simp at hx
  · exact iteNS0 (go H24 (Same.trans (Same.trans k22 k23) k24))
end
end J

/-! the law (printed by genH3.py) -/
namespace J
open PySem PySem.Spec PyProof.Rows L2
open JM (RS num dep N4 NF)
section
variable {w : World} {K : PySem.W.Frag} {mg : Str → Option Value} {base : Heap}
theorem Bag.updN {H : Hp} {b D : Addr} (h : Bag H b) (hD : D ≠ b) {ms : List Nat} (hl : ms.length ≤ 63) : Bag (upd H D (.lst (ms.map ntV))) b := by
  have e : ms.map ntV = (ms.map fun n : Nat => (n : Int)).map V.int := by rw [List.map_map]; rfl
  rw [e]
  exact h.updL hD (by rw [List.length_map]; exact hl)
abbrev teC : TE := tOp (rI CMul fun i j => .int (i * j)) (tVar 18) (tCR spPick (tCons (tVar 1) (tCons (tLst (tCons (tC (.int 1)) (tCons (tC (.int 2)) tNil))) tNil)))
theorem law1 (z : Z K mg base) (cdv : Value) (A : Around) (outer : List Env) (s : Shared) (H0 : Hp) (E : XK) (hr : Room 10 (A.deeper (envOfC dFlaw.qual dFlaw.scope s.heap.objs.size (dFlaw.at_ K) cdv))) : ∃ t, PSs (lawX w K mg base cdv A outer s H0 E) lbody t ∧
    ∀ (D : Ends) (H : Hp) (bg : Addr) (v0 v2 v3 v4 v5 v6 v7 v8 v9 v10 v11 v12 v13 v14 v15 v16 v17 v18 : Option V), Bag H bg → (∀ σ' H', Shp bg σ' → Ch bg H H' → D.nx σ' H') →
      t D [v0, some (.ref bg), v2, v3, v4, v5, v6, v7, v8, v9, v10, v11, v12, v13, v14, v15, v16, v17, v18] H := by
  have GDW : GF PW w K mg base 3 "_law_drawn_realm" spDrawn := g_drawn z
  have GLR : GF PW w K mg base 6 "_law_realm" (spLRealm K) := g_lrealm z
  have GP : GF PW w K mg base 2 "_law_pick" spPick := g_pick z
  have GTO : GF PW w K mg base 3 "_law_told" (spTold K) := g_told z
  obtain ⟨t2, T2, h2⟩ := law2 (w := w) z cdv A outer s H0 E hr
  refine ⟨_, (pss_cons (ps_par3 (i := 3) (j := 4) (l := 5) rfl sc_law.nd rfl rfl rfl (by decide) (by decide) (by decide) rfl rfl rfl (pa_cons (pe_cf GDW (hr.mono (by decide)) (by rfl) pass0 (pa_cons (pv 1) pa_nil)) (pa_cons (pe_cf GDW (hr.mono (by decide)) (by rfl) pass0 (pa_cons (pv 1) pa_nil)) (pa_cons (pe_cf GDW (hr.mono (by decide)) (by rfl) pass0 (pa_cons (pv 1) pa_nil)) pa_nil))) (by rfl))
    (pss_cons (ps_par (i := 6) (j := 7) rfl sc_law.nd rfl rfl (by decide) rfl rfl (pa_cons (pe_cf GLR (hr.mono (by decide)) (by rfl) pass0 (pa_cons (pv 3) pa_nil)) (pa_cons (pe_cf GLR (hr.mono (by decide)) (by rfl) pass0 (pa_cons (pv 4) pa_nil)) pa_nil)) (by rfl))
    (pss_cons (ps_set (i := 8) sc_law.nd rfl (.inl rfl) (pe_op (op_orR z (hr.mono (by decide))) (pv 6) (pv 7)))
    (pss_cons (ps_set (i := 9) sc_law.nd rfl (.inl rfl) (pe_cf GP (hr.mono (by decide)) (by rfl) pass0 (pa_cons (pv 1) (pa_cons (pe_lst (pa_cons (pe_cf GLR (hr.mono (by decide)) (by rfl) pass0 (pa_cons (pv 5) pa_nil)) (pa_cons (pe_op (op_andR z (hr.mono (by decide))) (pv 8) (pe_cf GLR (hr.mono (by decide)) (by rfl) pass0 (pa_cons (pv 5) pa_nil))) (pa_cons (pv 6) (pa_cons (pe_stat0 (pl := _) (pe_glob (v := .ref (He.ga K "Realm")) (by rfl) (z.cls (c_glo_Realm z.c)) rfl) (cread_of (c_cread_Realm z.c)) (stat_of (c_st_Realm_everywhere z.c)) (m_ev z) (hr.mono (by decide)) pass0) (pa_cons (pe_cf GLR (hr.mono (by decide)) (by rfl) pass0 (pa_cons (pe_callTy call_tuple_of (by rfl) (z.free (c_free_tuple z.c)) (by decide +kernel) (pa_cons (pe_op op_cat (pe_lst (pa_cons pe_int pa_nil)) (pe_lc (own := [("_law_number", 18)]) (g := gName 18) (tt := tYes) (te := teC) rfl sc_law.nd (pi_tup (pe_slice sl_tup (pe_cf GTO (hr.mono (by decide)) (by rfl) pass0 (pa_cons (pv 8) pa_nil)) (po_some pe_int) po_none)) (blkOk_by (by kernel_rfl)) (fun _ _ _ _ _ => pg_name sc_law.nd rfl (.inl rfl)) (fun _ _ _ _ _ => pts_nil) (fun _ _ _ _ _ => (pe_op op_mul (pv 18) (pe_cf GP (hr.mono (by decide)) (by rfl) pass0 (pa_cons (pv 1) (pa_cons (pe_lst (pa_cons pe_int (pa_cons pe_int pa_nil))) pa_nil))))))) pa_nil)) pa_nil)) pa_nil)))))) pa_nil))))
    T2)))), ?_⟩
  intro D H bg v0 v2 v3 v4 v5 v6 v7 v8 v9 v10 v11 v12 v13 v14 v15 v16 v17 v18 hb fin
  have nl : ∀ (n : N4) (xs : List V), HO.tup (n4V n) ≠ HO.lst xs := fun _ _ z => by cases z
  refine ⟨_, rfl, bg, rfl, hb, fun n1 p1 H1 i1 o1 s1 q1 e1 c1 => ⟨_, rfl, bg, rfl, c1.bag, fun n2 p2 H2 i2 o2 s2 q2 e2 c2 => ⟨_, rfl, bg, rfl, c2.bag, fun n3 p3 H3 i3 o3 s3 q3 e3 c3 => ⟨_, _, _, rfl, ?_⟩⟩⟩⟩
  have d1 : Dr n1 := ⟨i1, o1, s1, q1⟩
  have d2 : Dr n2 := ⟨i2, o2, s2, q2⟩
  have d3 : Dr n3 := ⟨i3, o3, s3, q3⟩
  have e1 := (c2.trans c3).t _ _ (nl n1) e1
  have e2 := c3.t _ _ (nl n2) e2
  refine ⟨_, rfl, p1, n1, rfl, e1, d1.i, fun a H4 _ k4 ra => ⟨_, rfl, p2, n2, rfl, k4 _ _ e2, d2.i, fun b H5 _ k5 rb => ⟨_, _, rfl, ?_⟩⟩⟩
  have c4 := Ch.ofS c3.bag k4
  have c5 := Ch.ofS c4.bag k5
  have ra := ra.same k5
  refine ⟨_, rfl, _, rfl, or_r ra rb d1.n29 d2.n29 fun j H6 k6 rj => ?_⟩
  have c6 := Ch.ofS c5.bag k6
  have C36 := c4.trans (c5.trans c6)
  refine ⟨_, rfl, ?_⟩
  refine ⟨_, rfl, p3, n3, rfl, C36.t _ _ (nl n3) e3, d3.i, fun r1 H7 _ k7 rr1 => ?_⟩
  have c7 := Ch.ofS c6.bag k7
  refine ⟨_, rfl, _, rfl, p3, n3, rfl, (C36.trans c7).t _ _ (nl n3) e3, d3.i, fun r2 H8 _ k8 rr2 => ?_⟩
  have c8 := Ch.ofS c7.bag k8
  have ji : (JM.orN (rn n1) (rn n2)).i < 2 ^ 14 := Nat.lt_trans (orN_lt (B := 50) (by decide) d1.nf.pos d1.ilt d2.ilt) (by decide)
  have ri : (rn n3).i < 2 ^ 14 := Nat.lt_trans d3.ilt (by decide)
  refine and_r ((rj.same k7).same k8) rr2 ji ri fun r3 H9 l9 k9 rr3 => ?_
  have c9 := Ch.ofS c8.bag k9
  refine ⟨_, rfl, rfl, rfl, fun r4 H10 k10 rr4 => ?_⟩
  have c10 := Ch.ofS c9.bag k10
  refine ⟨lnb rfl, fun u11 hu11 => ?_⟩
  have c11 := Ch.new (o := .lst [V.int 1]) c10.bag hu11
  have n11 := c10.bag.ne hu11
  have C7 := c7.trans (c8.trans (c9.trans (c10.trans c11)))
  refine ⟨_, rfl, j, _, rfl, rj.keepT C7.t, fun u12 H12 hu12 k12 ht => ⟨_, rfl, u12, _, rfl, SqT.of ht, cutne, fun u13 hu13 => ?_⟩⟩
  have c12 := Ch.ofS c11.bag k12
  have c13 := Ch.new (o := .tup (cutV (n4V (JM.orN (rn n1) (rn n2))) (some 1) none)) c12.bag hu13
  refine ⟨u13, rfl, ⟨_, SqT.of upd_same⟩, fun L hL => ?_⟩
  have nL := c13.bag.ne hL
  refine lc_tup (xs := [nt (JM.orN (rn n1) (rn n2)).o, nt (JM.orN (rn n1) (rn n2)).s, nt (JM.orN (rn n1) (rn n2)).t])
    (fun i H' => Ch bg (upd H12 u13 (.tup (cutV (n4V (JM.orN (rn n1) (rn n2))) (some 1) none))) H' ∧ i ≤ 3 ∧ ∃ ms : List Nat, H' L = some (.lst (ms.map ntV)) ∧ ms.length = i) ⟨Ch.new c13.bag hL, Nat.zero_le 3, [], upd_same, rfl⟩
    (fun i H' _ h => SqT.of (h.1.t _ _ (fun _ z => by cases z) upd_same)) ?_ ?_
  · rintro i x H' hx ⟨cc, hi, ms, hm, hlen⟩
    have hi3 : i < 3 := by
      rcases Nat.lt_or_ge i 3 with h | h
      · exact h
      · rw [List.getElem?_eq_none h] at hx; cases hx
    obtain ⟨n, rfl⟩ : ∃ n : Nat, x = nt n := pick_all (Pp := fun x => ∃ n : Nat, x = nt n) (all_cons ⟨_, rfl⟩ (all_cons ⟨_, rfl⟩ (all_cons ⟨_, rfl⟩ all_nil))) hx
    refine ⟨rfl, _, rfl, _, rfl, lnb rfl, fun u hu => ?_⟩
    have cu := Ch.new (o := .lst [V.int 1, V.int 2]) cc.bag hu
    refine ⟨bg, u, _, rfl, cu.bag, upd_same, cc.bag.ne hu, (fun h => by cases h), (show 2 < 2 ^ 29 by decide), fun i' y H2' hy hb' k' => ?_⟩
    have cp := Ch.of cu.bag hb' k'
    obtain ⟨m, rfl, hm2⟩ := pick_all (Pp := isN fun d => d ≤ 2) (all_cons ⟨1, rfl, by decide⟩ (all_cons ⟨2, rfl, by decide⟩ all_nil)) hy
    have hm' : H2' L = some (.lst (ms.map ntV)) := k' _ _ nL (same_new hu _ _ hm)
    have ctot := cc.trans (cu.trans cp)
    refine ⟨_, _, rfl, rfl, .inr ⟨by omega, by omega⟩, _, hm', ?_, ⟨?_, ?_, ?_⟩, hi3, ms ++ [n * m], ?_, ?_⟩
    · rw [List.length_map, hlen]
      have := le_line (n := 1000) (by decide)
      omega
    · have e : (ms.map ntV ++ [V.int ((n : Int) * (m : Int))]) = (ms ++ [n * m]).map ntV := by
        rw [List.map_append]
        rfl
      show Bag (upd H2' L (.lst (ms.map ntV ++ [V.int ((n : Int) * (m : Int))]))) bg
      rw [e]
      exact ctot.bag.updN nL (by rw [List.length_append]; show ms.length + 1 ≤ 63; omega)
    · intro a' o' na' ea
      have : a' ≠ L := fun z => by subst z; exact absurd (hL.symm.trans ea) (fun h => by cases h)
      rw [upd_ne this]
      exact ctot.k _ _ na' ea
    · intro a' o' na' ea
      have : a' ≠ L := fun z => by subst z; exact absurd (hL.symm.trans ea) (fun h => by cases h)
      rw [upd_ne this]
      exact ctot.t _ _ na' ea
    · rw [upd_same, List.map_append]
      rfl
    · rw [List.length_append]
      show ms.length + 1 = i + 1
      omega
  rintro H14 ⟨c14, _, ms, hm, hlen⟩
  obtain ⟨m1, m2, m3, rfl⟩ : ∃ m1 m2 m3, ms = [m1, m2, m3] := by
    match ms, hlen with
    | [m1, m2, m3], _ => exact ⟨m1, m2, m3, rfl⟩
  have h11 : H14 u11 = some (.lst [V.int 1]) := c14.k _ _ n11 (c13.k _ _ n11 (c12.k _ _ n11 upd_same))
  refine ⟨u11, L, _, _, rfl, rfl, h11, hm, Nat.le_trans (show 1 + 3 ≤ 1000 by decide) (le_line (Nat.le_refl 1000)), fun u15 hu15 => ?_⟩
  have c15 := Ch.new (o := .lst ([V.int 1] ++ [m1, m2, m3].map ntV)) c14.bag hu15
  refine ⟨u15, _, rfl, .inl ⟨SqL.of upd_same, fun u16 hu16 => ?_⟩⟩
  have c16 := Ch.new (o := .tup ([V.int 1] ++ [m1, m2, m3].map ntV)) c15.bag hu16
  refine ⟨u16, ⟨1, m1, m2, m3⟩, rfl, upd_same, (show 1 ∈ JM.dL by decide), fun r5 H17 _ k17 rr5 => ?_⟩
  have c17 := Ch.ofS c16.bag k17
  refine ⟨lnb rfl, fun u18 hu18 => ?_⟩
  have c18 := Ch.new (o := .lst [V.ref r1, V.ref r3, V.ref a, V.ref r4, V.ref r5]) c17.bag hu18
  refine ⟨bg, u18, _, rfl, c18.bag, upd_same, c17.bag.ne hu18, (fun h => by cases h), (show 5 < 2 ^ 29 by decide), fun ix x H19 hx hb19 k19 => ?_⟩
  have c19 := Ch.of c18.bag hb19 k19
  have Q18 := c11.trans (c12.trans (c13.trans (c14.trans (c15.trans (c16.trans (c17.trans (c18.trans c19)))))))
  have Q10 := c10.trans Q18
  have Q9 := c9.trans Q10
  have Q8 := c8.trans Q9
  have Q7 := c7.trans Q8
  have Q6 := c6.trans Q7
  have Q5 := c5.trans Q6
  have Q4 := c4.trans Q5
  obtain ⟨c, mc, rfl, rc⟩ := pick_all (Pp := fun x => ∃ (c : Addr) (m : N4), x = .ref c ∧ IsRealm K H19 c m)
    (all_cons ⟨r1, _, rfl, rr1.keepT Q8.t⟩ (all_cons ⟨r3, _, rfl, rr3.keepT Q10.t⟩ (all_cons ⟨a, _, rfl, ra.keepT Q6.t⟩ (all_cons ⟨r4, _, rfl, rr4.keepT Q18.t⟩ (all_cons ⟨r5, _, rfl, rr5.keepT (c18.trans c19).t⟩ all_nil))))) hx
  have nc : NF mc := by
    obtain ⟨_, _, o⟩ := rc
    exact o.nf
  exact h2 D H19 bg p1 p2 a b j c n1 n2 mc _ _ _ _ _ _ _ _ _ _ _ _ hb19 d1 d2 (Q4.t _ _ (nl n1) e1) (Q4.t _ _ (nl n2) e2) (ra.keepT Q6.t) (rb.keepT Q6.t) (rj.keepT Q7.t) rc nc
    fun σ' H' sh ch => fin σ' H' sh ((c1.trans (c2.trans c3)).trans (Q4.trans ch))
def spLaw (K : PySem.W.Frag) : Sp := fun vs H Q _ => ∃ (p : Addr) (ns : List Int), vs = [.ref p] ∧ SqL K H p (ns.map V.int) ∧ ∀ H', Q (.bl true) H'
theorem ok_law (z : Z K mg base) {fd : FuncData} (FD : FunD K dFlaw.name dFlaw.qual dFlaw.params dFlaw.body dFlaw.scope [] [] (He.ga K "law") fd) : FnOk PW w K mg base CX0 11 (He.ga K "law") fd ["_law_script"] (spLaw K) := by
  refine FD.ok sc_law (fun vs H Q E h => ?_) fun cdv A outer s H vs Q E hr h => ?_
  · obtain ⟨p, ns, rfl, _⟩ := h; rfl
  · obtain ⟨p, ns, rfl, hp, q⟩ := h
    have GBG : GF PW w K mg base 1 "_law_bag" (spBag K) := g_bag z
    have GS3 : GF PW w K mg base 3 "_law_same" (spSame K 3) := g_same z 3
    have GLR : GF PW w K mg base 6 "_law_realm" (spLRealm K) := g_lrealm z
    have GTO : GF PW w K mg base 3 "_law_told" (spTold K) := g_told z
    obtain ⟨t1, T1, h1⟩ := law1 (w := w) z cdv A outer s H E hr
    have T : PSs (lawX w K mg base cdv A outer s H E) dFlaw.body _ := pss_cons (ps_set (i := 1) sc_law.nd rfl (.inr rfl) (pe_cf GBG (hr.mono (by decide)) (by rfl) pass0 (pa_cons (pv 0) pa_nil))) (pss_cons (ps_for PassesOwn.never rfl (pi_range1 (by rfl) (z.free (c_free_range z.c)) (pa_cons pe_int pa_nil)) (pg_name (i := 2) sc_law.nd rfl (.inl rfl)) T1) (pss_one (ps_ret (pe_cf GS3 (hr.mono (by decide)) (by rfl) pass0 (pa_cons (pe_lst (pa_cons (pe_cf GTO (hr.mono (by decide)) (by rfl) pass0 (pa_cons (pe_op (op_orR z (hr.mono (by decide))) (pe_cf GLR (hr.mono (by decide)) (by rfl) pass0 (pa_cons (pe_tup (pa_cons pe_int (pa_cons pe_int (pa_cons pe_int (pa_cons pe_int pa_nil))))) pa_nil)) (pe_cf GLR (hr.mono (by decide)) (by rfl) pass0 (pa_cons (pe_tup (pa_cons pe_int (pa_cons pe_int (pa_cons pe_int (pa_cons pe_int pa_nil))))) pa_nil))) pa_nil)) (pa_cons (pe_cf GTO (hr.mono (by decide)) (by rfl) pass0 (pa_cons (pe_op (op_orR z (hr.mono (by decide))) (pe_cf GLR (hr.mono (by decide)) (by rfl) pass0 (pa_cons (pe_tup (pa_cons pe_int (pa_cons pe_int (pa_cons pe_int (pa_cons pe_int pa_nil))))) pa_nil)) (pe_cf GLR (hr.mono (by decide)) (by rfl) pass0 (pa_cons (pe_tup (pa_cons pe_int (pa_cons pe_int (pa_cons pe_int (pa_cons pe_int pa_nil))))) pa_nil))) pa_nil)) (pa_cons (pe_cf GTO (hr.mono (by decide)) (by rfl) pass0 (pa_cons (pe_op (op_orR z (hr.mono (by decide))) (pe_cf GLR (hr.mono (by decide)) (by rfl) pass0 (pa_cons (pe_tup (pa_cons pe_int (pa_cons pe_int (pa_cons pe_int (pa_cons pe_int pa_nil))))) pa_nil)) (pe_cf GLR (hr.mono (by decide)) (by rfl) pass0 (pa_cons (pe_tup (pa_cons pe_int (pa_cons pe_int (pa_cons pe_int (pa_cons pe_int pa_nil))))) pa_nil))) pa_nil)) pa_nil)))) (pa_cons (pe_lst (pa_cons (pe_tup (pa_cons pe_int (pa_cons pe_int (pa_cons pe_int (pa_cons pe_int pa_nil))))) (pa_cons (pe_tup (pa_cons pe_int (pa_cons pe_int (pa_cons pe_int (pa_cons pe_int pa_nil))))) (pa_cons (pe_tup (pa_cons pe_int (pa_cons pe_int (pa_cons pe_int (pa_cons pe_int pa_nil))))) pa_nil)))) pa_nil))))))
    refine ⟨_, T.nox, ?_⟩
    refine ⟨_, rfl, p, ns, rfl, hp, fun bg H1 hbg hb k1 => ?_⟩
    refine ⟨5, rfl, by decide, by decide, ?_⟩
    refine for_range (n := 5) (fun i σ H' => Shp bg σ ∧ Bag H' bg) ⟨⟨_, _, _, _, _, _, _, _, _, _, _, _, _, _, _, _, _, _, rfl⟩, hb⟩ ?_ ?_
    · rintro i σ H' hi ⟨⟨v0, v2, v3, v4, v5, v6, v7, v8, v9, v10, v11, v12, v13, v14, v15, v16, v17, v18, rfl⟩, hb'⟩
      exact h1 _ H' bg _ _ _ _ _ _ _ _ _ _ _ _ _ _ _ _ _ _ hb' fun σ' H2 sh ch => ⟨sh, ch.bag⟩
    rintro σ H' ⟨⟨v0, v2, v3, v4, v5, v6, v7, v8, v9, v10, v11, v12, v13, v14, v15, v16, v17, v18, rfl⟩, hb'⟩
    refine ⟨lnb rfl, fun x1 hx1 => ⟨x1, ⟨1, 3, 1, 3⟩, rfl, upd_same, by decide, fun a1 HA1 _ ka1 ra1 => ⟨lnb rfl, fun y1 hy1 => ⟨y1, ⟨2, 0, 1, 0⟩, rfl, upd_same, by decide, fun b1 HB1 _ kb1 rb1 => ?_⟩⟩⟩⟩
    have kx1 := same_new (o := .tup (n4V ⟨1, 3, 1, 3⟩)) hx1
    have ky1 := same_new (o := .tup (n4V ⟨2, 0, 1, 0⟩)) hy1
    refine or_r ((ra1.same ky1).same kb1) rb1 ⟨by decide, by decide, by decide⟩ ⟨by decide, by decide, by decide⟩ fun j1 HJ1 kj1 rj1 => ⟨j1, _, rfl, rj1, fun u1 HU1 hu1 ku1 ht1 => ?_⟩
    have eq1 : JM.orN (JM.settled ⟨JM.radV (N4.mk 1 3 1 3).i, (N4.mk 1 3 1 3).o, (N4.mk 1 3 1 3).s, (N4.mk 1 3 1 3).t⟩) (JM.settled ⟨JM.radV (N4.mk 2 0 1 0).i, (N4.mk 2 0 1 0).o, (N4.mk 2 0 1 0).s, (N4.mk 2 0 1 0).t⟩) = ⟨2, 0, 1, 0⟩ := by decide
    rw [eq1] at ht1
    have kk1 := Same.trans (Same.trans (Same.trans (Same.trans (Same.trans kx1 ka1) ky1) kb1) kj1) ku1
    refine ⟨lnb rfl, fun x2 hx2 => ⟨x2, ⟨6, 0, 1, 0⟩, rfl, upd_same, by decide, fun a2 HA2 _ ka2 ra2 => ⟨lnb rfl, fun y2 hy2 => ⟨y2, ⟨1, 3, 1, 3⟩, rfl, upd_same, by decide, fun b2 HB2 _ kb2 rb2 => ?_⟩⟩⟩⟩
    have kx2 := same_new (o := .tup (n4V ⟨6, 0, 1, 0⟩)) hx2
    have ky2 := same_new (o := .tup (n4V ⟨1, 3, 1, 3⟩)) hy2
    refine or_r ((ra2.same ky2).same kb2) rb2 ⟨by decide, by decide, by decide⟩ ⟨by decide, by decide, by decide⟩ fun j2 HJ2 kj2 rj2 => ⟨j2, _, rfl, rj2, fun u2 HU2 hu2 ku2 ht2 => ?_⟩
    have eq2 : JM.orN (JM.settled ⟨JM.radV (N4.mk 6 0 1 0).i, (N4.mk 6 0 1 0).o, (N4.mk 6 0 1 0).s, (N4.mk 6 0 1 0).t⟩) (JM.settled ⟨JM.radV (N4.mk 1 3 1 3).i, (N4.mk 1 3 1 3).o, (N4.mk 1 3 1 3).s, (N4.mk 1 3 1 3).t⟩) = ⟨2, 0, 1, 0⟩ := by decide
    rw [eq2] at ht2
    have kk2 := Same.trans (Same.trans (Same.trans (Same.trans (Same.trans kx2 ka2) ky2) kb2) kj2) ku2
    refine ⟨lnb rfl, fun x3 hx3 => ⟨x3, ⟨6, 0, 5, 0⟩, rfl, upd_same, by decide, fun a3 HA3 _ ka3 ra3 => ⟨lnb rfl, fun y3 hy3 => ⟨y3, ⟨10, 0, 3, 0⟩, rfl, upd_same, by decide, fun b3 HB3 _ kb3 rb3 => ?_⟩⟩⟩⟩
    have kx3 := same_new (o := .tup (n4V ⟨6, 0, 5, 0⟩)) hx3
    have ky3 := same_new (o := .tup (n4V ⟨10, 0, 3, 0⟩)) hy3
    refine or_r ((ra3.same ky3).same kb3) rb3 ⟨by decide, by decide, by decide⟩ ⟨by decide, by decide, by decide⟩ fun j3 HJ3 kj3 rj3 => ⟨j3, _, rfl, rj3, fun u3 HU3 hu3 ku3 ht3 => ?_⟩
    have eq3 : JM.orN (JM.settled ⟨JM.radV (N4.mk 6 0 5 0).i, (N4.mk 6 0 5 0).o, (N4.mk 6 0 5 0).s, (N4.mk 6 0 5 0).t⟩) (JM.settled ⟨JM.radV (N4.mk 10 0 3 0).i, (N4.mk 10 0 3 0).o, (N4.mk 10 0 3 0).s, (N4.mk 10 0 3 0).t⟩) = ⟨2, 0, 15, 0⟩ := by decide
    rw [eq3] at ht3
    have kk3 := Same.trans (Same.trans (Same.trans (Same.trans (Same.trans kx3 ka3) ky3) kb3) kj3) ku3
    refine ⟨lnb rfl, fun l1 hl1 => ?_⟩
    have kl1 := same_new (o := .lst [V.ref u1, V.ref u2, V.ref u3]) hl1
    refine ⟨lnb rfl, fun t1 ht_1 => ?_⟩
    have kt1 := same_new (o := .tup (n4V ⟨2, 0, 1, 0⟩)) ht_1
    refine ⟨lnb rfl, fun t2 ht_2 => ?_⟩
    have kt2 := same_new (o := .tup (n4V ⟨2, 0, 1, 0⟩)) ht_2
    refine ⟨lnb rfl, fun t3 ht_3 => ?_⟩
    have kt3 := same_new (o := .tup (n4V ⟨2, 0, 15, 0⟩)) ht_3
    refine ⟨lnb rfl, fun l2 hl2 => ?_⟩
    have kl2 := same_new (o := .lst [V.ref t1, V.ref t2, V.ref t3]) hl2
    have K4 := Same.trans (Same.trans (Same.trans kt1 kt2) kt3) kl2
    have K5 := Same.trans kl1 K4
    refine ⟨_, _, rfl, .inr (.inr ⟨l1, l2, _, _, rfl, rfl, .inl ⟨K4 _ _ upd_same, upd_same⟩, rfl, Nat.le_of_ble_eq_true rfl, ?_⟩), fun H' _ => q H'⟩
    have tl : ∀ (H : Hp) (x y : Addr) (n : N4), H x = some (.tup (n4V n)) → H y = some (.tup (n4V n)) → EqV 2 H (.ref x) (.ref y) := fun H x y n hx hy =>
      .inr (.inr ⟨x, y, _, _, rfl, rfl, .inr ⟨hx, hy⟩, rfl, Nat.le_of_ble_eq_true rfl, fun i u v hu hv => by
        rw [hu] at hv
        obtain rfl := Option.some.inj hv
        obtain ⟨n', rfl⟩ : ∃ n' : Nat, u = nt n' := pick_all (Pp := fun x => ∃ n : Nat, x = nt n) (all_cons ⟨_, rfl⟩ (all_cons ⟨_, rfl⟩ (all_cons ⟨_, rfl⟩ (all_cons ⟨_, rfl⟩ all_nil)))) hu
        exact .inr (.inl ⟨_, rfl, rfl⟩)⟩)
    intro i x y hx hy
    match i, hx, hy with
    | 0, hx, hy =>
      obtain rfl := (Option.some.inj hx).symm
      obtain rfl := (Option.some.inj hy).symm
      exact tl _ _ _ ⟨2, 0, 1, 0⟩ (K5 _ _ (kk3 _ _ (kk2 _ _ ht1))) (kl2 _ _ (kt3 _ _ (kt2 _ _ upd_same)))
    | 1, hx, hy =>
      obtain rfl := (Option.some.inj hx).symm
      obtain rfl := (Option.some.inj hy).symm
      exact tl _ _ _ ⟨2, 0, 1, 0⟩ (K5 _ _ (kk3 _ _ ht2)) (kl2 _ _ (kt3 _ _ upd_same))
    | 2, hx, hy =>
      obtain rfl := (Option.some.inj hx).symm
      obtain rfl := (Option.some.inj hy).symm
      exact tl _ _ _ ⟨2, 0, 15, 0⟩ (K5 _ _ ht3) (kl2 _ _ upd_same)
    | i + 3, hx, hy => simp at hx
end
end J

namespace J
open PySem PySem.Spec PyProof.Rows L2
theorem ok_end {w : World} {K : PySem.W.Frag} {mg : Str → Option Value} {h : Heap} {fa : Addr} (X : K.In h) (G : h.Ns mainGlobals mg) (c : Says K) (hm : mg ("law" : Str) = some (.ref fa)) :
    ∃ fd : FuncData, (∀ (s : Shared) (v : Value), BindsTo s fd ⟨[v], []⟩ [("_law_script", v)]) ∧ ∀ base : Heap, K.In base → base.Ns mainGlobals mg → FnOk PW w K mg base CX0 11 fa fd ["_law_script"] (spLaw K) := by
  obtain ⟨fd, F⟩ := f_Flaw c
  have FD := F.funD rfl
  have e := hm.symm.trans (He.glo_ok X G (c_glo_law c))
  cases e
  have b := FunD.bindsA (ps := ["_law_script"]) FD fun _ _ _ _ _ _ us hl => match us, hl with | [_], _ => rfl
  exact ⟨fd, fun s v => b s [v] rfl, fun base X2 G2 => ok_law ⟨c, X2, G2⟩ FD⟩
end J
open PySem PySem.W PySem.Calls PyProof.Rows
theorem PySem.Challenge.cw_numbertypes_k44_whole_joins_of_realms_holds : PySem.Challenge.rw_numbertypes_k44_whole_joins_of_realms.Holds := by
  w_on; o_law
  refine HandSHeadRun.head_any (r := OpenLaw.row PySem.Challenge.rw_numbertypes_k44_whole_joins_of_realms) (q := view (OpenLaw.row PySem.Challenge.rw_numbertypes_k44_whole_joins_of_realms).prog [91]) (H := J.hookM) (ob := J.ob) (M := 20000) (loose := J.loose) (d := HandSHeadRun.topDef (OpenLaw.row PySem.Challenge.rw_numbertypes_k44_whole_joins_of_realms).prog 91) (kwd := []) J.ob_eq
    (by kernel_rfl) (fun s => by kernel_rfl) J.run (by kernel_rfl) (by kernel_rfl) (by kernel_rfl) (by rfl) (by first | assumption | decide +kernel) (by decide +kernel) ⟨rfl, rfl, rfl, rfl, rfl, by decide +kernel⟩ ?hw ?hc
  case hw => w_witness2
  case hc =>
    refine L2.walk_ofE (l := PySem.Challenge.rw_numbertypes_k44_whole_joins_of_realms) (n := 63) (k := 11) (x := "_law_script") (CX := L2.CX0) rfl (by decide) (by kernel_rfl) ⟨rfl, by decide, by decide⟩ ?F (fun _ _ _ _ z => z)
    intro w mg fa h Y G hmg0
    obtain ⟨K, KX, c⟩ := Y
    have hmg : mg ("law" : PySem.Str) = some (.ref fa) := by
      have e : (HandSHeadRun.topDef (OpenLaw.row PySem.Challenge.rw_numbertypes_k44_whole_joins_of_realms).prog 91).name = ("law" : PySem.Str) := by kernel_rfl
      rw [← e]
      exact hmg0
    obtain ⟨fd, hb, hF⟩ := J.ok_end (w := w) KX G c hmg
    exact ⟨K, fd, J.spLaw K, KX, hb, fun H a ns hl _ hS => ⟨a, ns, rfl, hS, fun _ => rfl⟩, hF⟩
