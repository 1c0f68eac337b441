import PyProof.Rows.All
import Wide.All
import OpenK.AllK
import Wide.FinOn
import HandS.ForMost
import HandS.ForExc
import HandS.ExcCtx
import HandS.Property
import HandS.ClsMeth
import HandS.ExcInit
import HandS.ExcIs
import HandS.ExcField
import HandS.IsInst
import HandS.Defaults
import HandS.HeadHook1
import HandS.HeadHook2
import HandS.HeadHook3
import HandS.HeadHook4
import PySem.Challenge.RW_datelessrolls_k85_whole_undo
import KE.KStateDown
import Lean
import HandS.Head0
import HandS.Head1
import HandS.Head2
import HandS.HeadEnd
import HandS.Hot
import HandS.HotCalls
import KE.KWithOwn
import HandS.RaiseFrom
import HandS.ExcInitHot
import KE.GoesEnum
import KE.GoesMore
import KE.GoesZip
import HandS.Base
import HandS.Call
import HandS.List
import HandS.Iter
import HandS.Zip
import HandS.ExcOwn
import KE.KOpsOwn
import HandS.SuiteRaise
import KE.KAsSuite
import HandS.OwnEq
import HandS.IterVal
import KE.KOwnIter
import PyProof.EnumMake
import PyProof.Rows.Range3
import HandS.Evl
import HandS.Conv
import HandS.Codes
import HandS.TupAny
import HandS.StrMore
import HandS.IterNext
import PyProof.Rows.StrFirst
import HandS.MakeKwOnly
section
set_option Elab.async false
set_option linter.all false
set_option maxRecDepth 100000
set_option maxHeartbeats 4000000
/-! What the top has written: the defs by place, facts of names and classes, told by a Hook. -/
namespace Dk
open PySem PySem.Spec PyProof.Rows L2
abbrev Fr := PySem.W.Frag
def top (i : Nat) : Stmt := PySem.Challenge.pw_datelessrolls_k85_whole_undo.main.body.getD i (.Pass ⟨0, 0, 0, 0⟩)
/-- a property's getter -/
def pgA (K : Fr) (C : Addr) (m : Str) : Addr := match PySem.W.recIn K (He.ma K C m) "property" with
  | some (.ref g :: _) => g
  | _ => 0
/-- a def of the text, where it stands -/
structure DD where
  ad : Fr → Addr
  name : Str
  qual : Str
  params : Arguments
  body : List Stmt
  scope : Scope
  kwd : List (Str × He.Dv)
def fnA (K : Fr) (a : Addr) : He.FnW := match K.lookup a with
  | some ⟨_, _, .func fd, _⟩ => some (fd.name, fd.qualname, fd.params, fd.body, fd.scope, fd.globals, fd.closure, fd.builtins)
  | _ => none
def DD.val (d : DD) : He.FnW := some (d.name, d.qual, d.params, .stmts d.body, d.scope, mainGlobals, [], builtinsNs)
def DD.kws (K : Fr) (d : DD) : List (Str × V) := d.kwd.map fun q => (q.1, q.2.v K)
def DD.ok (K : Fr) (d : DD) : Bool := PySem.W.keepIn K (.ref (d.ad K)) && (match K.lookup (d.ad K) with
  | some ⟨_, _, .func fd, _⟩ => He.dflB K fd.defaults [] && He.kwdB K fd.kwdefaults (d.kws K)
  | _ => false)
/-- the name that a code object bears -/
def codN (K : Fr) (cd : Value) : Option Str := match cd with
  | .ref c => (match K.lookup c with
      | some ⟨_, _, .fields vs, _⟩ => (match vs.toList with
        | _ :: .str n _ :: _ => some n
        | _ => none)
      | _ => none)
  | _ => none
theorem codN_ok {K : Fr} {cd : Value} {q : Str} (h : codN K cd = some q) : PySem.W.codeIn K cd q = true := by
  unfold codN at h
  unfold PySem.W.codeIn
  split at h
  · split at h
    · rename_i ho
      split at h
      · rename_i hv
        cases h
        simp only [ho, hv]
        exact beq_self_eq_true _
      · cases h
    · cases h
  · cases h
def DD.cod (K : Fr) (d : DD) : Option Str := match K.lookup (d.ad K) with
  | some ⟨_, _, .func fd, _⟩ => codN K fd.code
  | _ => none
/-- the function object at an address -/
noncomputable def fdOf (K : Fr) (a : Addr) : FuncData := @Classical.epsilon _ ⟨PySem.W.fnOf "" "" (defArgs (top 0)) [] (defScope (top 0)) .none .none .none .none none .none .none⟩ fun fd => ∃ oc od osl, K.lookup a = some ⟨oc, od, .func fd, osl⟩
theorem fdOf_eq {K : Fr} {a : Addr} {oc : Value} {od : Option Addr} {fd : FuncData} {osl : Array (Option Value)} (h : K.lookup a = some ⟨oc, od, .func fd, osl⟩) : fdOf K a = fd := by
  have h1 : ∃ oc od osl, K.lookup a = some ⟨oc, od, .func (fdOf K a), osl⟩ := @Classical.epsilon_spec _ (fun fd => ∃ oc od osl, K.lookup a = some ⟨oc, od, .func fd, osl⟩) ⟨fd, oc, od, osl, h⟩
  obtain ⟨_, _, _, h2⟩ := h1
  rw [h] at h2
  cases h2
  rfl
theorem DD.funD {K : Fr} {d : DD} (e : fnA K (d.ad K) = d.val) (c : d.ok K = true) (cn : d.cod K = some d.qual) : FunD K d.name d.qual d.params d.body d.scope [] (d.kws K) (d.ad K) (fdOf K (d.ad K)) := by
  obtain ⟨kp, c2⟩ := He.ba c
  unfold fnA at e
  unfold DD.cod at cn
  cases q : K.lookup (d.ad K) with
  | none =>
    rw [q] at c2
    cases c2
  | some o =>
    obtain ⟨oc, od, dt, osl⟩ := o
    rw [q] at c2 e cn
    cases dt with
    | func fd =>
      rw [fdOf_eq q]
      obtain ⟨n1, n2, n3, n4, n5, n6, n7, n8, n9, n10, n11, n12, n13, n14, n15⟩ := fd
      have e2 := e
      unfold DD.val at e2
      simp only [Option.some.injEq, Prod.mk.injEq] at e2
      obtain ⟨h1, h2, h3, h4, h5, h6, h7, h8⟩ := e2
      subst h1 h2 h3 h4 h5 h6 h7 h8
      obtain ⟨k3, k4⟩ := He.ba c2
      exact ⟨⟨oc, od, n8, n9, n10, n11, n12, n13, n14, osl, rfl, q, codN_ok cn, He.dflB_ok k3, He.kwdB_ok k4⟩, kp⟩
    | _ => cases c2
/-! ### facts as Bools -/
def dq (a b : Option Bool) : Bool := decide (a = b)
/-- an error class of the program -/
def excB (K : Fr) (x : Str) : Bool := (match K.lookup (He.ga K x) with
  | some ⟨.type t, _, .cls cd, sl⟩ => (match cd.mro, sl.toList with
    | .ref C' :: bm, [_, _, _, _, some (.builtin n), _] => decide (t = "type") && (decide (C' = He.ga K x) && (decide (n = "ValueError.__new__") && (!cd.hasDel && (cd.hasDict && PySem.HandSPX.refsVE bm))))
    | _, _ => false)
  | _ => false) && (He.eqO (PySem.W.findIn K (.ref (He.ga K x)) "__setattr__") (some (some (.builtin "object.__setattr__"))) && (dq (PySem.W.subIn K (.ref (He.ga K x)) (.type "BaseException")) (some true) &&
  (decide (PySem.W.typeIn K (.ref (He.ga K x)) = some (.type "type")) && PySem.W.keepIn K (.ref (He.ga K x)))))
theorem excB_ok {K : Fr} {x : Str} (h : excB K x = true) : OexC K (He.ga K x) := by
  unfold excB at h
  obtain ⟨h0, h⟩ := He.ba h
  obtain ⟨h1, h⟩ := He.ba h
  obtain ⟨h2, h⟩ := He.ba h
  obtain ⟨h3, h4⟩ := He.ba h
  refine ⟨?_, He.eqO_ok h1, of_decide_eq_true h2, of_decide_eq_true h3, h4⟩
  split at h0
  · rename_i t dd cd sl ho
    split at h0
    · rename_i C' bm k0 k1 k2 k3 n k5 hm hs
      obtain ⟨g1, h0⟩ := He.ba h0
      obtain ⟨g2, h0⟩ := He.ba h0
      obtain ⟨g3, h0⟩ := He.ba h0
      obtain ⟨g4, h0⟩ := He.ba h0
      obtain ⟨g5, g6⟩ := He.ba h0
      have e1 := of_decide_eq_true g1
      have e2 := of_decide_eq_true g2
      have e3 := of_decide_eq_true g3
      subst e1 e2 e3
      obtain ⟨nm, bs, mro, ns, qn, hd, sn, sub, ab, col, del⟩ := cd
      dsimp only at hm g4 g5
      have g4' : del = false := by
        cases del with
        | true => cases g4
        | false => rfl
      subst hm g4' g5
      have hsl : sl = #[k0, k1, k2, k3, some (.builtin "ValueError.__new__"), k5] := by
        obtain ⟨l⟩ := sl
        simp only at hs
        rw [hs]
      subst hsl
      exact ⟨nm, qn, ns, bs, bm, sn, sub, ab, col, dd, k0, k1, k2, k3, k5, ho, g6⟩
    · cases h0
  · cases h0
def einB (K : Fr) (x : Str) : Bool := He.eqO (PySem.W.findIn K (.ref (He.ga K x)) "__init__") (some (some (.ref (He.ma K (He.ga K x) "__init__")))) && decide (PySem.W.typeIn K (.ref (He.ma K (He.ga K x) "__init__")) = some (.type "function"))
theorem einB_ok {K : Fr} {x : Str} (h : einB K x = true) : PySem.W.findIn K (.ref (He.ga K x)) "__init__" = some (some (.ref (He.ma K (He.ga K x) "__init__"))) ∧ PySem.W.typeIn K (.ref (He.ma K (He.ga K x) "__init__")) = some (.type "function") := by
  obtain ⟨h1, h2⟩ := He.ba h
  exact ⟨He.eqO_ok h1, of_decide_eq_true h2⟩
/-- a property -/
def propB (K : Fr) (x m : Str) : Bool := He.eqO (PySem.W.findIn K (.ref (He.ga K x)) m) (some (some (.ref (He.ma K (He.ga K x) m)))) && (He.eqO (PySem.W.specialIn K (.ref (He.ma K (He.ga K x) m)) "__get__") (some (some (.builtin "property.__get__"))) &&
  (dq (PySem.W.takesIn K (.ref (He.ma K (He.ga K x) m))) (some true) && (match PySem.W.recIn K (He.ma K (He.ga K x) m) "property" with
    | some (.ref _ :: _) => true
    | _ => false)))
theorem propB_ok {K : Fr} {x m : Str} (h : propB K x m = true) : PropOf K (He.ga K x) m (He.ma K (He.ga K x) m) (pgA K (He.ga K x) m) := by
  obtain ⟨h1, h⟩ := He.ba h
  obtain ⟨h2, h⟩ := He.ba h
  obtain ⟨h3, h4⟩ := He.ba h
  refine ⟨He.eqO_ok h1, He.eqO_ok h2, of_decide_eq_true h3, ?_⟩
  unfold pgA
  split at h4
  · rename_i g r e
    exact ⟨r, e⟩
  · cases h4
/-- a whole number as a class's constant -/
def cvalB (K : Fr) (x f : Str) (i : Int) : Bool := PySem.W.readsIn K (He.ga K x) (.type "type") && (He.eqO (PySem.W.specialIn K (.ref (He.ga K x)) "__getattribute__") (some (some (.builtin "type.__getattribute__"))) &&
  (match PySem.W.findCls K (.ref (He.ga K x)) (.type "type") f with
    | some (.val (.int j _)) => decide (j = i)
    | _ => false))
theorem cvalB_ok {K : Fr} {x f : Str} {i : Int} (h : cvalB K x f i = true) : ClX.CRead K (He.ga K x) (.type "type") ∧ ∃ u, ClX.CVal K (He.ga K x) (.type "type") f (.int i) u := by
  obtain ⟨h1, h⟩ := He.ba h
  obtain ⟨h2, h3⟩ := He.ba h
  refine ⟨⟨h1, He.eqO_ok h2⟩, ?_⟩
  split at h3
  · rename_i j t e
    have ej := of_decide_eq_true h3
    subst ej
    exact ⟨_, e, t, rfl⟩
  · cases h3
/-- isinstance of the class's instances -/
def insB (K : Fr) (x : Str) : Bool := He.eqO (PySem.W.findIn K (.ref (He.ga K x)) "__class__") (some (some (.builtin "object.__class__"))) && (He.eqO (PySem.W.specialIn K (.builtin "object.__class__") "__get__") (some (some (.builtin "getset_descriptor.__get__"))) &&
  (dq (PySem.W.takesIn K (.builtin "object.__class__")) (some true) && dq (PySem.W.mroIn K (He.ga K x) (.type "object")) (some true)))
theorem insB_ok {K : Fr} {x : Str} (h : insB K x = true) : PySem.W.findIn K (.ref (He.ga K x)) "__class__" = some (some (.builtin "object.__class__")) ∧ PySem.W.specialIn K (.builtin "object.__class__") "__get__" = some (some (.builtin "getset_descriptor.__get__")) ∧
    PySem.W.takesIn K (.builtin "object.__class__") = some true ∧ PySem.W.mroIn K (He.ga K x) (.type "object") = some true := by
  obtain ⟨h1, h⟩ := He.ba h
  obtain ⟨h2, h⟩ := He.ba h
  obtain ⟨h3, h4⟩ := He.ba h
  exact ⟨He.eqO_ok h1, He.eqO_ok h2, of_decide_eq_true h3, of_decide_eq_true h4⟩
/-- a tuple at an address -/
def tupA (K : Fr) (a : Addr) (vs : List V) : Bool := match K.lookup a with
  | some ⟨.type c, _, .seq its _, _⟩ => decide (c = "tuple") && (decide (its.size ≤ sizeLine) && He.relAll vs its.toList)
  | _ => false
theorem tupA_ok {K : Fr} {a : Addr} {vs : List V} (h : tupA K a vs = true) (H : Hp) : SqT K H a vs := by
  unfold tupA at h
  split at h
  · rename_i c dd its n sl q
    obtain ⟨h1, h2⟩ := He.ba h
    obtain ⟨h3, h4⟩ := He.ba h2
    exact .inr ⟨_, its, n, q, congrArg Value.type (of_decide_eq_true h1), rfl, of_decide_eq_true h3, He.relAll_ok h4⟩
  · cases h
/-- the table's tuple at a key -/
def keyB (K : Fr) (x : Str) (q : Str × List V) : Bool := match PySem.W.nsIn K (He.ga K x) q.1 with
  | some (some (.ref a)) => tupA K a q.2
  | _ => false
theorem keyB_ok {K : Fr} {x : Str} {q : Str × List V} (h : keyB K x q = true) : ∃ a, PySem.W.nsIn K (He.ga K x) q.1 = some (some (.ref a)) ∧ ∀ H, SqT K H a q.2 := by
  unfold keyB at h
  split at h
  · rename_i a e
    exact ⟨a, e, tupA_ok h⟩
  · cases h
def fndB (K : Fr) (x m : Str) : Bool := He.eqO (PySem.W.findIn K (.ref (He.ga K x)) m) (some (some (.ref (He.ma K (He.ga K x) m)))) && PySem.W.isFn K (.ref (He.ma K (He.ga K x) m))
theorem fndB_ok {K : Fr} {x m : Str} (h : fndB K x m = true) : PySem.W.findIn K (.ref (He.ga K x)) m = some (some (.ref (He.ma K (He.ga K x) m))) ∧ PySem.W.isFn K (.ref (He.ma K (He.ga K x) m)) = true := by
  obtain ⟨h1, h2⟩ := He.ba h
  exact ⟨He.eqO_ok h1, h2⟩
/-! ### what is said of it -/
/-- where the objects that are looked at stand behind the top (told by a run of the kernel; the facts say what stands there) -/
def la0 : List Addr := [3, 2, 785, 784, 849, 848, 1090, 1089, 1209, 1208, 1285, 1284, 31, 30, 51, 50, 108, 107, 222, 221, 279, 278, 298, 297, 317, 316, 336, 335, 367, 366, 398, 397, 348, 347, 379, 378, 70, 69, 89, 88]
def la1 : List Addr := [260, 259, 241, 240, 1214, 1215, 1216, 1217, 1218, 1219, 1220, 1221, 1222, 1223, 428, 427, 442, 441, 459, 458, 486, 485, 493, 492, 500, 499, 806, 805, 813, 812, 820, 819, 827, 826, 832, 831, 1101, 1100, 1228, 1227]
def la2 : List Addr := [1235, 1234, 1242, 1241, 1249, 1248, 1254, 1253, 1296, 1295, 1303, 1302, 1308, 1307, 1315, 1314, 1322, 1321, 1329, 1328, 1334, 1333, 1339, 1338, 1346, 1345, 1351, 1350, 1358, 1357, 1365, 1364, 1370, 1369, 1377, 1376, 1384, 1383, 1391, 1390]
def la3 : List Addr := [1398, 1397, 1405, 1404, 1412, 1411, 1419, 1418, 1426, 1425, 1431, 1430, 1438, 1437, 1445, 1444, 1452, 1451, 1459, 1458, 1466, 1465, 1146, 1152, 673, 1024, 1007, 598, 597, 649, 648, 672, 671, 846, 845, 868, 867, 861, 873, 872]
def la4 : List Addr := [880, 879, 887, 886, 894, 893, 901, 900, 908, 907, 915, 914, 922, 921, 936, 935, 943, 942, 950, 949, 957, 956, 964, 963, 971, 970, 978, 977, 985, 984, 992, 991, 1006, 1005, 1014, 1013, 1038, 1037, 1052, 1051]
def la5 : List Addr := [1066, 1065, 1115, 1114, 1138, 1137, 1145, 1144, 1151, 1150, 1159, 1158, 1268, 1267, 1275, 1274, 1282, 1281, 48, 47, 105, 104, 219, 218, 276, 275, 295, 294, 314, 313, 333, 332, 364, 363, 395, 394]
def LA : List Addr := la0 ++ (la1 ++ (la2 ++ (la3 ++ (la4 ++ (la5)))))
abbrev Al : Type := List (He.FnW × Option Str) × List (Option (List (Option (Str × Int)))) × Bool
def obsK (fn : List DD) (ts : List He.Tab) (fb : List (Fr → Bool)) (K : Fr) : Al := (fn.map (fun d => (fnA K (d.ad K), d.cod K)), ts.map (fun t => He.dicW K (t.1 K)), (fb.all fun f => f K) && fn.all fun d => d.ok K)
def valK (fn : List DD) (ts : List He.Tab) (w : World) : Al := (fn.map (fun d => (d.val, some d.qual)), ts.map (fun t => some (He.keysIn w.params t.2)), true)
def SaysK (fn : List DD) (ts : List He.Tab) (fb : List (Fr → Bool)) (w : World) (K : Fr) : Prop := obsK fn ts fb K = valK fn ts w
section
variable {fn : List DD} {ts : List He.Tab} {fb : List (Fr → Bool)} {w : World} {K : Fr}
theorem SaysK.fact (c : SaysK fn ts fb w K) (i : Nat) {f : Fr → Bool} (h : fb[i]? = some f := by rfl) : f K = true := by
  have c1 := (He.ba (show ((fb.all fun f => f K) && fn.all fun d => d.ok K) = true from congrArg (fun z : Al => z.2.2) c)).1
  exact List.all_eq_true.mp c1 f (List.mem_of_getElem? h)
theorem SaysK.tab (c : SaysK fn ts fb w K) (i : Nat) {t : He.Tab} (h : ts[i]? = some t := by rfl) : ∃ es n, KDict K w (t.1 K) es n := by
  have e : ts.map (fun t => He.dicW K (t.1 K)) = ts.map (fun t => some (He.keysIn w.params t.2)) := congrArg (fun z : Al => z.2.1) c
  have e2 : (ts.map fun t => He.dicW K (t.1 K))[i]? = (ts.map (fun t => some (He.keysIn w.params t.2)))[i]? := by rw [e]
  rw [List.getElem?_map, List.getElem?_map, h] at e2
  exact He.dicW_ok (Option.some.inj e2)
theorem SaysK.def_ (c : SaysK fn ts fb w K) (i : Nat) {d : DD} (h : fn[i]? = some d := by rfl) : FunD K d.name d.qual d.params d.body d.scope [] (d.kws K) (d.ad K) (fdOf K (d.ad K)) := by
  have c2 := (He.ba (show ((fb.all fun f => f K) && fn.all fun d => d.ok K) = true from congrArg (fun z : Al => z.2.2) c)).2
  have e : fn.map (fun d => (fnA K (d.ad K), d.cod K)) = fn.map (fun d => (d.val, some d.qual)) := congrArg (fun z : Al => z.1) c
  have e2 : (fn.map fun d => (fnA K (d.ad K), d.cod K))[i]? = (fn.map fun d => (d.val, some d.qual))[i]? := by rw [e]
  rw [List.getElem?_map, List.getElem?_map, h] at e2
  obtain ⟨e3, e4⟩ := Prod.mk.inj (Option.some.inj e2)
  exact DD.funD e3 (List.all_eq_true.mp c2 d (List.mem_of_getElem? h)) e4
end

abbrev s_check_page : Stmt := top 31
def d_check_page : DD := ⟨fun K => He.ga K "check_page", "check_page", "check_page", defArgs s_check_page, defBody s_check_page, defScope s_check_page, []⟩
abbrev a_check_page (K : Fr) : Addr := He.ga K "check_page"
abbrev N_check_page : List Str := ["calendar", "page", "known", "index"]
abbrev s_at_place : Stmt := top 34
def d_at_place : DD := ⟨fun K => He.ga K "at_place", "at_place", "at_place", defArgs s_at_place, defBody s_at_place, defScope s_at_place, []⟩
abbrev a_at_place (K : Fr) : Addr := He.ga K "at_place"
abbrev N_at_place : List Str := ["values", "place", "index"]
abbrev s_heights_of : Stmt := top 37
def d_heights_of : DD := ⟨fun K => He.ga K "heights_of", "heights_of", "heights_of", defArgs s_heights_of, defBody s_heights_of, defScope s_heights_of, []⟩
abbrev a_heights_of (K : Fr) : Addr := He.ga K "heights_of"
abbrev N_heights_of : List Str := ["came", "places", "heights", "place", "_"]
abbrev s_carried_came : Stmt := top 43
def d_carried_came : DD := ⟨fun K => He.ga K "carried_came", "carried_came", "carried_came", defArgs s_carried_came, defBody s_carried_came, defScope s_carried_came, []⟩
abbrev a_carried_came (K : Fr) : Addr := He.ga K "carried_came"
abbrev N_carried_came : List Str := ["came", "stands", "gap"]
abbrev s_carried_to : Stmt := top 44
def d_carried_to : DD := ⟨fun K => He.ga K "carried_to", "carried_to", "carried_to", defArgs s_carried_to, defBody s_carried_to, defScope s_carried_to, []⟩
abbrev a_carried_to (K : Fr) : Addr := He.ga K "carried_to"
abbrev N_carried_to : List Str := ["came", "stands", "gap", "place", "least"]
abbrev s_step_came : Stmt := top 45
def d_step_came : DD := ⟨fun K => He.ga K "step_came", "step_came", "step_came", defArgs s_step_came, defBody s_step_came, defScope s_step_came, []⟩
abbrev a_step_came (K : Fr) : Addr := He.ga K "step_came"
abbrev N_step_came : List Str := ["came", "stands", "brought", "moved", "place"]
abbrev s_sets_of : Stmt := top 68
def d_sets_of : DD := ⟨fun K => He.ga K "sets_of", "sets_of", "sets_of", defArgs s_sets_of, defBody s_sets_of, defScope s_sets_of, []⟩
abbrev a_sets_of (K : Fr) : Addr := He.ga K "sets_of"
abbrev N_sets_of : List Str := ["calendar", "page", "sign"]
abbrev s_came_of : Stmt := top 69
def d_came_of : DD := ⟨fun K => He.ga K "came_of", "came_of", "came_of", defArgs s_came_of, defBody s_came_of, defScope s_came_of, []⟩
abbrev a_came_of (K : Fr) : Addr := He.ga K "came_of"
abbrev N_came_of : List Str := ["calendar", "page", "came", "stands"]
abbrev s_cast_of : Stmt := top 70
def d_cast_of : DD := ⟨fun K => He.ga K "cast_of", "cast_of", "cast_of", defArgs s_cast_of, defBody s_cast_of, defScope s_cast_of, []⟩
abbrev a_cast_of (K : Fr) : Addr := He.ga K "cast_of"
abbrev N_cast_of : List Str := ["calendar", "page"]
abbrev s_size_of : Stmt := top 73
def d_size_of : DD := ⟨fun K => He.ga K "size_of", "size_of", "size_of", defArgs s_size_of, defBody s_size_of, defScope s_size_of, []⟩
abbrev a_size_of (K : Fr) : Addr := He.ga K "size_of"
abbrev N_size_of : List Str := ["page"]
abbrev s_check_entries : Stmt := top 74
def d_check_entries : DD := ⟨fun K => He.ga K "check_entries", "check_entries", "check_entries", defArgs s_check_entries, defBody s_check_entries, defScope s_check_entries, []⟩
abbrev a_check_entries (K : Fr) : Addr := He.ga K "check_entries"
abbrev N_check_entries : List Str := ["held", "amount", "page"]
abbrev s_is_rising : Stmt := top 79
def d_is_rising : DD := ⟨fun K => He.ga K "is_rising", "is_rising", "is_rising", defArgs s_is_rising, defBody s_is_rising, defScope s_is_rising, []⟩
abbrev a_is_rising (K : Fr) : Addr := He.ga K "is_rising"
abbrev N_is_rising : List Str := ["word", "before", "letter"]
abbrev s_is_number : Stmt := top 85
def d_is_number : DD := ⟨fun K => He.ga K "is_number", "is_number", "is_number", defArgs s_is_number, defBody s_is_number, defScope s_is_number, []⟩
abbrev a_is_number (K : Fr) : Addr := He.ga K "is_number"
abbrev N_is_number : List Str := ["word", "digit"]
abbrev s_page_of_word : Stmt := top 86
def d_page_of_word : DD := ⟨fun K => He.ga K "page_of_word", "page_of_word", "page_of_word", defArgs s_page_of_word, defBody s_page_of_word, defScope s_page_of_word, []⟩
abbrev a_page_of_word (K : Fr) : Addr := He.ga K "page_of_word"
abbrev N_page_of_word : List Str := ["word"]
abbrev s_word_of_page : Stmt := top 87
def d_word_of_page : DD := ⟨fun K => He.ga K "word_of_page", "word_of_page", "word_of_page", defArgs s_word_of_page, defBody s_word_of_page, defScope s_word_of_page, []⟩
abbrev a_word_of_page (K : Fr) : Addr := He.ga K "word_of_page"
abbrev N_word_of_page : List Str := ["page"]
abbrev s_deed_of : Stmt := top 88
def d_deed_of : DD := ⟨fun K => He.ga K "deed_of", "deed_of", "deed_of", defArgs s_deed_of, defBody s_deed_of, defScope s_deed_of, []⟩
abbrev a_deed_of (K : Fr) : Addr := He.ga K "deed_of"
abbrev N_deed_of : List Str := ["line", "words", "form", "number", "page", "kind", "word"]
abbrev s_carry_out : Stmt := top 89
def d_carry_out : DD := ⟨fun K => He.ga K "carry_out", "carry_out", "carry_out", defArgs s_carry_out, defBody s_carry_out, defScope s_carry_out, []⟩
abbrev a_carry_out (K : Fr) : Addr := He.ga K "carry_out"
abbrev N_carry_out : List Str := ["desk", "deed", "verb", "number", "page"]
abbrev s_enter : Stmt := top 91
def d_enter : DD := ⟨fun K => He.ga K "enter", "enter", "enter", defArgs s_enter, defBody s_enter, defScope s_enter, []⟩
abbrev a_enter (K : Fr) : Addr := He.ga K "enter"
abbrev N_enter : List Str := ["desk", "lines", "index", "line", "deed", "why"]
abbrev s_write_desk : Stmt := top 94
def d_write_desk : DD := ⟨fun K => He.ga K "write_desk", "write_desk", "write_desk", defArgs s_write_desk, defBody s_write_desk, defScope s_write_desk, []⟩
abbrev a_write_desk (K : Fr) : Addr := He.ga K "write_desk"
abbrev N_write_desk : List Str := ["desk", "lines", "number", "page"]
abbrev s_law_begin : Stmt := top 96
def d_law_begin : DD := ⟨fun K => He.ga K "_law_begin", "_law_begin", "_law_begin", defArgs s_law_begin, defBody s_law_begin, defScope s_law_begin, []⟩
abbrev a_law_begin (K : Fr) : Addr := He.ga K "_law_begin"
abbrev N_law_begin : List Str := ["_law_script", "_law_cell"]
abbrev s_law_draw : Stmt := top 97
def d_law_draw : DD := ⟨fun K => He.ga K "_law_draw", "_law_draw", "_law_draw", defArgs s_law_draw, defBody s_law_draw, defScope s_law_draw, []⟩
abbrev a_law_draw (K : Fr) : Addr := He.ga K "_law_draw"
abbrev N_law_draw : List Str := ["_law_state", "_law_limit", "_law_cells", "_law_value"]
abbrev s_law_counts : Stmt := top 98
def d_law_counts : DD := ⟨fun K => He.ga K "_law_counts", "_law_counts", "_law_counts", defArgs s_law_counts, defBody s_law_counts, defScope s_law_counts, []⟩
abbrev a_law_counts (K : Fr) : Addr := He.ga K "_law_counts"
abbrev N_law_counts : List Str := ["_law_places", "_law_sets", "_law_begin_here", "_law_length", "_law_best", "_law_counts_here", "_law_x", "_law_k"]
abbrev s_law_heights : Stmt := top 99
def d_law_heights : DD := ⟨fun K => He.ga K "_law_heights", "_law_heights", "_law_heights", defArgs s_law_heights, defBody s_law_heights, defScope s_law_heights, []⟩
abbrev a_law_heights (K : Fr) : Addr := He.ga K "_law_heights"
abbrev N_law_heights : List Str := ["_law_places", "_law_sets", "_law_most", "_law_table", "_law_begin_here", "_law_heights_here", "_law_x", "_law_height", "_law_k"]
abbrev s_law_stands : Stmt := top 100
def d_law_stands : DD := ⟨fun K => He.ga K "_law_stands", "_law_stands", "_law_stands", defArgs s_law_stands, defBody s_law_stands, defScope s_law_stands, []⟩
abbrev a_law_stands (K : Fr) : Addr := He.ga K "_law_stands"
abbrev N_law_stands : List Str := ["_law_state", "_law_places", "_law_many", "_law_top", "_law_sets", "_law_k", "_law_code", "_law_bits", "_law_x"]
abbrev s_law_words : Stmt := top 101
def d_law_words : DD := ⟨fun K => He.ga K "_law_words", "_law_words", "_law_words", defArgs s_law_words, defBody s_law_words, defScope s_law_words, []⟩
abbrev a_law_words (K : Fr) : Addr := He.ga K "_law_words"
abbrev N_law_words : List Str := ["_law_places", "_law_letters", "_law_sets", "_law_words_here", "_law_x", "_law_chars", "_law_k"]
abbrev s_law_text : Stmt := top 102
def d_law_text : DD := ⟨fun K => He.ga K "_law_text", "_law_text", "_law_text", defArgs s_law_text, defBody s_law_text, defScope s_law_text, []⟩
abbrev a_law_text (K : Fr) : Addr := He.ga K "_law_text"
abbrev N_law_text : List Str := ["_law_state", "_law_turn", "_law_letters", "_law_size", "_law_page", "_law_k", "_law_at"]
abbrev s_law_step : Stmt := top 103
def d_law_step : DD := ⟨fun K => He.ga K "_law_step", "_law_step", "_law_step", defArgs s_law_step, defBody s_law_step, defScope s_law_step, []⟩
abbrev a_law_step (K : Fr) : Addr := He.ga K "_law_step"
abbrev N_law_step : List Str := ["_law_state", "_law_turn", "_law_rows", "_law_letters", "_law_kinds", "_law_kind", "_law_number", "_law_k", "_law_lost", "_law_page", "_law_many", "_law_menu"]
abbrev s_law_line : Stmt := top 104
def d_law_line : DD := ⟨fun K => He.ga K "_law_line", "_law_line", "_law_line", defArgs s_law_line, defBody s_law_line, defScope s_law_line, []⟩
abbrev a_law_line (K : Fr) : Addr := He.ga K "_law_line"
abbrev N_law_line : List Str := ["_law_step_here", "_law_page"]
abbrev s_law_page_taken : Stmt := top 105
def d_law_page_taken : DD := ⟨fun K => He.ga K "_law_page_taken", "_law_page_taken", "_law_page_taken", defArgs s_law_page_taken, defBody s_law_page_taken, defScope s_law_page_taken, []⟩
abbrev a_law_page_taken (K : Fr) : Addr := He.ga K "_law_page_taken"
abbrev N_law_page_taken : List Str := ["_law_page", "_law_letters", "_law_char"]
abbrev s_law_changed : Stmt := top 106
def d_law_changed : DD := ⟨fun K => He.ga K "_law_changed", "_law_changed", "_law_changed", defArgs s_law_changed, defBody s_law_changed, defScope s_law_changed, []⟩
abbrev a_law_changed (K : Fr) : Addr := He.ga K "_law_changed"
abbrev N_law_changed : List Str := ["_law_rows", "_law_step_here", "_law_limit", "_law_letters", "_law_kind", "_law_number", "_law_page", "_law_row", "_law_total", "_law_old", "_law_one"]
abbrev s_law_first_lost : Stmt := top 107
def d_law_first_lost : DD := ⟨fun K => He.ga K "_law_first_lost", "_law_first_lost", "_law_first_lost", defArgs s_law_first_lost, defBody s_law_first_lost, defScope s_law_first_lost, []⟩
abbrev a_law_first_lost (K : Fr) : Addr := He.ga K "_law_first_lost"
abbrev N_law_first_lost : List Str := ["_law_rows", "_law_k"]
abbrev s_law_cast : Stmt := top 108
def d_law_cast : DD := ⟨fun K => He.ga K "_law_cast", "_law_cast", "_law_cast", defArgs s_law_cast, defBody s_law_cast, defScope s_law_cast, []⟩
abbrev a_law_cast (K : Fr) : Addr := He.ga K "_law_cast"
abbrev N_law_cast : List Str := ["_law_account", "_law_places", "_law_letters", "_law_sets", "_law_joined", "_law_row", "_law_char"]
abbrev s_law_next : Stmt := top 109
def d_law_next : DD := ⟨fun K => He.ga K "_law_next", "_law_next", "_law_next", defArgs s_law_next, defBody s_law_next, defScope s_law_next, []⟩
abbrev a_law_next (K : Fr) : Addr := He.ga K "_law_next"
abbrev N_law_next : List Str := ["_law_account", "_law_step_here", "_law_places", "_law_letters", "_law_sets", "_law_rows"]
abbrev s_law_told : Stmt := top 110
def d_law_told : DD := ⟨fun K => He.ga K "_law_told", "_law_told", "_law_told", defArgs s_law_told, defBody s_law_told, defScope s_law_told, []⟩
abbrev a_law_told (K : Fr) : Addr := He.ga K "_law_told"
abbrev N_law_told : List Str := ["_law_desk", "_law_step_here", "_law_kind", "_law_number", "_law_page"]
abbrev s_law_entered : Stmt := top 111
def d_law_entered : DD := ⟨fun K => He.ga K "_law_entered", "_law_entered", "_law_entered", defArgs s_law_entered, defBody s_law_entered, defScope s_law_entered, []⟩
abbrev a_law_entered (K : Fr) : Addr := He.ga K "_law_entered"
abbrev N_law_entered : List Str := ["_law_desk", "_law_lines", "_law_handed", "_law_told_here", "e"]
abbrev s_law_undone : Stmt := top 112
def d_law_undone : DD := ⟨fun K => He.ga K "_law_undone", "_law_undone", "_law_undone", defArgs s_law_undone, defBody s_law_undone, defScope s_law_undone, []⟩
abbrev a_law_undone (K : Fr) : Addr := He.ga K "_law_undone"
abbrev N_law_undone : List Str := ["_law_desk", "_law_told_here", "e"]
abbrev s_law_cast_told : Stmt := top 113
def d_law_cast_told : DD := ⟨fun K => He.ga K "_law_cast_told", "_law_cast_told", "_law_cast_told", defArgs s_law_cast_told, defBody s_law_cast_told, defScope s_law_cast_told, []⟩
abbrev a_law_cast_told (K : Fr) : Addr := He.ga K "_law_cast_told"
abbrev N_law_cast_told : List Str := ["_law_desk", "_law_lost", "_law_heights_here", "_law_cast_here", "e"]
abbrev s_law_asked : Stmt := top 114
def d_law_asked : DD := ⟨fun K => He.ga K "_law_asked", "_law_asked", "_law_asked", defArgs s_law_asked, defBody s_law_asked, defScope s_law_asked, []⟩
abbrev a_law_asked (K : Fr) : Addr := He.ga K "_law_asked"
abbrev N_law_asked : List Str := ["_law_desk", "_law_account", "_law_places", "_law_letters", "_law_sets", "_law_lost"]
abbrev s_law_due_text : Stmt := top 115
def d_law_due_text : DD := ⟨fun K => He.ga K "_law_due_text", "_law_due_text", "_law_due_text", defArgs s_law_due_text, defBody s_law_due_text, defScope s_law_due_text, []⟩
abbrev a_law_due_text (K : Fr) : Addr := He.ga K "_law_due_text"
abbrev N_law_due_text : List Str := ["_law_account", "_law_words_here", "_law_shown", "_law_lines", "_law_row", "_law_word", "_law_x"]
abbrev s_law_stands_so : Stmt := top 116
def d_law_stands_so : DD := ⟨fun K => He.ga K "_law_stands_so", "_law_stands_so", "_law_stands_so", defArgs s_law_stands_so, defBody s_law_stands_so, defScope s_law_stands_so, []⟩
abbrev a_law_stands_so (K : Fr) : Addr := He.ga K "_law_stands_so"
abbrev N_law_stands_so : List Str := ["_law_desk", "_law_account", "_law_words_here", "_law_told_here"]
abbrev s_law_all_back : Stmt := top 117
def d_law_all_back : DD := ⟨fun K => He.ga K "_law_all_back", "_law_all_back", "_law_all_back", defArgs s_law_all_back, defBody s_law_all_back, defScope s_law_all_back, []⟩
abbrev a_law_all_back (K : Fr) : Addr := He.ga K "_law_all_back"
abbrev N_law_all_back : List Str := ["_law_desk", "_law_past", "_law_words_here", "_law_k"]
abbrev s_law_enter_turn : Stmt := top 118
def d_law_enter_turn : DD := ⟨fun K => He.ga K "_law_enter_turn", "_law_enter_turn", "_law_enter_turn", defArgs s_law_enter_turn, defBody s_law_enter_turn, defScope s_law_enter_turn, []⟩
abbrev a_law_enter_turn (K : Fr) : Addr := He.ga K "_law_enter_turn"
abbrev N_law_enter_turn : List Str := ["_law_desk", "_law_account", "_law_state", "_law_turn", "_law_world", "_law_lines", "_law_after", "_law_bad", "_law_k", "_law_step_here", "_law_following", "_law_told_here"]
abbrev s_law_step_turn : Stmt := top 119
def d_law_step_turn : DD := ⟨fun K => He.ga K "_law_step_turn", "_law_step_turn", "_law_step_turn", defArgs s_law_step_turn, defBody s_law_step_turn, defScope s_law_step_turn, []⟩
abbrev a_law_step_turn (K : Fr) : Addr := He.ga K "_law_step_turn"
abbrev N_law_step_turn : List Str := ["_law_desk", "_law_account", "_law_state", "_law_turn", "_law_world", "_law_step_here", "_law_after"]
abbrev s_law : Stmt := top 120
def d_law : DD := ⟨fun K => He.ga K "law", "law", "law", defArgs s_law, defBody s_law, defScope s_law, []⟩
abbrev a_law (K : Fr) : Addr := He.ga K "law"
abbrev N_law : List Str := (["_law_script", "_law_state", "_law_places", "_law_letters", "_law_sets", "_law_words_here", "_law_world", "_law_calendar", "_law_limit", "_law_desk", "_law_beside", "_law_first"] : List Str) ++ (["_law_account", "_law_past", "_law_turn", "_law_word", "_law_told_here", "_law_last"] : List Str)
abbrev s_Cast_init : Stmt := inClass (top 64) 2
def d_Cast_init : DD := ⟨fun K => He.ma K (He.ga K "Cast") "__init__", "__init__", "Cast.__init__", defArgs s_Cast_init, defBody s_Cast_init, defScope s_Cast_init, []⟩
abbrev a_Cast_init (K : Fr) : Addr := He.ma K (He.ga K "Cast") "__init__"
abbrev N_Cast_init : List Str := ["self", "heights", "places", "place", "second", "first", "balls"]
abbrev s_Cast_text : Stmt := inClass (top 64) 8
def d_Cast_text : DD := ⟨fun K => He.ma K (He.ga K "Cast") "text", "text", "Cast.text", defArgs s_Cast_text, defBody s_Cast_text, defScope s_Cast_text, []⟩
abbrev a_Cast_text (K : Fr) : Addr := He.ma K (He.ga K "Cast") "text"
abbrev N_Cast_text : List Str := ["self", "height"]
abbrev s_Cast_heights : Stmt := inClass (top 64) 11
def d_Cast_heights : DD := ⟨fun K => pgA K (He.ga K "Cast") "heights", "heights", "Cast.heights", defArgs s_Cast_heights, defBody s_Cast_heights, defScope s_Cast_heights, []⟩
abbrev a_Cast_heights (K : Fr) : Addr := pgA K (He.ga K "Cast") "heights"
abbrev N_Cast_heights : List Str := ["self"]
abbrev s_State_init : Stmt := inClass (top 75) 0
def d_State_init : DD := ⟨fun K => He.ma K (He.ga K "State") "__init__", "__init__", "State.__init__", defArgs s_State_init, defBody s_State_init, defScope s_State_init, []⟩
abbrev a_State_init (K : Fr) : Addr := He.ma K (He.ga K "State") "__init__"
abbrev N_State_init : List Str := ["self", "pages", "shown", "kept_card", "kept_bound"]
abbrev s_Desk_init : Stmt := inClass (top 76) 0
def d_Desk_init : DD := ⟨fun K => He.ma K (He.ga K "Desk") "__init__", "__init__", "Desk.__init__", defArgs s_Desk_init, defBody s_Desk_init, defScope s_Desk_init, [("bound", .int 8)]⟩
abbrev a_Desk_init (K : Fr) : Addr := He.ma K (He.ga K "Desk") "__init__"
abbrev N_Desk_init : List Str := ["self", "calendar", "bound"]
abbrev s_Desk_step : Stmt := inClass (top 76) 1
def d_Desk_step : DD := ⟨fun K => He.ma K (He.ga K "Desk") "_step", "_step", "Desk._step", defArgs s_Desk_step, defBody s_Desk_step, defScope s_Desk_step, []⟩
abbrev a_Desk_step (K : Fr) : Addr := He.ma K (He.ga K "Desk") "_step"
abbrev N_Desk_step : List Str := ["self", "held", "card", "bound", "shown", "page"]
abbrev s_Desk_hold : Stmt := inClass (top 76) 2
def d_Desk_hold : DD := ⟨fun K => He.ma K (He.ga K "Desk") "_hold", "_hold", "Desk._hold", defArgs s_Desk_hold, defBody s_Desk_hold, defScope s_Desk_hold, []⟩
abbrev a_Desk_hold (K : Fr) : Addr := He.ma K (He.ga K "Desk") "_hold"
abbrev N_Desk_hold : List Str := ["self", "held"]
abbrev s_Desk_put_at : Stmt := inClass (top 76) 3
def d_Desk_put_at : DD := ⟨fun K => He.ma K (He.ga K "Desk") "_put_at", "_put_at", "Desk._put_at", defArgs s_Desk_put_at, defBody s_Desk_put_at, defScope s_Desk_put_at, []⟩
abbrev a_Desk_put_at (K : Fr) : Addr := He.ma K (He.ga K "Desk") "_put_at"
abbrev N_Desk_put_at : List Str := ["self", "number", "page", "held"]
abbrev s_Desk_change : Stmt := inClass (top 76) 4
def d_Desk_change : DD := ⟨fun K => He.ma K (He.ga K "Desk") "_change", "_change", "Desk._change", defArgs s_Desk_change, defBody s_Desk_change, defScope s_Desk_change, []⟩
abbrev a_Desk_change (K : Fr) : Addr := He.ma K (He.ga K "Desk") "_change"
abbrev N_Desk_change : List Str := ["self", "number", "page", "held"]
abbrev s_Desk_page_at : Stmt := inClass (top 76) 5
def d_Desk_page_at : DD := ⟨fun K => He.ma K (He.ga K "Desk") "_page_at", "_page_at", "Desk._page_at", defArgs s_Desk_page_at, defBody s_Desk_page_at, defScope s_Desk_page_at, []⟩
abbrev a_Desk_page_at (K : Fr) : Addr := He.ma K (He.ga K "Desk") "_page_at"
abbrev N_Desk_page_at : List Str := ["self", "number"]
abbrev s_Desk_check_known : Stmt := inClass (top 76) 6
def d_Desk_check_known : DD := ⟨fun K => He.ma K (He.ga K "Desk") "_check_known", "_check_known", "Desk._check_known", defArgs s_Desk_check_known, defBody s_Desk_check_known, defScope s_Desk_check_known, []⟩
abbrev a_Desk_check_known (K : Fr) : Addr := He.ma K (He.ga K "Desk") "_check_known"
abbrev N_Desk_check_known : List Str := ["self", "number", "page"]
abbrev s_Desk_put : Stmt := inClass (top 76) 7
def d_Desk_put : DD := ⟨fun K => He.ma K (He.ga K "Desk") "put", "put", "Desk.put", defArgs s_Desk_put, defBody s_Desk_put, defScope s_Desk_put, []⟩
abbrev a_Desk_put (K : Fr) : Addr := He.ma K (He.ga K "Desk") "put"
abbrev N_Desk_put : List Str := ["self", "page"]
abbrev s_Desk_insert : Stmt := inClass (top 76) 8
def d_Desk_insert : DD := ⟨fun K => He.ma K (He.ga K "Desk") "insert", "insert", "Desk.insert", defArgs s_Desk_insert, defBody s_Desk_insert, defScope s_Desk_insert, []⟩
abbrev a_Desk_insert (K : Fr) : Addr := He.ma K (He.ga K "Desk") "insert"
abbrev N_Desk_insert : List Str := ["self", "number", "page"]
abbrev s_Desk_setitem : Stmt := inClass (top 76) 10
def d_Desk_setitem : DD := ⟨fun K => He.ma K (He.ga K "Desk") "__setitem__", "__setitem__", "Desk.__setitem__", defArgs s_Desk_setitem, defBody s_Desk_setitem, defScope s_Desk_setitem, []⟩
abbrev a_Desk_setitem (K : Fr) : Addr := He.ma K (He.ga K "Desk") "__setitem__"
abbrev N_Desk_setitem : List Str := ["self", "number", "page"]
abbrev s_Desk_take : Stmt := inClass (top 76) 11
def d_Desk_take : DD := ⟨fun K => He.ma K (He.ga K "Desk") "take", "take", "Desk.take", defArgs s_Desk_take, defBody s_Desk_take, defScope s_Desk_take, []⟩
abbrev a_Desk_take (K : Fr) : Addr := He.ma K (He.ga K "Desk") "take"
abbrev N_Desk_take : List Str := ["self", "number", "page"]
abbrev s_Desk_lose : Stmt := inClass (top 76) 12
def d_Desk_lose : DD := ⟨fun K => He.ma K (He.ga K "Desk") "lose", "lose", "Desk.lose", defArgs s_Desk_lose, defBody s_Desk_lose, defScope s_Desk_lose, []⟩
abbrev a_Desk_lose (K : Fr) : Addr := He.ma K (He.ga K "Desk") "lose"
abbrev N_Desk_lose : List Str := ["self", "number", "page"]
abbrev s_Desk_find : Stmt := inClass (top 76) 13
def d_Desk_find : DD := ⟨fun K => He.ma K (He.ga K "Desk") "find", "find", "Desk.find", defArgs s_Desk_find, defBody s_Desk_find, defScope s_Desk_find, []⟩
abbrev a_Desk_find (K : Fr) : Addr := He.ma K (He.ga K "Desk") "find"
abbrev N_Desk_find : List Str := ["self", "number", "page", "lost"]
abbrev s_Desk_lay : Stmt := inClass (top 76) 14
def d_Desk_lay : DD := ⟨fun K => He.ma K (He.ga K "Desk") "lay", "lay", "Desk.lay", defArgs s_Desk_lay, defBody s_Desk_lay, defScope s_Desk_lay, []⟩
abbrev a_Desk_lay (K : Fr) : Addr := He.ma K (He.ga K "Desk") "lay"
abbrev N_Desk_lay : List Str := ["self", "card"]
abbrev s_Desk_mark : Stmt := inClass (top 76) 15
def d_Desk_mark : DD := ⟨fun K => He.ma K (He.ga K "Desk") "mark", "mark", "Desk.mark", defArgs s_Desk_mark, defBody s_Desk_mark, defScope s_Desk_mark, []⟩
abbrev a_Desk_mark (K : Fr) : Addr := He.ma K (He.ga K "Desk") "mark"
abbrev N_Desk_mark : List Str := ["self"]
abbrev s_Desk_tear : Stmt := inClass (top 76) 16
def d_Desk_tear : DD := ⟨fun K => He.ma K (He.ga K "Desk") "tear", "tear", "Desk.tear", defArgs s_Desk_tear, defBody s_Desk_tear, defScope s_Desk_tear, []⟩
abbrev a_Desk_tear (K : Fr) : Addr := He.ma K (He.ga K "Desk") "tear"
abbrev N_Desk_tear : List Str := ["self"]
abbrev s_Desk_change_bound : Stmt := inClass (top 76) 17
def d_Desk_change_bound : DD := ⟨fun K => He.ma K (He.ga K "Desk") "change_bound", "change_bound", "Desk.change_bound", defArgs s_Desk_change_bound, defBody s_Desk_change_bound, defScope s_Desk_change_bound, []⟩
abbrev a_Desk_change_bound (K : Fr) : Addr := He.ma K (He.ga K "Desk") "change_bound"
abbrev N_Desk_change_bound : List Str := ["self", "number"]
abbrev s_Desk_undo : Stmt := inClass (top 76) 18
def d_Desk_undo : DD := ⟨fun K => He.ma K (He.ga K "Desk") "undo", "undo", "Desk.undo", defArgs s_Desk_undo, defBody s_Desk_undo, defScope s_Desk_undo, []⟩
abbrev a_Desk_undo (K : Fr) : Addr := He.ma K (He.ga K "Desk") "undo"
abbrev N_Desk_undo : List Str := ["self"]
abbrev s_Desk_card : Stmt := inClass (top 76) 20
def d_Desk_card : DD := ⟨fun K => pgA K (He.ga K "Desk") "card", "card", "Desk.card", defArgs s_Desk_card, defBody s_Desk_card, defScope s_Desk_card, []⟩
abbrev a_Desk_card (K : Fr) : Addr := pgA K (He.ga K "Desk") "card"
abbrev N_Desk_card : List Str := ["self"]
abbrev s_Desk_bound : Stmt := inClass (top 76) 21
def d_Desk_bound : DD := ⟨fun K => pgA K (He.ga K "Desk") "bound", "bound", "Desk.bound", defArgs s_Desk_bound, defBody s_Desk_bound, defScope s_Desk_bound, []⟩
abbrev a_Desk_bound (K : Fr) : Addr := pgA K (He.ga K "Desk") "bound"
abbrev N_Desk_bound : List Str := ["self"]
abbrev s_Desk_iter : Stmt := inClass (top 76) 24
def d_Desk_iter : DD := ⟨fun K => He.ma K (He.ga K "Desk") "__iter__", "__iter__", "Desk.__iter__", defArgs s_Desk_iter, defBody s_Desk_iter, defScope s_Desk_iter, []⟩
abbrev a_Desk_iter (K : Fr) : Addr := He.ma K (He.ga K "Desk") "__iter__"
abbrev N_Desk_iter : List Str := ["self"]
abbrev s_Desk_entries : Stmt := inClass (top 76) 26
def d_Desk_entries : DD := ⟨fun K => He.ma K (He.ga K "Desk") "entries", "entries", "Desk.entries", defArgs s_Desk_entries, defBody s_Desk_entries, defScope s_Desk_entries, []⟩
abbrev a_Desk_entries (K : Fr) : Addr := He.ma K (He.ga K "Desk") "entries"
abbrev N_Desk_entries : List Str := ["self", "number"]
abbrev s_Desk_cast : Stmt := inClass (top 76) 28
def d_Desk_cast : DD := ⟨fun K => He.ma K (He.ga K "Desk") "cast", "cast", "Desk.cast", defArgs s_Desk_cast, defBody s_Desk_cast, defScope s_Desk_cast, []⟩
abbrev a_Desk_cast (K : Fr) : Addr := He.ma K (He.ga K "Desk") "cast"
abbrev N_Desk_cast : List Str := ["self"]
abbrev s_Calendar_init : Stmt := inClass (top 80) 0
def d_Calendar_init : DD := ⟨fun K => He.ma K (He.ga K "Calendar") "__init__", "__init__", "Calendar.__init__", defArgs s_Calendar_init, defBody s_Calendar_init, defScope s_Calendar_init, []⟩
abbrev a_Calendar_init (K : Fr) : Addr := He.ma K (He.ga K "Calendar") "__init__"
abbrev N_Calendar_init : List Str := ["self", "words", "place", "word"]
abbrev s_Calendar_text : Stmt := inClass (top 80) 3
def d_Calendar_text : DD := ⟨fun K => He.ma K (He.ga K "Calendar") "text", "text", "Calendar.text", defArgs s_Calendar_text, defBody s_Calendar_text, defScope s_Calendar_text, []⟩
abbrev a_Calendar_text (K : Fr) : Addr := He.ma K (He.ga K "Calendar") "text"
abbrev N_Calendar_text : List Str := ["self", "word"]
abbrev s_Calendar_places : Stmt := inClass (top 80) 4
def d_Calendar_places : DD := ⟨fun K => pgA K (He.ga K "Calendar") "places", "places", "Calendar.places", defArgs s_Calendar_places, defBody s_Calendar_places, defScope s_Calendar_places, []⟩
abbrev a_Calendar_places (K : Fr) : Addr := pgA K (He.ga K "Calendar") "places"
abbrev N_Calendar_places : List Str := ["self"]
abbrev s_Calendar_signs : Stmt := inClass (top 80) 5
def d_Calendar_signs : DD := ⟨fun K => pgA K (He.ga K "Calendar") "signs", "signs", "Calendar.signs", defArgs s_Calendar_signs, defBody s_Calendar_signs, defScope s_Calendar_signs, []⟩
abbrev a_Calendar_signs (K : Fr) : Addr := pgA K (He.ga K "Calendar") "signs"
abbrev N_Calendar_signs : List Str := ["self", "standing", "letter"]
abbrev s_Calendar_stands : Stmt := inClass (top 80) 6
def d_Calendar_stands : DD := ⟨fun K => He.ma K (He.ga K "Calendar") "stands", "stands", "Calendar.stands", defArgs s_Calendar_stands, defBody s_Calendar_stands, defScope s_Calendar_stands, []⟩
abbrev a_Calendar_stands (K : Fr) : Addr := He.ma K (He.ga K "Calendar") "stands"
abbrev N_Calendar_stands : List Str := ["self", "sign", "places", "place", "word"]
abbrev s_Trial_init : Stmt := inClass (top 90) 0
def d_Trial_init : DD := ⟨fun K => He.ma K (He.ga K "Trial") "__init__", "__init__", "Trial.__init__", defArgs s_Trial_init, defBody s_Trial_init, defScope s_Trial_init, []⟩
abbrev a_Trial_init (K : Fr) : Addr := He.ma K (He.ga K "Trial") "__init__"
abbrev N_Trial_init : List Str := ["self", "desk"]
abbrev s_Trial_enter : Stmt := inClass (top 90) 1
def d_Trial_enter : DD := ⟨fun K => He.ma K (He.ga K "Trial") "__enter__", "__enter__", "Trial.__enter__", defArgs s_Trial_enter, defBody s_Trial_enter, defScope s_Trial_enter, []⟩
abbrev a_Trial_enter (K : Fr) : Addr := He.ma K (He.ga K "Trial") "__enter__"
abbrev N_Trial_enter : List Str := ["self"]
abbrev s_Trial_exit : Stmt := inClass (top 90) 2
def d_Trial_exit : DD := ⟨fun K => He.ma K (He.ga K "Trial") "__exit__", "__exit__", "Trial.__exit__", defArgs s_Trial_exit, defBody s_Trial_exit, defScope s_Trial_exit, []⟩
abbrev a_Trial_exit (K : Fr) : Addr := He.ma K (He.ga K "Trial") "__exit__"
abbrev N_Trial_exit : List Str := ["self", "kind", "value", "trace"]
abbrev s_BadSize_init : Stmt := inClass (top 3) 0
def d_BadSize_init : DD := ⟨fun K => He.ma K (He.ga K "BadSize") "__init__", "__init__", "BadSize.__init__", defArgs s_BadSize_init, defBody s_BadSize_init, defScope s_BadSize_init, []⟩
abbrev a_BadSize_init (K : Fr) : Addr := He.ma K (He.ga K "BadSize") "__init__"
abbrev N_BadSize_init : List Str := ["self", "size"]
abbrev s_TooManyBalls_init : Stmt := inClass (top 6) 0
def d_TooManyBalls_init : DD := ⟨fun K => He.ma K (He.ga K "TooManyBalls") "__init__", "__init__", "TooManyBalls.__init__", defArgs s_TooManyBalls_init, defBody s_TooManyBalls_init, defScope s_TooManyBalls_init, []⟩
abbrev a_TooManyBalls_init (K : Fr) : Addr := He.ma K (He.ga K "TooManyBalls") "__init__"
abbrev N_TooManyBalls_init : List Str := ["self", "amount"]
abbrev s_BadText_init : Stmt := inClass (top 12) 0
def d_BadText_init : DD := ⟨fun K => He.ma K (He.ga K "BadText") "__init__", "__init__", "BadText.__init__", defArgs s_BadText_init, defBody s_BadText_init, defScope s_BadText_init, []⟩
abbrev a_BadText_init (K : Fr) : Addr := He.ma K (He.ga K "BadText") "__init__"
abbrev N_BadText_init : List Str := ["self", "index"]
abbrev s_BadPage_init : Stmt := inClass (top 15) 0
def d_BadPage_init : DD := ⟨fun K => He.ma K (He.ga K "BadPage") "__init__", "__init__", "BadPage.__init__", defArgs s_BadPage_init, defBody s_BadPage_init, defScope s_BadPage_init, []⟩
abbrev a_BadPage_init (K : Fr) : Addr := He.ma K (He.ga K "BadPage") "__init__"
abbrev N_BadPage_init : List Str := ["self", "index"]
abbrev s_NoPage_init : Stmt := inClass (top 16) 0
def d_NoPage_init : DD := ⟨fun K => He.ma K (He.ga K "NoPage") "__init__", "__init__", "NoPage.__init__", defArgs s_NoPage_init, defBody s_NoPage_init, defScope s_NoPage_init, []⟩
abbrev a_NoPage_init (K : Fr) : Addr := He.ma K (He.ga K "NoPage") "__init__"
abbrev N_NoPage_init : List Str := ["self", "number"]
abbrev s_PageLost_init : Stmt := inClass (top 17) 0
def d_PageLost_init : DD := ⟨fun K => He.ma K (He.ga K "PageLost") "__init__", "__init__", "PageLost.__init__", defArgs s_PageLost_init, defBody s_PageLost_init, defScope s_PageLost_init, []⟩
abbrev a_PageLost_init (K : Fr) : Addr := He.ma K (He.ga K "PageLost") "__init__"
abbrev N_PageLost_init : List Str := ["self", "number"]
abbrev s_NotLost_init : Stmt := inClass (top 18) 0
def d_NotLost_init : DD := ⟨fun K => He.ma K (He.ga K "NotLost") "__init__", "__init__", "NotLost.__init__", defArgs s_NotLost_init, defBody s_NotLost_init, defScope s_NotLost_init, []⟩
abbrev a_NotLost_init (K : Fr) : Addr := He.ma K (He.ga K "NotLost") "__init__"
abbrev N_NotLost_init : List Str := ["self", "number"]
abbrev s_Full_init : Stmt := inClass (top 20) 0
def d_Full_init : DD := ⟨fun K => He.ma K (He.ga K "Full") "__init__", "__init__", "Full.__init__", defArgs s_Full_init, defBody s_Full_init, defScope s_Full_init, []⟩
abbrev a_Full_init (K : Fr) : Addr := He.ma K (He.ga K "Full") "__init__"
abbrev N_Full_init : List Str := ["self", "size"]
abbrev s_Refused_init : Stmt := inClass (top 22) 0
def d_Refused_init : DD := ⟨fun K => He.ma K (He.ga K "Refused") "__init__", "__init__", "Refused.__init__", defArgs s_Refused_init, defBody s_Refused_init, defScope s_Refused_init, []⟩
abbrev a_Refused_init (K : Fr) : Addr := He.ma K (He.ga K "Refused") "__init__"
abbrev N_Refused_init : List Str := ["self", "index"]
def fn0 : List DD := [d_check_page, d_at_place, d_heights_of, d_carried_came, d_carried_to, d_step_came, d_sets_of, d_came_of, d_cast_of, d_size_of, d_check_entries, d_is_rising]
def fn1 : List DD := [d_is_number, d_page_of_word, d_word_of_page, d_deed_of, d_carry_out, d_enter, d_write_desk, d_law_begin, d_law_draw, d_law_counts, d_law_heights, d_law_stands]
def fn2 : List DD := [d_law_words, d_law_text, d_law_step, d_law_line, d_law_page_taken, d_law_changed, d_law_first_lost, d_law_cast, d_law_next, d_law_told, d_law_entered, d_law_undone]
def fn3 : List DD := [d_law_cast_told, d_law_asked, d_law_due_text, d_law_stands_so, d_law_all_back, d_law_enter_turn, d_law_step_turn, d_law, d_Cast_init, d_Cast_text, d_Cast_heights, d_State_init]
def fn4 : List DD := [d_Desk_init, d_Desk_step, d_Desk_hold, d_Desk_put_at, d_Desk_change, d_Desk_page_at, d_Desk_check_known, d_Desk_put, d_Desk_insert, d_Desk_setitem, d_Desk_take, d_Desk_lose]
def fn5 : List DD := [d_Desk_find, d_Desk_lay, d_Desk_mark, d_Desk_tear, d_Desk_change_bound, d_Desk_undo, d_Desk_card, d_Desk_bound, d_Desk_iter, d_Desk_entries, d_Desk_cast, d_Calendar_init]
def fn6 : List DD := [d_Calendar_text, d_Calendar_places, d_Calendar_signs, d_Calendar_stands, d_Trial_init, d_Trial_enter, d_Trial_exit, d_BadSize_init, d_TooManyBalls_init, d_BadText_init, d_BadPage_init, d_NoPage_init]
def fn7 : List DD := [d_PageLost_init, d_NotLost_init, d_Full_init, d_Refused_init]
def fn : List DD := fn0 ++ fn1 ++ fn2 ++ fn3 ++ fn4 ++ fn5 ++ fn6 ++ fn7
def fb0 : List (Fr → Bool) := [
  fun K => (He.Fa.glo "check_page").ok K,
  fun K => (He.Fa.glo "at_place").ok K,
  fun K => (He.Fa.glo "heights_of").ok K,
  fun K => (He.Fa.glo "carried_came").ok K,
  fun K => (He.Fa.glo "carried_to").ok K,
  fun K => (He.Fa.glo "step_came").ok K,
  fun K => (He.Fa.glo "sets_of").ok K,
  fun K => (He.Fa.glo "came_of").ok K,
  fun K => (He.Fa.glo "cast_of").ok K,
  fun K => (He.Fa.glo "size_of").ok K,
  fun K => (He.Fa.glo "check_entries").ok K,
  fun K => (He.Fa.glo "is_rising").ok K]
def fb1 : List (Fr → Bool) := [
  fun K => (He.Fa.glo "is_number").ok K,
  fun K => (He.Fa.glo "page_of_word").ok K,
  fun K => (He.Fa.glo "word_of_page").ok K,
  fun K => (He.Fa.glo "deed_of").ok K,
  fun K => (He.Fa.glo "carry_out").ok K,
  fun K => (He.Fa.glo "enter").ok K,
  fun K => (He.Fa.glo "write_desk").ok K,
  fun K => (He.Fa.glo "_law_begin").ok K,
  fun K => (He.Fa.glo "_law_draw").ok K,
  fun K => (He.Fa.glo "_law_counts").ok K,
  fun K => (He.Fa.glo "_law_heights").ok K,
  fun K => (He.Fa.glo "_law_stands").ok K]
def fb2 : List (Fr → Bool) := [
  fun K => (He.Fa.glo "_law_words").ok K,
  fun K => (He.Fa.glo "_law_text").ok K,
  fun K => (He.Fa.glo "_law_step").ok K,
  fun K => (He.Fa.glo "_law_line").ok K,
  fun K => (He.Fa.glo "_law_page_taken").ok K,
  fun K => (He.Fa.glo "_law_changed").ok K,
  fun K => (He.Fa.glo "_law_first_lost").ok K,
  fun K => (He.Fa.glo "_law_cast").ok K,
  fun K => (He.Fa.glo "_law_next").ok K,
  fun K => (He.Fa.glo "_law_told").ok K,
  fun K => (He.Fa.glo "_law_entered").ok K,
  fun K => (He.Fa.glo "_law_undone").ok K]
def fb3 : List (Fr → Bool) := [
  fun K => (He.Fa.glo "_law_cast_told").ok K,
  fun K => (He.Fa.glo "_law_asked").ok K,
  fun K => (He.Fa.glo "_law_due_text").ok K,
  fun K => (He.Fa.glo "_law_stands_so").ok K,
  fun K => (He.Fa.glo "_law_all_back").ok K,
  fun K => (He.Fa.glo "_law_enter_turn").ok K,
  fun K => (He.Fa.glo "_law_step_turn").ok K,
  fun K => (He.Fa.glo "law").ok K,
  fun K => (He.Fa.glo "Cast").ok K,
  fun K => (He.Fa.glo "State").ok K,
  fun K => (He.Fa.glo "Desk").ok K,
  fun K => (He.Fa.glo "Calendar").ok K]
def fb4 : List (Fr → Bool) := [
  fun K => (He.Fa.glo "Trial").ok K,
  fun K => (He.Fa.glo "BadSize").ok K,
  fun K => (He.Fa.glo "TooManyBalls").ok K,
  fun K => (He.Fa.glo "BadText").ok K,
  fun K => (He.Fa.glo "BadPage").ok K,
  fun K => (He.Fa.glo "NoPage").ok K,
  fun K => (He.Fa.glo "PageLost").ok K,
  fun K => (He.Fa.glo "NotLost").ok K,
  fun K => (He.Fa.glo "Full").ok K,
  fun K => (He.Fa.glo "Refused").ok K,
  fun K => (He.Fa.glo "NoCard").ok K,
  fun K => (He.Fa.glo "NothingToUndo").ok K]
def fb5 : List (Fr → Bool) := [
  fun K => (He.Fa.glo "RollError").ok K,
  fun K => (He.Fa.glo "FORMS").ok K,
  fun K => (He.Fa.free "len").ok K,
  fun K => (He.Fa.free "range").ok K,
  fun K => (He.Fa.free "sum").ok K,
  fun K => (He.Fa.free "tuple").ok K,
  fun K => (He.Fa.free "list").ok K,
  fun K => (He.Fa.free "str").ok K,
  fun K => (He.Fa.free "int").ok K,
  fun K => (He.Fa.free "isinstance").ok K,
  fun K => (He.Fa.free "enumerate").ok K,
  fun K => (He.Fa.free "zip").ok K]
def fb6 : List (Fr → Bool) := [
  fun K => (He.Fa.free "any").ok K,
  fun K => (He.Fa.free "abs").ok K,
  fun K => (He.Fa.free "max").ok K,
  fun K => (He.Fa.free "iter").ok K,
  fun K => (He.Fa.free "bool").ok K,
  fun K => (He.Fa.int "MOST_PLACES" 6).ok K,
  fun K => (He.Fa.int "MOST_BALLS" 16).ok K,
  fun K => (He.Fa.int "MOST_HEIGHT" 96).ok K,
  fun K => (He.Fa.int "MOST_PAGE" 16).ok K,
  fun K => (He.Fa.int "MOST_PAGES" 8).ok K,
  fun K => (He.Fa.int "MOST_DIGITS" 3).ok K,
  fun K => (He.Fa.str "LETTERS" "abcdefghijklmnopqrstuvwxyz").ok K]
def fb7 : List (Fr → Bool) := [
  fun K => (He.Fa.str "DIGITS_deeds" "0123456789").ok K,
  fun K => (He.Fa.str "FIRST_WORD" "calendar ").ok K,
  fun K => (He.Fa.cls "Cast").ok K,
  fun K => (He.Fa.mkr "Cast").ok K,
  fun K => (He.Fa.noat "Cast" "_heights").ok K,
  fun K => (He.Fa.meth "Cast" "__init__").ok K,
  fun K => (He.Fa.meth "Cast" "text").ok K,
  fun K => propB K "Cast" "heights",
  fun K => (He.Fa.cls "State").ok K,
  fun K => (He.Fa.mkr "State").ok K,
  fun K => (He.Fa.noat "State" "held").ok K,
  fun K => (He.Fa.noat "State" "shown").ok K]
def fb8 : List (Fr → Bool) := [
  fun K => (He.Fa.noat "State" "kept_card").ok K,
  fun K => (He.Fa.noat "State" "kept_bound").ok K,
  fun K => (He.Fa.meth "State" "__init__").ok K,
  fun K => (He.Fa.cls "Desk").ok K,
  fun K => (He.Fa.mkr "Desk").ok K,
  fun K => (He.Fa.noat "Desk" "calendar").ok K,
  fun K => (He.Fa.noat "Desk" "_now").ok K,
  fun K => (He.Fa.noat "Desk" "_past").ok K,
  fun K => (He.Fa.meth "Desk" "__init__").ok K,
  fun K => (He.Fa.meth "Desk" "_step").ok K,
  fun K => (He.Fa.meth "Desk" "_hold").ok K,
  fun K => (He.Fa.meth "Desk" "_put_at").ok K]
def fb9 : List (Fr → Bool) := [
  fun K => (He.Fa.meth "Desk" "_change").ok K,
  fun K => (He.Fa.meth "Desk" "_page_at").ok K,
  fun K => (He.Fa.meth "Desk" "_check_known").ok K,
  fun K => (He.Fa.meth "Desk" "put").ok K,
  fun K => (He.Fa.meth "Desk" "insert").ok K,
  fun K => (He.Fa.meth "Desk" "__setitem__").ok K,
  fun K => (He.Fa.meth "Desk" "take").ok K,
  fun K => (He.Fa.meth "Desk" "lose").ok K,
  fun K => (He.Fa.meth "Desk" "find").ok K,
  fun K => (He.Fa.meth "Desk" "lay").ok K,
  fun K => (He.Fa.meth "Desk" "mark").ok K,
  fun K => (He.Fa.meth "Desk" "tear").ok K]
def fb10 : List (Fr → Bool) := [
  fun K => (He.Fa.meth "Desk" "change_bound").ok K,
  fun K => (He.Fa.meth "Desk" "undo").ok K,
  fun K => propB K "Desk" "card",
  fun K => propB K "Desk" "bound",
  fun K => (He.Fa.meth "Desk" "__iter__").ok K,
  fun K => (He.Fa.meth "Desk" "entries").ok K,
  fun K => (He.Fa.meth "Desk" "cast").ok K,
  fun K => (He.Fa.cls "Calendar").ok K,
  fun K => (He.Fa.mkr "Calendar").ok K,
  fun K => (He.Fa.noat "Calendar" "_words").ok K,
  fun K => (He.Fa.meth "Calendar" "__init__").ok K,
  fun K => (He.Fa.meth "Calendar" "text").ok K]
def fb11 : List (Fr → Bool) := [
  fun K => propB K "Calendar" "places",
  fun K => propB K "Calendar" "signs",
  fun K => (He.Fa.meth "Calendar" "stands").ok K,
  fun K => (He.Fa.cls "Trial").ok K,
  fun K => (He.Fa.mkr "Trial").ok K,
  fun K => (He.Fa.noat "Trial" "_desk").ok K,
  fun K => (He.Fa.noat "Trial" "_state").ok K,
  fun K => (He.Fa.noat "Trial" "_steps").ok K,
  fun K => (He.Fa.noat "Trial" "_one_step_more").ok K,
  fun K => (He.Fa.meth "Trial" "__init__").ok K,
  fun K => (He.Fa.meth "Trial" "__enter__").ok K,
  fun K => (He.Fa.meth "Trial" "__exit__").ok K]
def fb12 : List (Fr → Bool) := [
  fun K => cvalB K "Cast" "MOST_PLACES" 6,
  fun K => cvalB K "Cast" "MOST_BALLS" 16,
  fun K => insB K "Cast",
  fun K => dq (PySem.W.kitOne K (.ref (He.ga K "Cast")) (.ref (He.ga K "Cast"))) (some true),
  fun K => excB K "BadSize",
  fun K => einB K "BadSize",
  fun K => (He.Fa.exm "BadSize" "RollError" true).ok K,
  fun K => excB K "TooManyBalls",
  fun K => einB K "TooManyBalls",
  fun K => (He.Fa.exm "TooManyBalls" "RollError" true).ok K,
  fun K => excB K "BadText",
  fun K => einB K "BadText"]
def fb13 : List (Fr → Bool) := [
  fun K => (He.Fa.exm "BadText" "RollError" true).ok K,
  fun K => excB K "BadPage",
  fun K => einB K "BadPage",
  fun K => (He.Fa.exm "BadPage" "RollError" true).ok K,
  fun K => excB K "NoPage",
  fun K => einB K "NoPage",
  fun K => (He.Fa.exm "NoPage" "RollError" true).ok K,
  fun K => excB K "PageLost",
  fun K => einB K "PageLost",
  fun K => (He.Fa.exm "PageLost" "RollError" true).ok K,
  fun K => excB K "NotLost",
  fun K => einB K "NotLost"]
def fb14 : List (Fr → Bool) := [
  fun K => (He.Fa.exm "NotLost" "RollError" true).ok K,
  fun K => excB K "Full",
  fun K => einB K "Full",
  fun K => (He.Fa.exm "Full" "RollError" true).ok K,
  fun K => excB K "Refused",
  fun K => einB K "Refused",
  fun K => (He.Fa.exm "Refused" "RollError" true).ok K,
  fun K => excB K "NoCard",
  fun K => (He.Fa.exm "NoCard" "RollError" true).ok K,
  fun K => excB K "NothingToUndo",
  fun K => (He.Fa.exm "NothingToUndo" "RollError" true).ok K,
  fun K => PySem.W.excIn K (He.ga K "NoCard") He.veBase "ValueError.__new__"]
def fb15 : List (Fr → Bool) := [
  fun K => PySem.W.excIn K (He.ga K "NothingToUndo") He.veBase "ValueError.__new__",
  fun K => (He.Fa.exm "Refused" "Refused" true).ok K,
  fun K => (He.Fa.exm "PageLost" "PageLost" true).ok K,
  fun K => (He.Fa.exm "NothingToUndo" "NothingToUndo" true).ok K,
  fun K => (He.Fa.noat "BadSize" "size").ok K,
  fun K => (He.Fa.noat "TooManyBalls" "amount").ok K,
  fun K => (He.Fa.noat "BadText" "index").ok K,
  fun K => (He.Fa.noat "BadPage" "index").ok K,
  fun K => (He.Fa.noat "NoPage" "number").ok K,
  fun K => xfB K (He.ga K "PageLost"),
  fun K => (He.Fa.noat "PageLost" "number").ok K,
  fun K => (He.Fa.noat "NotLost" "number").ok K]
def fb16 : List (Fr → Bool) := [
  fun K => (He.Fa.noat "Full" "size").ok K,
  fun K => xfB K (He.ga K "Refused"),
  fun K => (He.Fa.noat "Refused" "index").ok K,
  fun K => xfB K (He.ga K "NothingToUndo"),
  fun K => insB K "NothingToUndo",
  fun K => dq (PySem.W.kitAny K (.ref (He.ga K "NothingToUndo")) [.ref (He.ga K "Refused"), .ref (He.ga K "PageLost")]) (some false),
  fun K => dq (PySem.W.kitOne K (.ref (He.ga K "NothingToUndo")) (.ref (He.ga K "RollError"))) (some true),
  fun K => keyB K "FORMS" ("put", [.str "page"]),
  fun K => keyB K "FORMS" ("insert", [.str "number", .str "page"]),
  fun K => keyB K "FORMS" ("set", [.str "number", .str "page"]),
  fun K => keyB K "FORMS" ("take", [.str "number"]),
  fun K => keyB K "FORMS" ("lose", [.str "number"])]
def fb17 : List (Fr → Bool) := [
  fun K => keyB K "FORMS" ("find", [.str "number", .str "page"]),
  fun K => keyB K "FORMS" ("mark", []),
  fun K => keyB K "FORMS" ("tear", []),
  fun K => keyB K "FORMS" ("bound", [.str "number"]),
  fun K => PySem.W.noSeq K (He.ga K "Desk")]
def fb : List (Fr → Bool) := fb0 ++ (fb1 ++ (fb2 ++ (fb3 ++ (fb4 ++ (fb5 ++ (fb6 ++ (fb7 ++ (fb8 ++ (fb9 ++ (fb10 ++ (fb11 ++ (fb12 ++ (fb13 ++ (fb14 ++ (fb15 ++ (fb16 ++ (fb17)))))))))))))))))
def ts : List He.Tab := [(fun K => He.ga K "FORMS", ["put", "insert", "set", "take", "lose", "find", "mark", "tear", "bound"])]
/-- an entry of a dict keyed by text -/
abbrev en (w : World) (s : Str) (k v : Value) : DictEntry := ⟨PyData.keyHash w.params s, k, v⟩
noncomputable def ob3 (w : World) : Obj := ⟨(.type "dict"), none, (.dict #[(en w "__name__" (.str "__name__" 165) (.str "law_datelessrolls_k85_whole_undo" 1950)), (en w "__doc__" (.str "__doc__" 166) .none), (en w "__package__" (.str "__package__" 167) .none), (en w "__loader__" (.str "__loader__" 168) (.builtin "__main__.__loader__#opaque")), (en w "__spec__" (.str "__spec__" 169) .none), (en w "__annotations__" (.str "__annotations__" 170) (.ref 6)), (en w "__builtins__" (.str "__builtins__" 171) (.ref 4)), (en w "__file__" (.str "__file__" 173) (.str "/claim/cut.py" 172)), (en w "__cached__" (.str "__cached__" 174) .none), (en w "_wall" (.str "_wall" 193) (.ref 21)), (en w "RollError" (.str "RollError" 213) (.ref 31)), (en w "BadSize" (.str "BadSize" 238) (.ref 51)), (en w "BadHeight" (.str "BadHeight" 263) (.ref 70)), (en w "Collision" (.str "Collision" 290) (.ref 89)), (en w "TooManyBalls" (.str "TooManyBalls" 315) (.ref 108)), (en w "BadStretch" (.str "BadStretch" 342) (.ref 127)), (en w "BadStands" (.str "BadStands" 367) (.ref 146)), (en w "BadNumber" (.str "BadNumber" 392) (.ref 165)), (en w "Unlike" (.str "Unlike" 419) (.ref 184)), (en w "NoRoom" (.str "NoRoom" 446) (.ref 203)), (en w "BadText" (.str "BadText" 471) (.ref 222)), (en w "BadCalendar" (.str "BadCalendar" 496) (.ref 241)), (en w "NoSign" (.str "NoSign" 521) (.ref 260)), (en w "BadPage" (.str "BadPage" 546) (.ref 279)), (en w "NoPage" (.str "NoPage" 571) (.ref 298)), (en w "PageLost" (.str "PageLost" 596) (.ref 317)), (en w "NotLost" (.str "NotLost" 621) (.ref 336)), (en w "NoCard" (.str "NoCard" 637) (.ref 348)), (en w "Full" (.str "Full" 662) (.ref 367)), (en w "NothingToUndo" (.str "NothingToUndo" 678) (.ref 379)), (en w "Refused" (.str "Refused" 703) (.ref 398)), (en w "MOST_PLACES" (.str "MOST_PLACES" 707) (.int (6) 706)), (en w "MOST_BALLS" (.str "MOST_BALLS" 709) (.int (16) 708)), (en w "MOST_HEIGHT" (.str "MOST_HEIGHT" 711) (.int (96) 710)), (en w "MOST_PAGE" (.str "MOST_PAGE" 713) (.int (16) 712)), (en w "check_places" (.str "check_places" 720) (.ref 407)), (en w "check_stretch" (.str "check_stretch" 728) (.ref 414)), (en w "check_stands" (.str "check_stands" 737) (.ref 421)), (en w "check_page" (.str "check_page" 747) (.ref 428)), (en w "check_like" (.str "check_like" 755) (.ref 435)), (en w "at_place" (.str "at_place" 766) (.ref 442)), (en w "landing" (.str "landing" 774) (.ref 449)), (en w "came_list" (.str "came_list" 780) (.ref 454)), (en w "heights_of" (.str "heights_of" 786) (.ref 459)), (en w "launch" (.str "launch" 794) (.ref 466)), (en w "airborne" (.str "airborne" 800) (.ref 471)), (en w "count_between" (.str "count_between" 806) (.ref 476)), (en w "one_entry" (.str "one_entry" 814) (.ref 481)), (en w "carried_came" (.str "carried_came" 820) (.ref 486)), (en w "carried_to" (.str "carried_to" 831) (.ref 493)), (en w "step_came" (.str "step_came" 842) (.ref 500)), (en w "peel" (.str "peel" 848) (.ref 505)), (en w "product_heights" (.str "product_heights" 863) (.ref 512)), (en w "mirrored_heights" (.str "mirrored_heights" 869) (.ref 517)), (en w "turned_heights" (.str "turned_heights" 875) (.ref 522)), (en w "table_of" (.str "table_of" 881) (.ref 527)), (en w "table_row" (.str "table_row" 892) (.ref 534)), (en w "heights_of_table" (.str "heights_of_table" 898) (.ref 539)), (en w "came_in_table" (.str "came_in_table" 909) (.ref 546)), (en w "is_within" (.str "is_within" 917) (.ref 553)), (en w "first_surplus" (.str "first_surplus" 928) (.ref 560)), (en w "surplus_end" (.str "surplus_end" 937) (.ref 567)), (en w "quotient_ahead" (.str "quotient_ahead" 943) (.ref 572)), (en w "least_difference" (.str "least_difference" 949) (.ref 577)), (en w "quotient_behind" (.str "quotient_behind" 957) (.ref 584)), (en w "DIGITS_casts" (.str "DIGITS_casts" 961) (.str "0123456789" 960)), (en w "MOST_TIMES" (.str "MOST_TIMES" 963) (.int (16) 962)), (en w "Cast" (.str "Cast" 1253) (.ref 785)), (en w "is_short_number" (.str "is_short_number" 1259) (.ref 794)), (en w "check_divisor" (.str "check_divisor" 1268) (.ref 801)), (en w "sets_of" (.str "sets_of" 1276) (.ref 806)), (en w "came_of" (.str "came_of" 1286) (.ref 813)), (en w "cast_of" (.str "cast_of" 1294) (.ref 820)), (en w "MOST_PAGES" (.str "MOST_PAGES" 1298) (.int (8) 1297)), (en w "size_of" (.str "size_of" 1305) (.ref 827)), (en w "check_entries" (.str "check_entries" 1311) (.ref 832)), (en w "State" (.str "State" 1346) (.ref 849)), (en w "Desk" (.str "Desk" 1632) (.ref 1090)), (en w "LETTERS" (.str "LETTERS" 1636) (.str "abcdefghijklmnopqrstuvwxyz" 1635)), (en w "is_rising" (.str "is_rising" 1645) (.ref 1101)), (en w "Calendar" (.str "Calendar" 1800) (.ref 1209)), (en w "DIGITS_deeds" (.str "DIGITS_deeds" 1804) (.str "0123456789" 1803)), (en w "MOST_DIGITS" (.str "MOST_DIGITS" 1806) (.int (3) 1805)), (en w "FORMS" (.str "FORMS" 1835) (.ref 1214)), (en w "is_number" (.str "is_number" 1841) (.ref 1228)), (en w "page_of_word" (.str "page_of_word" 1848) (.ref 1235)), (en w "word_of_page" (.str "word_of_page" 1855) (.ref 1242)), (en w "deed_of" (.str "deed_of" 1868) (.ref 1249)), (en w "carry_out" (.str "carry_out" 1874) (.ref 1254)), (en w "Trial" (.str "Trial" 1923) (.ref 1285)), (en w "enter" (.str "enter" 1935) (.ref 1296)), (en w "FIRST_WORD" (.str "FIRST_WORD" 1939) (.str "calendar " 1938)), (en w "write_desk" (.str "write_desk" 1949) (.ref 1303)), (en w "_law_begin" (.str "_law_begin" 1957) (.ref 1308)), (en w "_law_draw" (.str "_law_draw" 1967) (.ref 1315)), (en w "_law_counts" (.str "_law_counts" 1981) (.ref 1322)), (en w "_law_heights" (.str "_law_heights" 1996) (.ref 1329)), (en w "_law_stands" (.str "_law_stands" 2002) (.ref 1334)), (en w "_law_words" (.str "_law_words" 2008) (.ref 1339)), (en w "_law_text" (.str "_law_text" 2021) (.ref 1346)), (en w "_law_step" (.str "_law_step" 2027) (.ref 1351)), (en w "_law_line" (.str "_law_line" 2035) (.ref 1358)), (en w "_law_page_taken" (.str "_law_page_taken" 2044) (.ref 1365)), (en w "_law_changed" (.str "_law_changed" 2050) (.ref 1370)), (en w "_law_first_lost" (.str "_law_first_lost" 2058) (.ref 1377)), (en w "_law_cast" (.str "_law_cast" 2071) (.ref 1384)), (en w "_law_next" (.str "_law_next" 2083) (.ref 1391)), (en w "_law_told" (.str "_law_told" 2094) (.ref 1398)), (en w "_law_entered" (.str "_law_entered" 2105) (.ref 1405)), (en w "_law_undone" (.str "_law_undone" 2114) (.ref 1412)), (en w "_law_cast_told" (.str "_law_cast_told" 2125) (.ref 1419)), (en w "_law_asked" (.str "_law_asked" 2137) (.ref 1426)), (en w "_law_due_text" (.str "_law_due_text" 2143) (.ref 1431)), (en w "_law_stands_so" (.str "_law_stands_so" 2153) (.ref 1438)), (en w "_law_all_back" (.str "_law_all_back" 2163) (.ref 1445)), (en w "_law_enter_turn" (.str "_law_enter_turn" 2181) (.ref 1452)), (en w "_law_step_turn" (.str "_law_step_turn" 2194) (.ref 1459)), (en w "law" (.str "law" 2218) (.ref 1466))] 118), #[]⟩
noncomputable def ob2 : Obj := ⟨.none, none, (.dict #[] 0), #[]⟩
noncomputable def ob785 : Obj := ⟨(.type "type"), none, (.cls ⟨"Cast", [(.type "object")], [(.ref 785), (.type "object")], 784, "Cast", true, [], [], false, none, false⟩), #[none, none, (some (.str "Cast" 964)), (some (.str "Cast" 972)), (some (.builtin "object.__new__")), (some (.bool true))]⟩
noncomputable def ob784 (w : World) : Obj := ⟨(.type "dict"), none, (.dict #[(en w "__module__" (.str "__module__" 971) (.str "datelessrolls.casts" 958)), (en w "__firstlineno__" (.str "__firstlineno__" 975) (.int (255) 974)), (en w "MOST_PLACES" (.str "MOST_PLACES" 977) (.int (6) 976)), (en w "MOST_BALLS" (.str "MOST_BALLS" 979) (.int (16) 978)), (en w "__init__" (.str "__init__" 992) (.ref 598)), (en w "none" (.str "none" 1010) (.ref 605)), (en w "full" (.str "full" 1030) (.ref 615)), (en w "single" (.str "single" 1051) (.ref 625)), (en w "entry" (.str "entry" 1071) (.ref 635)), (en w "read" (.str "read" 1089) (.ref 643)), (en w "text" (.str "text" 1095) (.ref 649)), (en w "places" (.str "places" 1103) (.ref 657)), (en w "balls" (.str "balls" 1111) (.ref 665)), (en w "heights" (.str "heights" 1119) (.ref 673)), (en w "used" (.str "used" 1126) (.ref 679)), (en w "land" (.str "land" 1134) (.ref 686)), (en w "came" (.str "came" 1142) (.ref 693)), (en w "airborne" (.str "airborne" 1150) (.ref 700)), (en w "count" (.str "count" 1159) (.ref 707)), (en w "unrolled" (.str "unrolled" 1167) (.ref 714)), (en w "__mul__" (.str "__mul__" 1176) (.ref 721)), (en w "__pow__" (.str "__pow__" 1182) (.ref 726)), (en w "__floordiv__" (.str "__floordiv__" 1190) (.ref 733)), (en w "__mod__" (.str "__mod__" 1198) (.ref 740)), (en w "__le__" (.str "__le__" 1206) (.ref 747)), (en w "__eq__" (.str "__eq__" 1214) (.ref 754)), (en w "__neg__" (.str "__neg__" 1221) (.ref 761)), (en w "__rshift__" (.str "__rshift__" 1229) (.ref 768)), (en w "__len__" (.str "__len__" 1236) (.ref 775)), (en w "__iter__" (.str "__iter__" 1243) (.ref 782)), (en w "__static_attributes__" (.str "__static_attributes__" 1245) (.ref 783)), (en w "__dict__" (.str "__dict__" 1247) (.ref 786)), (en w "__weakref__" (.str "__weakref__" 1249) (.ref 787)), (en w "__doc__" (.str "__doc__" 1250) .none), (en w "__hash__" (.str "__hash__" 1251) .none)] 5), #[]⟩
noncomputable def ob849 : Obj := ⟨(.type "type"), none, (.cls ⟨"State", [(.type "object")], [(.ref 849), (.type "object")], 848, "State", true, [], [], false, none, false⟩), #[none, none, (some (.str "State" 1312)), (some (.str "State" 1320)), (some (.builtin "object.__new__")), (some (.bool true))]⟩
noncomputable def ob848 (w : World) : Obj := ⟨(.type "dict"), none, (.dict #[(en w "__module__" (.str "__module__" 1319) (.str "datelessrolls.desk" 1295)), (en w "__firstlineno__" (.str "__firstlineno__" 1323) (.int (406) 1322)), (en w "__init__" (.str "__init__" 1334) (.ref 846)), (en w "__static_attributes__" (.str "__static_attributes__" 1339) (.ref 847)), (en w "__dict__" (.str "__dict__" 1341) (.ref 850)), (en w "__weakref__" (.str "__weakref__" 1343) (.ref 851)), (en w "__doc__" (.str "__doc__" 1344) .none)] 4), #[]⟩
noncomputable def ob1090 : Obj := ⟨(.type "type"), none, (.cls ⟨"Desk", [(.type "object")], [(.ref 1090), (.type "object")], 1089, "Desk", true, [], [], false, none, false⟩), #[none, none, (some (.str "Desk" 1347)), (some (.str "Desk" 1355)), (some (.builtin "object.__new__")), (some (.bool true))]⟩
noncomputable def ob1089 (w : World) : Obj := ⟨(.type "dict"), none, (.dict #[(en w "__module__" (.str "__module__" 1354) (.str "datelessrolls.desk" 1295)), (en w "__firstlineno__" (.str "__firstlineno__" 1358) (.int (413) 1357)), (en w "__init__" (.str "__init__" 1368) (.ref 868)), (en w "_step" (.str "_step" 1374) (.ref 873)), (en w "_hold" (.str "_hold" 1382) (.ref 880)), (en w "_put_at" (.str "_put_at" 1392) (.ref 887)), (en w "_change" (.str "_change" 1402) (.ref 894)), (en w "_page_at" (.str "_page_at" 1410) (.ref 901)), (en w "_check_known" (.str "_check_known" 1419) (.ref 908)), (en w "put" (.str "put" 1427) (.ref 915)), (en w "insert" (.str "insert" 1436) (.ref 922)), (en w "put_lost" (.str "put_lost" 1444) (.ref 929)), (en w "__setitem__" (.str "__setitem__" 1453) (.ref 936)), (en w "take" (.str "take" 1462) (.ref 943)), (en w "lose" (.str "lose" 1471) (.ref 950)), (en w "find" (.str "find" 1481) (.ref 957)), (en w "lay" (.str "lay" 1489) (.ref 964)), (en w "mark" (.str "mark" 1496) (.ref 971)), (en w "tear" (.str "tear" 1503) (.ref 978)), (en w "change_bound" (.str "change_bound" 1511) (.ref 985)), (en w "undo" (.str "undo" 1518) (.ref 992)), (en w "forget" (.str "forget" 1525) (.ref 999)), (en w "card" (.str "card" 1533) (.ref 1007)), (en w "bound" (.str "bound" 1541) (.ref 1024)), (en w "__len__" (.str "__len__" 1558) (.ref 1031)), (en w "__iter__" (.str "__iter__" 1565) (.ref 1038)), (en w "__getitem__" (.str "__getitem__" 1574) (.ref 1045)), (en w "entries" (.str "entries" 1582) (.ref 1052)), (en w "sections" (.str "sections" 1589) (.ref 1059)), (en w "cast" (.str "cast" 1596) (.ref 1066)), (en w "spread" (.str "spread" 1605) (.ref 1073)), (en w "restored" (.str "restored" 1612) (.ref 1080)), (en w "borders" (.str "borders" 1621) (.ref 1087)), (en w "__static_attributes__" (.str "__static_attributes__" 1625) (.ref 1088)), (en w "__dict__" (.str "__dict__" 1627) (.ref 1091)), (en w "__weakref__" (.str "__weakref__" 1629) (.ref 1092)), (en w "__doc__" (.str "__doc__" 1630) .none)] 4), #[]⟩
noncomputable def ob1209 : Obj := ⟨(.type "type"), none, (.cls ⟨"Calendar", [(.type "object")], [(.ref 1209), (.type "object")], 1208, "Calendar", true, [], [], false, none, false⟩), #[none, none, (some (.str "Calendar" 1646)), (some (.str "Calendar" 1654)), (some (.builtin "object.__new__")), (some (.bool true))]⟩
noncomputable def ob1208 (w : World) : Obj := ⟨(.type "dict"), none, (.dict #[(en w "__module__" (.str "__module__" 1653) (.str "datelessrolls.calendars" 1633)), (en w "__firstlineno__" (.str "__firstlineno__" 1657) (.int (564) 1656)), (en w "__init__" (.str "__init__" 1667) (.ref 1115)), (en w "read" (.str "read" 1685) (.ref 1122)), (en w "every" (.str "every" 1704) (.ref 1132)), (en w "text" (.str "text" 1710) (.ref 1138)), (en w "places" (.str "places" 1718) (.ref 1146)), (en w "signs" (.str "signs" 1725) (.ref 1152)), (en w "stands" (.str "stands" 1736) (.ref 1159)), (en w "sign_for" (.str "sign_for" 1744) (.ref 1166)), (en w "__contains__" (.str "__contains__" 1755) (.ref 1173)), (en w "__neg__" (.str "__neg__" 1762) (.ref 1180)), (en w "__rshift__" (.str "__rshift__" 1768) (.ref 1185)), (en w "__eq__" (.str "__eq__" 1776) (.ref 1192)), (en w "__len__" (.str "__len__" 1783) (.ref 1199)), (en w "__iter__" (.str "__iter__" 1790) (.ref 1206)), (en w "__static_attributes__" (.str "__static_attributes__" 1792) (.ref 1207)), (en w "__dict__" (.str "__dict__" 1794) (.ref 1210)), (en w "__weakref__" (.str "__weakref__" 1796) (.ref 1211)), (en w "__doc__" (.str "__doc__" 1797) .none), (en w "__hash__" (.str "__hash__" 1798) .none)] 5), #[]⟩
noncomputable def ob1285 : Obj := ⟨(.type "type"), none, (.cls ⟨"Trial", [(.type "object")], [(.ref 1285), (.type "object")], 1284, "Trial", true, [], [], false, none, false⟩), #[none, none, (some (.str "Trial" 1875)), (some (.str "Trial" 1883)), (some (.builtin "object.__new__")), (some (.bool true))]⟩
noncomputable def ob1284 (w : World) : Obj := ⟨(.type "dict"), none, (.dict #[(en w "__module__" (.str "__module__" 1882) (.str "datelessrolls.deeds" 1801)), (en w "__firstlineno__" (.str "__firstlineno__" 1886) (.int (682) 1885)), (en w "__init__" (.str "__init__" 1894) (.ref 1268)), (en w "__enter__" (.str "__enter__" 1901) (.ref 1275)), (en w "__exit__" (.str "__exit__" 1911) (.ref 1282)), (en w "__static_attributes__" (.str "__static_attributes__" 1916) (.ref 1283)), (en w "__dict__" (.str "__dict__" 1918) (.ref 1286)), (en w "__weakref__" (.str "__weakref__" 1920) (.ref 1287)), (en w "__doc__" (.str "__doc__" 1921) .none)] 4), #[]⟩
noncomputable def ob31 : Obj := ⟨(.type "type"), none, (.cls ⟨"RollError", [(.type "ValueError")], [(.ref 31), (.type "ValueError"), (.type "Exception"), (.type "BaseException"), (.type "object")], 30, "RollError", true, [], [(.ref 51), (.ref 70), (.ref 89), (.ref 108), (.ref 127), (.ref 146), (.ref 165), (.ref 184), (.ref 203), (.ref 222), (.ref 241), (.ref 260), (.ref 279), (.ref 298), (.ref 317), (.ref 336), (.ref 348), (.ref 367), (.ref 379), (.ref 398)], false, none, false⟩), #[(some (.ref 22)), none, (some (.str "RollError" 196)), (some (.str "RollError" 204)), (some (.builtin "ValueError.__new__")), (some (.bool true))]⟩
noncomputable def ob30 (w : World) : Obj := ⟨(.type "dict"), none, (.dict #[(en w "__module__" (.str "__module__" 203) (.str "datelessrolls.errors" 194)), (en w "__firstlineno__" (.str "__firstlineno__" 207) (.int (5) 206)), (en w "__static_attributes__" (.str "__static_attributes__" 208) (.ref 29)), (en w "__weakref__" (.str "__weakref__" 210) (.ref 32)), (en w "__doc__" (.str "__doc__" 211) .none)] 3), #[]⟩
noncomputable def ob51 : Obj := ⟨(.type "type"), none, (.cls ⟨"BadSize", [(.ref 31)], [(.ref 51), (.ref 31), (.type "ValueError"), (.type "Exception"), (.type "BaseException"), (.type "object")], 50, "BadSize", true, [], [], false, none, false⟩), #[(some (.ref 35)), none, (some (.str "BadSize" 214)), (some (.str "BadSize" 222)), (some (.builtin "ValueError.__new__")), (some (.bool true))]⟩
noncomputable def ob50 (w : World) : Obj := ⟨(.type "dict"), none, (.dict #[(en w "__module__" (.str "__module__" 221) (.str "datelessrolls.errors" 194)), (en w "__firstlineno__" (.str "__firstlineno__" 225) (.int (7) 224)), (en w "__init__" (.str "__init__" 233) (.ref 48)), (en w "__static_attributes__" (.str "__static_attributes__" 235) (.ref 49)), (en w "__doc__" (.str "__doc__" 236) .none)] 2), #[]⟩
noncomputable def ob108 : Obj := ⟨(.type "type"), none, (.cls ⟨"TooManyBalls", [(.ref 31)], [(.ref 108), (.ref 31), (.type "ValueError"), (.type "Exception"), (.type "BaseException"), (.type "object")], 107, "TooManyBalls", true, [], [], false, none, false⟩), #[(some (.ref 92)), none, (some (.str "TooManyBalls" 291)), (some (.str "TooManyBalls" 299)), (some (.builtin "ValueError.__new__")), (some (.bool true))]⟩
noncomputable def ob107 (w : World) : Obj := ⟨(.type "dict"), none, (.dict #[(en w "__module__" (.str "__module__" 298) (.str "datelessrolls.errors" 194)), (en w "__firstlineno__" (.str "__firstlineno__" 302) (.int (20) 301)), (en w "__init__" (.str "__init__" 310) (.ref 105)), (en w "__static_attributes__" (.str "__static_attributes__" 312) (.ref 106)), (en w "__doc__" (.str "__doc__" 313) .none)] 2), #[]⟩
noncomputable def ob222 : Obj := ⟨(.type "type"), none, (.cls ⟨"BadText", [(.ref 31)], [(.ref 222), (.ref 31), (.type "ValueError"), (.type "Exception"), (.type "BaseException"), (.type "object")], 221, "BadText", true, [], [], false, none, false⟩), #[(some (.ref 206)), none, (some (.str "BadText" 447)), (some (.str "BadText" 455)), (some (.builtin "ValueError.__new__")), (some (.bool true))]⟩
noncomputable def ob221 (w : World) : Obj := ⟨(.type "dict"), none, (.dict #[(en w "__module__" (.str "__module__" 454) (.str "datelessrolls.errors" 194)), (en w "__firstlineno__" (.str "__firstlineno__" 458) (.int (47) 457)), (en w "__init__" (.str "__init__" 466) (.ref 219)), (en w "__static_attributes__" (.str "__static_attributes__" 468) (.ref 220)), (en w "__doc__" (.str "__doc__" 469) .none)] 2), #[]⟩
noncomputable def ob279 : Obj := ⟨(.type "type"), none, (.cls ⟨"BadPage", [(.ref 31)], [(.ref 279), (.ref 31), (.type "ValueError"), (.type "Exception"), (.type "BaseException"), (.type "object")], 278, "BadPage", true, [], [], false, none, false⟩), #[(some (.ref 263)), none, (some (.str "BadPage" 522)), (some (.str "BadPage" 530)), (some (.builtin "ValueError.__new__")), (some (.bool true))]⟩
noncomputable def ob278 (w : World) : Obj := ⟨(.type "dict"), none, (.dict #[(en w "__module__" (.str "__module__" 529) (.str "datelessrolls.errors" 194)), (en w "__firstlineno__" (.str "__firstlineno__" 533) (.int (59) 532)), (en w "__init__" (.str "__init__" 541) (.ref 276)), (en w "__static_attributes__" (.str "__static_attributes__" 543) (.ref 277)), (en w "__doc__" (.str "__doc__" 544) .none)] 2), #[]⟩
noncomputable def ob298 : Obj := ⟨(.type "type"), none, (.cls ⟨"NoPage", [(.ref 31)], [(.ref 298), (.ref 31), (.type "ValueError"), (.type "Exception"), (.type "BaseException"), (.type "object")], 297, "NoPage", true, [], [], false, none, false⟩), #[(some (.ref 282)), none, (some (.str "NoPage" 547)), (some (.str "NoPage" 555)), (some (.builtin "ValueError.__new__")), (some (.bool true))]⟩
noncomputable def ob297 (w : World) : Obj := ⟨(.type "dict"), none, (.dict #[(en w "__module__" (.str "__module__" 554) (.str "datelessrolls.errors" 194)), (en w "__firstlineno__" (.str "__firstlineno__" 558) (.int (63) 557)), (en w "__init__" (.str "__init__" 566) (.ref 295)), (en w "__static_attributes__" (.str "__static_attributes__" 568) (.ref 296)), (en w "__doc__" (.str "__doc__" 569) .none)] 2), #[]⟩
noncomputable def ob317 : Obj := ⟨(.type "type"), none, (.cls ⟨"PageLost", [(.ref 31)], [(.ref 317), (.ref 31), (.type "ValueError"), (.type "Exception"), (.type "BaseException"), (.type "object")], 316, "PageLost", true, [], [], false, none, false⟩), #[(some (.ref 301)), none, (some (.str "PageLost" 572)), (some (.str "PageLost" 580)), (some (.builtin "ValueError.__new__")), (some (.bool true))]⟩
noncomputable def ob316 (w : World) : Obj := ⟨(.type "dict"), none, (.dict #[(en w "__module__" (.str "__module__" 579) (.str "datelessrolls.errors" 194)), (en w "__firstlineno__" (.str "__firstlineno__" 583) (.int (67) 582)), (en w "__init__" (.str "__init__" 591) (.ref 314)), (en w "__static_attributes__" (.str "__static_attributes__" 593) (.ref 315)), (en w "__doc__" (.str "__doc__" 594) .none)] 2), #[]⟩
noncomputable def ob336 : Obj := ⟨(.type "type"), none, (.cls ⟨"NotLost", [(.ref 31)], [(.ref 336), (.ref 31), (.type "ValueError"), (.type "Exception"), (.type "BaseException"), (.type "object")], 335, "NotLost", true, [], [], false, none, false⟩), #[(some (.ref 320)), none, (some (.str "NotLost" 597)), (some (.str "NotLost" 605)), (some (.builtin "ValueError.__new__")), (some (.bool true))]⟩
noncomputable def ob335 (w : World) : Obj := ⟨(.type "dict"), none, (.dict #[(en w "__module__" (.str "__module__" 604) (.str "datelessrolls.errors" 194)), (en w "__firstlineno__" (.str "__firstlineno__" 608) (.int (71) 607)), (en w "__init__" (.str "__init__" 616) (.ref 333)), (en w "__static_attributes__" (.str "__static_attributes__" 618) (.ref 334)), (en w "__doc__" (.str "__doc__" 619) .none)] 2), #[]⟩
noncomputable def ob367 : Obj := ⟨(.type "type"), none, (.cls ⟨"Full", [(.ref 31)], [(.ref 367), (.ref 31), (.type "ValueError"), (.type "Exception"), (.type "BaseException"), (.type "object")], 366, "Full", true, [], [], false, none, false⟩), #[(some (.ref 351)), none, (some (.str "Full" 638)), (some (.str "Full" 646)), (some (.builtin "ValueError.__new__")), (some (.bool true))]⟩
noncomputable def ob366 (w : World) : Obj := ⟨(.type "dict"), none, (.dict #[(en w "__module__" (.str "__module__" 645) (.str "datelessrolls.errors" 194)), (en w "__firstlineno__" (.str "__firstlineno__" 649) (.int (77) 648)), (en w "__init__" (.str "__init__" 657) (.ref 364)), (en w "__static_attributes__" (.str "__static_attributes__" 659) (.ref 365)), (en w "__doc__" (.str "__doc__" 660) .none)] 2), #[]⟩
noncomputable def ob398 : Obj := ⟨(.type "type"), none, (.cls ⟨"Refused", [(.ref 31)], [(.ref 398), (.ref 31), (.type "ValueError"), (.type "Exception"), (.type "BaseException"), (.type "object")], 397, "Refused", true, [], [], false, none, false⟩), #[(some (.ref 382)), none, (some (.str "Refused" 679)), (some (.str "Refused" 687)), (some (.builtin "ValueError.__new__")), (some (.bool true))]⟩
noncomputable def ob397 (w : World) : Obj := ⟨(.type "dict"), none, (.dict #[(en w "__module__" (.str "__module__" 686) (.str "datelessrolls.errors" 194)), (en w "__firstlineno__" (.str "__firstlineno__" 690) (.int (83) 689)), (en w "__init__" (.str "__init__" 698) (.ref 395)), (en w "__static_attributes__" (.str "__static_attributes__" 700) (.ref 396)), (en w "__doc__" (.str "__doc__" 701) .none)] 2), #[]⟩
noncomputable def ob348 : Obj := ⟨(.type "type"), none, (.cls ⟨"NoCard", [(.ref 31)], [(.ref 348), (.ref 31), (.type "ValueError"), (.type "Exception"), (.type "BaseException"), (.type "object")], 347, "NoCard", true, [], [], false, none, false⟩), #[(some (.ref 339)), none, (some (.str "NoCard" 622)), (some (.str "NoCard" 630)), (some (.builtin "ValueError.__new__")), (some (.bool true))]⟩
noncomputable def ob347 (w : World) : Obj := ⟨(.type "dict"), none, (.dict #[(en w "__module__" (.str "__module__" 629) (.str "datelessrolls.errors" 194)), (en w "__firstlineno__" (.str "__firstlineno__" 633) (.int (75) 632)), (en w "__static_attributes__" (.str "__static_attributes__" 634) (.ref 346)), (en w "__doc__" (.str "__doc__" 635) .none)] 2), #[]⟩
noncomputable def ob379 : Obj := ⟨(.type "type"), none, (.cls ⟨"NothingToUndo", [(.ref 31)], [(.ref 379), (.ref 31), (.type "ValueError"), (.type "Exception"), (.type "BaseException"), (.type "object")], 378, "NothingToUndo", true, [], [], false, none, false⟩), #[(some (.ref 370)), none, (some (.str "NothingToUndo" 663)), (some (.str "NothingToUndo" 671)), (some (.builtin "ValueError.__new__")), (some (.bool true))]⟩
noncomputable def ob378 (w : World) : Obj := ⟨(.type "dict"), none, (.dict #[(en w "__module__" (.str "__module__" 670) (.str "datelessrolls.errors" 194)), (en w "__firstlineno__" (.str "__firstlineno__" 674) (.int (81) 673)), (en w "__static_attributes__" (.str "__static_attributes__" 675) (.ref 377)), (en w "__doc__" (.str "__doc__" 676) .none)] 2), #[]⟩
noncomputable def ob70 : Obj := ⟨(.type "type"), none, (.cls ⟨"BadHeight", [(.ref 31)], [(.ref 70), (.ref 31), (.type "ValueError"), (.type "Exception"), (.type "BaseException"), (.type "object")], 69, "BadHeight", true, [], [], false, none, false⟩), #[(some (.ref 54)), none, (some (.str "BadHeight" 239)), (some (.str "BadHeight" 247)), (some (.builtin "ValueError.__new__")), (some (.bool true))]⟩
noncomputable def ob69 (w : World) : Obj := ⟨(.type "dict"), none, (.dict #[(en w "__module__" (.str "__module__" 246) (.str "datelessrolls.errors" 194)), (en w "__firstlineno__" (.str "__firstlineno__" 250) (.int (11) 249)), (en w "__init__" (.str "__init__" 258) (.ref 67)), (en w "__static_attributes__" (.str "__static_attributes__" 260) (.ref 68)), (en w "__doc__" (.str "__doc__" 261) .none)] 2), #[]⟩
noncomputable def ob89 : Obj := ⟨(.type "type"), none, (.cls ⟨"Collision", [(.ref 31)], [(.ref 89), (.ref 31), (.type "ValueError"), (.type "Exception"), (.type "BaseException"), (.type "object")], 88, "Collision", true, [], [], false, none, false⟩), #[(some (.ref 73)), none, (some (.str "Collision" 264)), (some (.str "Collision" 272)), (some (.builtin "ValueError.__new__")), (some (.bool true))]⟩
noncomputable def ob88 (w : World) : Obj := ⟨(.type "dict"), none, (.dict #[(en w "__module__" (.str "__module__" 271) (.str "datelessrolls.errors" 194)), (en w "__firstlineno__" (.str "__firstlineno__" 275) (.int (15) 274)), (en w "__init__" (.str "__init__" 284) (.ref 86)), (en w "__static_attributes__" (.str "__static_attributes__" 287) (.ref 87)), (en w "__doc__" (.str "__doc__" 288) .none)] 2), #[]⟩
noncomputable def ob260 : Obj := ⟨(.type "type"), none, (.cls ⟨"NoSign", [(.ref 31)], [(.ref 260), (.ref 31), (.type "ValueError"), (.type "Exception"), (.type "BaseException"), (.type "object")], 259, "NoSign", true, [], [], false, none, false⟩), #[(some (.ref 244)), none, (some (.str "NoSign" 497)), (some (.str "NoSign" 505)), (some (.builtin "ValueError.__new__")), (some (.bool true))]⟩
noncomputable def ob259 (w : World) : Obj := ⟨(.type "dict"), none, (.dict #[(en w "__module__" (.str "__module__" 504) (.str "datelessrolls.errors" 194)), (en w "__firstlineno__" (.str "__firstlineno__" 508) (.int (55) 507)), (en w "__init__" (.str "__init__" 516) (.ref 257)), (en w "__static_attributes__" (.str "__static_attributes__" 518) (.ref 258)), (en w "__doc__" (.str "__doc__" 519) .none)] 2), #[]⟩
noncomputable def ob241 : Obj := ⟨(.type "type"), none, (.cls ⟨"BadCalendar", [(.ref 31)], [(.ref 241), (.ref 31), (.type "ValueError"), (.type "Exception"), (.type "BaseException"), (.type "object")], 240, "BadCalendar", true, [], [], false, none, false⟩), #[(some (.ref 225)), none, (some (.str "BadCalendar" 472)), (some (.str "BadCalendar" 480)), (some (.builtin "ValueError.__new__")), (some (.bool true))]⟩
noncomputable def ob240 (w : World) : Obj := ⟨(.type "dict"), none, (.dict #[(en w "__module__" (.str "__module__" 479) (.str "datelessrolls.errors" 194)), (en w "__firstlineno__" (.str "__firstlineno__" 483) (.int (51) 482)), (en w "__init__" (.str "__init__" 491) (.ref 238)), (en w "__static_attributes__" (.str "__static_attributes__" 493) (.ref 239)), (en w "__doc__" (.str "__doc__" 494) .none)] 2), #[]⟩
noncomputable def ob1214 (w : World) : Obj := ⟨(.type "dict"), none, (.dict #[(en w "put" (.str "put" 1807) (.ref 1215)), (en w "insert" (.str "insert" 1809) (.ref 1216)), (en w "set" (.str "set" 1812) (.ref 1217)), (en w "take" (.str "take" 1815) (.ref 1218)), (en w "lose" (.str "lose" 1817) (.ref 1219)), (en w "find" (.str "find" 1819) (.ref 1220)), (en w "mark" (.str "mark" 1822) (.ref 1221)), (en w "tear" (.str "tear" 1823) (.ref 1222)), (en w "bound" (.str "bound" 1824) (.ref 1223))] 9), #[]⟩
noncomputable def ob1215 : Obj := ⟨(.type "tuple"), none, (.seq #[(.str "page" 1808)] 0), #[]⟩
noncomputable def ob1216 : Obj := ⟨(.type "tuple"), none, (.seq #[(.str "number" 1810), (.str "page" 1811)] 0), #[]⟩
noncomputable def ob1217 : Obj := ⟨(.type "tuple"), none, (.seq #[(.str "number" 1813), (.str "page" 1814)] 0), #[]⟩
noncomputable def ob1218 : Obj := ⟨(.type "tuple"), none, (.seq #[(.str "number" 1816)] 0), #[]⟩
noncomputable def ob1219 : Obj := ⟨(.type "tuple"), none, (.seq #[(.str "number" 1818)] 0), #[]⟩
noncomputable def ob1220 : Obj := ⟨(.type "tuple"), none, (.seq #[(.str "number" 1820), (.str "page" 1821)] 0), #[]⟩
noncomputable def ob1221 : Obj := ⟨(.type "tuple"), none, (.seq #[] 0), #[]⟩
noncomputable def ob1222 : Obj := ⟨(.type "tuple"), none, (.seq #[] 0), #[]⟩
noncomputable def ob1223 : Obj := ⟨(.type "tuple"), none, (.seq #[(.str "number" 1825)] 0), #[]⟩
noncomputable def ob428 : Obj := ⟨(.type "function"), none, (.func ⟨"check_page", "check_page", defArgs s_check_page, .stmts (defBody s_check_page), defScope s_check_page, 3, [], .none, .none, .none, (.str "datelessrolls.checks" 704), none, (.ref 427), .none, 0⟩), #[]⟩
noncomputable def ob427 : Obj := ⟨(.type "code"), none, (.fields #[(.str "check_page" 738), (.str "check_page" 739), (.str "/claim/cut.py" 740), (.int (106) 0), (.int (2) 0), (.int (0) 0), (.int (0) 0), (.int (3) 0), (.ref 422), (.bool true), (.int (181) 0), (.ref 423), .none, (.ref 424), (.ref 425), (.ref 426), (.int (745) 0), (.int (106) 0), (.str "/claim/cut.py" 746)]), #[]⟩
noncomputable def ob442 : Obj := ⟨(.type "function"), none, (.func ⟨"at_place", "at_place", defArgs s_at_place, .stmts (defBody s_at_place), defScope s_at_place, 3, [], .none, .none, .none, (.str "datelessrolls.counting" 756), none, (.ref 441), .none, 0⟩), #[]⟩
noncomputable def ob441 : Obj := ⟨(.type "code"), none, (.fields #[(.str "at_place" 758), (.str "at_place" 759), (.str "/claim/cut.py" 760), (.int (117) 0), (.int (2) 0), (.int (0) 0), (.int (0) 0), (.int (3) 0), (.ref 436), (.bool true), (.int (181) 0), (.ref 437), .none, (.ref 438), (.ref 439), (.ref 440), (.int (764) 0), (.int (117) 0), (.str "/claim/cut.py" 765)]), #[]⟩
noncomputable def ob459 : Obj := ⟨(.type "function"), none, (.func ⟨"heights_of", "heights_of", defArgs s_heights_of, .stmts (defBody s_heights_of), defScope s_heights_of, 3, [], .none, .none, .none, (.str "datelessrolls.counting" 756), none, (.ref 458), .none, 0⟩), #[]⟩
noncomputable def ob458 : Obj := ⟨(.type "code"), none, (.fields #[(.str "heights_of" 781), (.str "heights_of" 782), (.str "/claim/cut.py" 783), (.int (129) 0), (.int (1) 0), (.int (0) 0), (.int (0) 0), (.int (3) 0), (.ref 455), (.bool true), (.int (181) 0), (.ref 456), .none, .none, .none, (.ref 457), (.int (784) 0), (.int (129) 0), (.str "/claim/cut.py" 785)]), #[]⟩
noncomputable def ob486 : Obj := ⟨(.type "function"), none, (.func ⟨"carried_came", "carried_came", defArgs s_carried_came, .stmts (defBody s_carried_came), defScope s_carried_came, 3, [], .none, .none, .none, (.str "datelessrolls.steps" 807), none, (.ref 485), .none, 0⟩), #[]⟩
noncomputable def ob485 : Obj := ⟨(.type "code"), none, (.fields #[(.str "carried_came" 815), (.str "carried_came" 816), (.str "/claim/cut.py" 817), (.int (158) 0), (.int (2) 0), (.int (0) 0), (.int (0) 0), (.int (3) 0), (.ref 482), (.bool true), (.int (181) 0), (.ref 483), .none, .none, .none, (.ref 484), (.int (818) 0), (.int (158) 0), (.str "/claim/cut.py" 819)]), #[]⟩
noncomputable def ob493 : Obj := ⟨(.type "function"), none, (.func ⟨"carried_to", "carried_to", defArgs s_carried_to, .stmts (defBody s_carried_to), defScope s_carried_to, 3, [], .none, .none, .none, (.str "datelessrolls.steps" 807), none, (.ref 492), .none, 0⟩), #[]⟩
noncomputable def ob492 : Obj := ⟨(.type "code"), none, (.fields #[(.str "carried_to" 821), (.str "carried_to" 822), (.str "/claim/cut.py" 823), (.int (160) 0), (.int (3) 0), (.int (0) 0), (.int (0) 0), (.int (3) 0), (.ref 487), (.bool true), (.int (181) 0), (.ref 488), .none, (.ref 489), (.ref 490), (.ref 491), (.int (829) 0), (.int (160) 0), (.str "/claim/cut.py" 830)]), #[]⟩
noncomputable def ob500 : Obj := ⟨(.type "function"), none, (.func ⟨"step_came", "step_came", defArgs s_step_came, .stmts (defBody s_step_came), defScope s_step_came, 3, [], .none, .none, .none, (.str "datelessrolls.steps" 807), none, (.ref 499), .none, 0⟩), #[]⟩
noncomputable def ob499 : Obj := ⟨(.type "code"), none, (.fields #[(.str "step_came" 832), (.str "step_came" 833), (.str "/claim/cut.py" 834), (.int (168) 0), (.int (2) 0), (.int (0) 0), (.int (0) 0), (.int (3) 0), (.ref 494), (.bool true), (.int (181) 0), (.ref 495), .none, (.ref 496), (.ref 497), (.ref 498), (.int (840) 0), (.int (168) 0), (.str "/claim/cut.py" 841)]), #[]⟩
noncomputable def ob806 : Obj := ⟨(.type "function"), none, (.func ⟨"sets_of", "sets_of", defArgs s_sets_of, .stmts (defBody s_sets_of), defScope s_sets_of, 3, [], .none, .none, .none, (.str "datelessrolls.pages" 1269), none, (.ref 805), .none, 0⟩), #[]⟩
noncomputable def ob805 : Obj := ⟨(.type "code"), none, (.fields #[(.str "sets_of" 1271), (.str "sets_of" 1272), (.str "/claim/cut.py" 1273), (.int (388) 0), (.int (2) 0), (.int (0) 0), (.int (0) 0), (.int (3) 0), (.ref 802), (.bool true), (.int (181) 0), (.ref 803), .none, .none, .none, (.ref 804), (.int (1274) 0), (.int (388) 0), (.str "/claim/cut.py" 1275)]), #[]⟩
noncomputable def ob813 : Obj := ⟨(.type "function"), none, (.func ⟨"came_of", "came_of", defArgs s_came_of, .stmts (defBody s_came_of), defScope s_came_of, 3, [], .none, .none, .none, (.str "datelessrolls.pages" 1269), none, (.ref 812), .none, 0⟩), #[]⟩
noncomputable def ob812 : Obj := ⟨(.type "code"), none, (.fields #[(.str "came_of" 1277), (.str "came_of" 1278), (.str "/claim/cut.py" 1279), (.int (391) 0), (.int (2) 0), (.int (0) 0), (.int (0) 0), (.int (3) 0), (.ref 807), (.bool true), (.int (181) 0), (.ref 808), .none, (.ref 809), (.ref 810), (.ref 811), (.int (1284) 0), (.int (391) 0), (.str "/claim/cut.py" 1285)]), #[]⟩
noncomputable def ob820 : Obj := ⟨(.type "function"), none, (.func ⟨"cast_of", "cast_of", defArgs s_cast_of, .stmts (defBody s_cast_of), defScope s_cast_of, 3, [], .none, .none, .none, (.str "datelessrolls.pages" 1269), none, (.ref 819), .none, 0⟩), #[]⟩
noncomputable def ob819 : Obj := ⟨(.type "code"), none, (.fields #[(.str "cast_of" 1287), (.str "cast_of" 1288), (.str "/claim/cut.py" 1289), (.int (396) 0), (.int (2) 0), (.int (0) 0), (.int (0) 0), (.int (3) 0), (.ref 814), (.bool true), (.int (181) 0), (.ref 815), .none, (.ref 816), (.ref 817), (.ref 818), (.int (1292) 0), (.int (396) 0), (.str "/claim/cut.py" 1293)]), #[]⟩
noncomputable def ob827 : Obj := ⟨(.type "function"), none, (.func ⟨"size_of", "size_of", defArgs s_size_of, .stmts (defBody s_size_of), defScope s_size_of, 3, [], .none, .none, .none, (.str "datelessrolls.desk" 1295), none, (.ref 826), .none, 0⟩), #[]⟩
noncomputable def ob826 : Obj := ⟨(.type "code"), none, (.fields #[(.str "size_of" 1299), (.str "size_of" 1300), (.str "/claim/cut.py" 1301), (.int (400) 0), (.int (1) 0), (.int (0) 0), (.int (0) 0), (.int (3) 0), (.ref 821), (.bool true), (.int (181) 0), (.ref 822), .none, (.ref 823), (.ref 824), (.ref 825), (.int (1303) 0), (.int (400) 0), (.str "/claim/cut.py" 1304)]), #[]⟩
noncomputable def ob832 : Obj := ⟨(.type "function"), none, (.func ⟨"check_entries", "check_entries", defArgs s_check_entries, .stmts (defBody s_check_entries), defScope s_check_entries, 3, [], .none, .none, .none, (.str "datelessrolls.desk" 1295), none, (.ref 831), .none, 0⟩), #[]⟩
noncomputable def ob831 : Obj := ⟨(.type "code"), none, (.fields #[(.str "check_entries" 1306), (.str "check_entries" 1307), (.str "/claim/cut.py" 1308), (.int (402) 0), (.int (1) 0), (.int (0) 0), (.int (0) 0), (.int (3) 0), (.ref 828), (.bool true), (.int (181) 0), (.ref 829), .none, .none, .none, (.ref 830), (.int (1309) 0), (.int (402) 0), (.str "/claim/cut.py" 1310)]), #[]⟩
noncomputable def ob1101 : Obj := ⟨(.type "function"), none, (.func ⟨"is_rising", "is_rising", defArgs s_is_rising, .stmts (defBody s_is_rising), defScope s_is_rising, 3, [], .none, .none, .none, (.str "datelessrolls.calendars" 1633), none, (.ref 1100), .none, 0⟩), #[]⟩
noncomputable def ob1100 : Obj := ⟨(.type "code"), none, (.fields #[(.str "is_rising" 1637), (.str "is_rising" 1638), (.str "/claim/cut.py" 1639), (.int (557) 0), (.int (1) 0), (.int (0) 0), (.int (0) 0), (.int (3) 0), (.ref 1095), (.bool true), (.int (181) 0), (.ref 1096), .none, (.ref 1097), (.ref 1098), (.ref 1099), (.int (1643) 0), (.int (557) 0), (.str "/claim/cut.py" 1644)]), #[]⟩
noncomputable def ob1228 : Obj := ⟨(.type "function"), none, (.func ⟨"is_number", "is_number", defArgs s_is_number, .stmts (defBody s_is_number), defScope s_is_number, 3, [], .none, .none, .none, (.str "datelessrolls.deeds" 1801), none, (.ref 1227), .none, 0⟩), #[]⟩
noncomputable def ob1227 : Obj := ⟨(.type "code"), none, (.fields #[(.str "is_number" 1836), (.str "is_number" 1837), (.str "/claim/cut.py" 1838), (.int (634) 0), (.int (1) 0), (.int (0) 0), (.int (0) 0), (.int (3) 0), (.ref 1224), (.bool true), (.int (181) 0), (.ref 1225), .none, .none, .none, (.ref 1226), (.int (1839) 0), (.int (634) 0), (.str "/claim/cut.py" 1840)]), #[]⟩
noncomputable def ob1235 : Obj := ⟨(.type "function"), none, (.func ⟨"page_of_word", "page_of_word", defArgs s_page_of_word, .stmts (defBody s_page_of_word), defScope s_page_of_word, 3, [], .none, .none, .none, (.str "datelessrolls.deeds" 1801), none, (.ref 1234), .none, 0⟩), #[]⟩
noncomputable def ob1234 : Obj := ⟨(.type "code"), none, (.fields #[(.str "page_of_word" 1842), (.str "page_of_word" 1843), (.str "/claim/cut.py" 1844), (.int (638) 0), (.int (1) 0), (.int (0) 0), (.int (0) 0), (.int (3) 0), (.ref 1229), (.bool true), (.int (181) 0), (.ref 1230), .none, (.ref 1231), (.ref 1232), (.ref 1233), (.int (1846) 0), (.int (638) 0), (.str "/claim/cut.py" 1847)]), #[]⟩
noncomputable def ob1242 : Obj := ⟨(.type "function"), none, (.func ⟨"word_of_page", "word_of_page", defArgs s_word_of_page, .stmts (defBody s_word_of_page), defScope s_word_of_page, 3, [], .none, .none, .none, (.str "datelessrolls.deeds" 1801), none, (.ref 1241), .none, 0⟩), #[]⟩
noncomputable def ob1241 : Obj := ⟨(.type "code"), none, (.fields #[(.str "word_of_page" 1849), (.str "word_of_page" 1850), (.str "/claim/cut.py" 1851), (.int (640) 0), (.int (1) 0), (.int (0) 0), (.int (0) 0), (.int (3) 0), (.ref 1236), (.bool true), (.int (181) 0), (.ref 1237), .none, (.ref 1238), (.ref 1239), (.ref 1240), (.int (1853) 0), (.int (640) 0), (.str "/claim/cut.py" 1854)]), #[]⟩
noncomputable def ob1249 : Obj := ⟨(.type "function"), none, (.func ⟨"deed_of", "deed_of", defArgs s_deed_of, .stmts (defBody s_deed_of), defScope s_deed_of, 3, [], .none, .none, .none, (.str "datelessrolls.deeds" 1801), none, (.ref 1248), .none, 0⟩), #[]⟩
noncomputable def ob1248 : Obj := ⟨(.type "code"), none, (.fields #[(.str "deed_of" 1856), (.str "deed_of" 1857), (.str "/claim/cut.py" 1858), (.int (642) 0), (.int (1) 0), (.int (0) 0), (.int (0) 0), (.int (3) 0), (.ref 1243), (.bool true), (.int (181) 0), (.ref 1244), .none, (.ref 1245), (.ref 1246), (.ref 1247), (.int (1866) 0), (.int (642) 0), (.str "/claim/cut.py" 1867)]), #[]⟩
noncomputable def ob1254 : Obj := ⟨(.type "function"), none, (.func ⟨"carry_out", "carry_out", defArgs s_carry_out, .stmts (defBody s_carry_out), defScope s_carry_out, 3, [], .none, .none, .none, (.str "datelessrolls.deeds" 1801), none, (.ref 1253), .none, 0⟩), #[]⟩
noncomputable def ob1253 : Obj := ⟨(.type "code"), none, (.fields #[(.str "carry_out" 1869), (.str "carry_out" 1870), (.str "/claim/cut.py" 1871), (.int (661) 0), (.int (2) 0), (.int (0) 0), (.int (0) 0), (.int (3) 0), (.ref 1250), (.bool true), (.int (181) 0), (.ref 1251), .none, .none, .none, (.ref 1252), (.int (1872) 0), (.int (661) 0), (.str "/claim/cut.py" 1873)]), #[]⟩
noncomputable def ob1296 : Obj := ⟨(.type "function"), none, (.func ⟨"enter", "enter", defArgs s_enter, .stmts (defBody s_enter), defScope s_enter, 3, [], .none, .none, .none, (.str "datelessrolls.deeds" 1801), none, (.ref 1295), .none, 0⟩), #[]⟩
noncomputable def ob1295 : Obj := ⟨(.type "code"), none, (.fields #[(.str "enter" 1924), (.str "enter" 1925), (.str "/claim/cut.py" 1926), (.int (699) 0), (.int (2) 0), (.int (0) 0), (.int (0) 0), (.int (3) 0), (.ref 1290), (.bool true), (.int (181) 0), (.ref 1291), .none, (.ref 1292), (.ref 1293), (.ref 1294), (.int (1933) 0), (.int (699) 0), (.str "/claim/cut.py" 1934)]), #[]⟩
noncomputable def ob1303 : Obj := ⟨(.type "function"), none, (.func ⟨"write_desk", "write_desk", defArgs s_write_desk, .stmts (defBody s_write_desk), defScope s_write_desk, 3, [], .none, .none, .none, (.str "datelessrolls.journal" 1936), none, (.ref 1302), .none, 0⟩), #[]⟩
noncomputable def ob1302 : Obj := ⟨(.type "code"), none, (.fields #[(.str "write_desk" 1940), (.str "write_desk" 1941), (.str "/claim/cut.py" 1942), (.int (712) 0), (.int (1) 0), (.int (0) 0), (.int (0) 0), (.int (3) 0), (.ref 1297), (.bool true), (.int (181) 0), (.ref 1298), .none, (.ref 1299), (.ref 1300), (.ref 1301), (.int (1947) 0), (.int (712) 0), (.str "/claim/cut.py" 1948)]), #[]⟩
noncomputable def ob1308 : Obj := ⟨(.type "function"), none, (.func ⟨"_law_begin", "_law_begin", defArgs s_law_begin, .stmts (defBody s_law_begin), defScope s_law_begin, 3, [], .none, .none, .none, (.str "law_datelessrolls_k85_whole_undo" 1950), none, (.ref 1307), .none, 0⟩), #[]⟩
noncomputable def ob1307 : Obj := ⟨(.type "code"), none, (.fields #[(.str "_law_begin" 1952), (.str "_law_begin" 1953), (.str "/claim/cut.py" 1954), (.int (723) 0), (.int (1) 0), (.int (0) 0), (.int (0) 0), (.int (3) 0), (.ref 1304), (.bool true), (.int (181) 0), (.ref 1305), .none, .none, .none, (.ref 1306), (.int (1955) 0), (.int (723) 0), (.str "/claim/cut.py" 1956)]), #[]⟩
noncomputable def ob1315 : Obj := ⟨(.type "function"), none, (.func ⟨"_law_draw", "_law_draw", defArgs s_law_draw, .stmts (defBody s_law_draw), defScope s_law_draw, 3, [], .none, .none, .none, (.str "law_datelessrolls_k85_whole_undo" 1950), none, (.ref 1314), .none, 0⟩), #[]⟩
noncomputable def ob1314 : Obj := ⟨(.type "code"), none, (.fields #[(.str "_law_draw" 1958), (.str "_law_draw" 1959), (.str "/claim/cut.py" 1960), (.int (725) 0), (.int (2) 0), (.int (0) 0), (.int (0) 0), (.int (3) 0), (.ref 1309), (.bool true), (.int (181) 0), (.ref 1310), .none, (.ref 1311), (.ref 1312), (.ref 1313), (.int (1965) 0), (.int (725) 0), (.str "/claim/cut.py" 1966)]), #[]⟩
noncomputable def ob1322 : Obj := ⟨(.type "function"), none, (.func ⟨"_law_counts", "_law_counts", defArgs s_law_counts, .stmts (defBody s_law_counts), defScope s_law_counts, 3, [], .none, .none, .none, (.str "law_datelessrolls_k85_whole_undo" 1950), none, (.ref 1321), .none, 0⟩), #[]⟩
noncomputable def ob1321 : Obj := ⟨(.type "code"), none, (.fields #[(.str "_law_counts" 1968), (.str "_law_counts" 1969), (.str "/claim/cut.py" 1970), (.int (733) 0), (.int (4) 0), (.int (0) 0), (.int (0) 0), (.int (3) 0), (.ref 1316), (.bool true), (.int (181) 0), (.ref 1317), .none, (.ref 1318), (.ref 1319), (.ref 1320), (.int (1979) 0), (.int (733) 0), (.str "/claim/cut.py" 1980)]), #[]⟩
noncomputable def ob1329 : Obj := ⟨(.type "function"), none, (.func ⟨"_law_heights", "_law_heights", defArgs s_law_heights, .stmts (defBody s_law_heights), defScope s_law_heights, 3, [], .none, .none, .none, (.str "law_datelessrolls_k85_whole_undo" 1950), none, (.ref 1328), .none, 0⟩), #[]⟩
noncomputable def ob1328 : Obj := ⟨(.type "code"), none, (.fields #[(.str "_law_heights" 1982), (.str "_law_heights" 1983), (.str "/claim/cut.py" 1984), (.int (744) 0), (.int (2) 0), (.int (0) 0), (.int (0) 0), (.int (3) 0), (.ref 1323), (.bool true), (.int (181) 0), (.ref 1324), .none, (.ref 1325), (.ref 1326), (.ref 1327), (.int (1994) 0), (.int (744) 0), (.str "/claim/cut.py" 1995)]), #[]⟩
noncomputable def ob1334 : Obj := ⟨(.type "function"), none, (.func ⟨"_law_stands", "_law_stands", defArgs s_law_stands, .stmts (defBody s_law_stands), defScope s_law_stands, 3, [], .none, .none, .none, (.str "law_datelessrolls_k85_whole_undo" 1950), none, (.ref 1333), .none, 0⟩), #[]⟩
noncomputable def ob1333 : Obj := ⟨(.type "code"), none, (.fields #[(.str "_law_stands" 1997), (.str "_law_stands" 1998), (.str "/claim/cut.py" 1999), (.int (757) 0), (.int (3) 0), (.int (0) 0), (.int (0) 0), (.int (3) 0), (.ref 1330), (.bool true), (.int (181) 0), (.ref 1331), .none, .none, .none, (.ref 1332), (.int (2000) 0), (.int (757) 0), (.str "/claim/cut.py" 2001)]), #[]⟩
noncomputable def ob1339 : Obj := ⟨(.type "function"), none, (.func ⟨"_law_words", "_law_words", defArgs s_law_words, .stmts (defBody s_law_words), defScope s_law_words, 3, [], .none, .none, .none, (.str "law_datelessrolls_k85_whole_undo" 1950), none, (.ref 1338), .none, 0⟩), #[]⟩
noncomputable def ob1338 : Obj := ⟨(.type "code"), none, (.fields #[(.str "_law_words" 2003), (.str "_law_words" 2004), (.str "/claim/cut.py" 2005), (.int (765) 0), (.int (3) 0), (.int (0) 0), (.int (0) 0), (.int (3) 0), (.ref 1335), (.bool true), (.int (181) 0), (.ref 1336), .none, .none, .none, (.ref 1337), (.int (2006) 0), (.int (765) 0), (.str "/claim/cut.py" 2007)]), #[]⟩
noncomputable def ob1346 : Obj := ⟨(.type "function"), none, (.func ⟨"_law_text", "_law_text", defArgs s_law_text, .stmts (defBody s_law_text), defScope s_law_text, 3, [], .none, .none, .none, (.str "law_datelessrolls_k85_whole_undo" 1950), none, (.ref 1345), .none, 0⟩), #[]⟩
noncomputable def ob1345 : Obj := ⟨(.type "code"), none, (.fields #[(.str "_law_text" 2009), (.str "_law_text" 2010), (.str "/claim/cut.py" 2011), (.int (771) 0), (.int (3) 0), (.int (0) 0), (.int (0) 0), (.int (3) 0), (.ref 1340), (.bool true), (.int (181) 0), (.ref 1341), .none, (.ref 1342), (.ref 1343), (.ref 1344), (.int (2019) 0), (.int (771) 0), (.str "/claim/cut.py" 2020)]), #[]⟩
noncomputable def ob1351 : Obj := ⟨(.type "function"), none, (.func ⟨"_law_step", "_law_step", defArgs s_law_step, .stmts (defBody s_law_step), defScope s_law_step, 3, [], .none, .none, .none, (.str "law_datelessrolls_k85_whole_undo" 1950), none, (.ref 1350), .none, 0⟩), #[]⟩
noncomputable def ob1350 : Obj := ⟨(.type "code"), none, (.fields #[(.str "_law_step" 2022), (.str "_law_step" 2023), (.str "/claim/cut.py" 2024), (.int (780) 0), (.int (4) 0), (.int (0) 0), (.int (0) 0), (.int (3) 0), (.ref 1347), (.bool true), (.int (181) 0), (.ref 1348), .none, .none, .none, (.ref 1349), (.int (2025) 0), (.int (780) 0), (.str "/claim/cut.py" 2026)]), #[]⟩
noncomputable def ob1358 : Obj := ⟨(.type "function"), none, (.func ⟨"_law_line", "_law_line", defArgs s_law_line, .stmts (defBody s_law_line), defScope s_law_line, 3, [], .none, .none, .none, (.str "law_datelessrolls_k85_whole_undo" 1950), none, (.ref 1357), .none, 0⟩), #[]⟩
noncomputable def ob1357 : Obj := ⟨(.type "code"), none, (.fields #[(.str "_law_line" 2028), (.str "_law_line" 2029), (.str "/claim/cut.py" 2030), (.int (800) 0), (.int (1) 0), (.int (0) 0), (.int (0) 0), (.int (3) 0), (.ref 1352), (.bool true), (.int (181) 0), (.ref 1353), .none, (.ref 1354), (.ref 1355), (.ref 1356), (.int (2033) 0), (.int (800) 0), (.str "/claim/cut.py" 2034)]), #[]⟩
noncomputable def ob1365 : Obj := ⟨(.type "function"), none, (.func ⟨"_law_page_taken", "_law_page_taken", defArgs s_law_page_taken, .stmts (defBody s_law_page_taken), defScope s_law_page_taken, 3, [], .none, .none, .none, (.str "law_datelessrolls_k85_whole_undo" 1950), none, (.ref 1364), .none, 0⟩), #[]⟩
noncomputable def ob1364 : Obj := ⟨(.type "code"), none, (.fields #[(.str "_law_page_taken" 2036), (.str "_law_page_taken" 2037), (.str "/claim/cut.py" 2038), (.int (811) 0), (.int (2) 0), (.int (0) 0), (.int (0) 0), (.int (3) 0), (.ref 1359), (.bool true), (.int (181) 0), (.ref 1360), .none, (.ref 1361), (.ref 1362), (.ref 1363), (.int (2042) 0), (.int (811) 0), (.str "/claim/cut.py" 2043)]), #[]⟩
noncomputable def ob1370 : Obj := ⟨(.type "function"), none, (.func ⟨"_law_changed", "_law_changed", defArgs s_law_changed, .stmts (defBody s_law_changed), defScope s_law_changed, 3, [], .none, .none, .none, (.str "law_datelessrolls_k85_whole_undo" 1950), none, (.ref 1369), .none, 0⟩), #[]⟩
noncomputable def ob1369 : Obj := ⟨(.type "code"), none, (.fields #[(.str "_law_changed" 2045), (.str "_law_changed" 2046), (.str "/claim/cut.py" 2047), (.int (816) 0), (.int (4) 0), (.int (0) 0), (.int (0) 0), (.int (3) 0), (.ref 1366), (.bool true), (.int (181) 0), (.ref 1367), .none, .none, .none, (.ref 1368), (.int (2048) 0), (.int (816) 0), (.str "/claim/cut.py" 2049)]), #[]⟩
noncomputable def ob1377 : Obj := ⟨(.type "function"), none, (.func ⟨"_law_first_lost", "_law_first_lost", defArgs s_law_first_lost, .stmts (defBody s_law_first_lost), defScope s_law_first_lost, 3, [], .none, .none, .none, (.str "law_datelessrolls_k85_whole_undo" 1950), none, (.ref 1376), .none, 0⟩), #[]⟩
noncomputable def ob1376 : Obj := ⟨(.type "code"), none, (.fields #[(.str "_law_first_lost" 2051), (.str "_law_first_lost" 2052), (.str "/claim/cut.py" 2053), (.int (847) 0), (.int (1) 0), (.int (0) 0), (.int (0) 0), (.int (3) 0), (.ref 1371), (.bool true), (.int (181) 0), (.ref 1372), .none, (.ref 1373), (.ref 1374), (.ref 1375), (.int (2056) 0), (.int (847) 0), (.str "/claim/cut.py" 2057)]), #[]⟩
noncomputable def ob1384 : Obj := ⟨(.type "function"), none, (.func ⟨"_law_cast", "_law_cast", defArgs s_law_cast, .stmts (defBody s_law_cast), defScope s_law_cast, 3, [], .none, .none, .none, (.str "law_datelessrolls_k85_whole_undo" 1950), none, (.ref 1383), .none, 0⟩), #[]⟩
noncomputable def ob1383 : Obj := ⟨(.type "code"), none, (.fields #[(.str "_law_cast" 2059), (.str "_law_cast" 2060), (.str "/claim/cut.py" 2061), (.int (852) 0), (.int (4) 0), (.int (0) 0), (.int (0) 0), (.int (3) 0), (.ref 1378), (.bool true), (.int (181) 0), (.ref 1379), .none, (.ref 1380), (.ref 1381), (.ref 1382), (.int (2069) 0), (.int (852) 0), (.str "/claim/cut.py" 2070)]), #[]⟩
noncomputable def ob1391 : Obj := ⟨(.type "function"), none, (.func ⟨"_law_next", "_law_next", defArgs s_law_next, .stmts (defBody s_law_next), defScope s_law_next, 3, [], .none, .none, .none, (.str "law_datelessrolls_k85_whole_undo" 1950), none, (.ref 1390), .none, 0⟩), #[]⟩
noncomputable def ob1390 : Obj := ⟨(.type "code"), none, (.fields #[(.str "_law_next" 2072), (.str "_law_next" 2073), (.str "/claim/cut.py" 2074), (.int (858) 0), (.int (5) 0), (.int (0) 0), (.int (0) 0), (.int (3) 0), (.ref 1385), (.bool true), (.int (181) 0), (.ref 1386), .none, (.ref 1387), (.ref 1388), (.ref 1389), (.int (2081) 0), (.int (858) 0), (.str "/claim/cut.py" 2082)]), #[]⟩
noncomputable def ob1398 : Obj := ⟨(.type "function"), none, (.func ⟨"_law_told", "_law_told", defArgs s_law_told, .stmts (defBody s_law_told), defScope s_law_told, 3, [], .none, .none, .none, (.str "law_datelessrolls_k85_whole_undo" 1950), none, (.ref 1397), .none, 0⟩), #[]⟩
noncomputable def ob1397 : Obj := ⟨(.type "code"), none, (.fields #[(.str "_law_told" 2084), (.str "_law_told" 2085), (.str "/claim/cut.py" 2086), (.int (876) 0), (.int (2) 0), (.int (0) 0), (.int (0) 0), (.int (3) 0), (.ref 1392), (.bool true), (.int (181) 0), (.ref 1393), .none, (.ref 1394), (.ref 1395), (.ref 1396), (.int (2092) 0), (.int (876) 0), (.str "/claim/cut.py" 2093)]), #[]⟩
noncomputable def ob1405 : Obj := ⟨(.type "function"), none, (.func ⟨"_law_entered", "_law_entered", defArgs s_law_entered, .stmts (defBody s_law_entered), defScope s_law_entered, 3, [], .none, .none, .none, (.str "law_datelessrolls_k85_whole_undo" 1950), none, (.ref 1404), .none, 0⟩), #[]⟩
noncomputable def ob1404 : Obj := ⟨(.type "code"), none, (.fields #[(.str "_law_entered" 2095), (.str "_law_entered" 2096), (.str "/claim/cut.py" 2097), (.int (902) 0), (.int (2) 0), (.int (0) 0), (.int (0) 0), (.int (3) 0), (.ref 1399), (.bool true), (.int (181) 0), (.ref 1400), .none, (.ref 1401), (.ref 1402), (.ref 1403), (.int (2103) 0), (.int (902) 0), (.str "/claim/cut.py" 2104)]), #[]⟩
noncomputable def ob1412 : Obj := ⟨(.type "function"), none, (.func ⟨"_law_undone", "_law_undone", defArgs s_law_undone, .stmts (defBody s_law_undone), defScope s_law_undone, 3, [], .none, .none, .none, (.str "law_datelessrolls_k85_whole_undo" 1950), none, (.ref 1411), .none, 0⟩), #[]⟩
noncomputable def ob1411 : Obj := ⟨(.type "code"), none, (.fields #[(.str "_law_undone" 2106), (.str "_law_undone" 2107), (.str "/claim/cut.py" 2108), (.int (913) 0), (.int (1) 0), (.int (0) 0), (.int (0) 0), (.int (3) 0), (.ref 1406), (.bool true), (.int (181) 0), (.ref 1407), .none, (.ref 1408), (.ref 1409), (.ref 1410), (.int (2112) 0), (.int (913) 0), (.str "/claim/cut.py" 2113)]), #[]⟩
noncomputable def ob1419 : Obj := ⟨(.type "function"), none, (.func ⟨"_law_cast_told", "_law_cast_told", defArgs s_law_cast_told, .stmts (defBody s_law_cast_told), defScope s_law_cast_told, 3, [], .none, .none, .none, (.str "law_datelessrolls_k85_whole_undo" 1950), none, (.ref 1418), .none, 0⟩), #[]⟩
noncomputable def ob1418 : Obj := ⟨(.type "code"), none, (.fields #[(.str "_law_cast_told" 2115), (.str "_law_cast_told" 2116), (.str "/claim/cut.py" 2117), (.int (923) 0), (.int (3) 0), (.int (0) 0), (.int (0) 0), (.int (3) 0), (.ref 1413), (.bool true), (.int (181) 0), (.ref 1414), .none, (.ref 1415), (.ref 1416), (.ref 1417), (.int (2123) 0), (.int (923) 0), (.str "/claim/cut.py" 2124)]), #[]⟩
noncomputable def ob1426 : Obj := ⟨(.type "function"), none, (.func ⟨"_law_asked", "_law_asked", defArgs s_law_asked, .stmts (defBody s_law_asked), defScope s_law_asked, 3, [], .none, .none, .none, (.str "law_datelessrolls_k85_whole_undo" 1950), none, (.ref 1425), .none, 0⟩), #[]⟩
noncomputable def ob1425 : Obj := ⟨(.type "code"), none, (.fields #[(.str "_law_asked" 2126), (.str "_law_asked" 2127), (.str "/claim/cut.py" 2128), (.int (931) 0), (.int (5) 0), (.int (0) 0), (.int (0) 0), (.int (3) 0), (.ref 1420), (.bool true), (.int (181) 0), (.ref 1421), .none, (.ref 1422), (.ref 1423), (.ref 1424), (.int (2135) 0), (.int (931) 0), (.str "/claim/cut.py" 2136)]), #[]⟩
noncomputable def ob1431 : Obj := ⟨(.type "function"), none, (.func ⟨"_law_due_text", "_law_due_text", defArgs s_law_due_text, .stmts (defBody s_law_due_text), defScope s_law_due_text, 3, [], .none, .none, .none, (.str "law_datelessrolls_k85_whole_undo" 1950), none, (.ref 1430), .none, 0⟩), #[]⟩
noncomputable def ob1430 : Obj := ⟨(.type "code"), none, (.fields #[(.str "_law_due_text" 2138), (.str "_law_due_text" 2139), (.str "/claim/cut.py" 2140), (.int (936) 0), (.int (2) 0), (.int (0) 0), (.int (0) 0), (.int (3) 0), (.ref 1427), (.bool true), (.int (181) 0), (.ref 1428), .none, .none, .none, (.ref 1429), (.int (2141) 0), (.int (936) 0), (.str "/claim/cut.py" 2142)]), #[]⟩
noncomputable def ob1438 : Obj := ⟨(.type "function"), none, (.func ⟨"_law_stands_so", "_law_stands_so", defArgs s_law_stands_so, .stmts (defBody s_law_stands_so), defScope s_law_stands_so, 3, [], .none, .none, .none, (.str "law_datelessrolls_k85_whole_undo" 1950), none, (.ref 1437), .none, 0⟩), #[]⟩
noncomputable def ob1437 : Obj := ⟨(.type "code"), none, (.fields #[(.str "_law_stands_so" 2144), (.str "_law_stands_so" 2145), (.str "/claim/cut.py" 2146), (.int (949) 0), (.int (3) 0), (.int (0) 0), (.int (0) 0), (.int (3) 0), (.ref 1432), (.bool true), (.int (181) 0), (.ref 1433), .none, (.ref 1434), (.ref 1435), (.ref 1436), (.int (2151) 0), (.int (949) 0), (.str "/claim/cut.py" 2152)]), #[]⟩
noncomputable def ob1445 : Obj := ⟨(.type "function"), none, (.func ⟨"_law_all_back", "_law_all_back", defArgs s_law_all_back, .stmts (defBody s_law_all_back), defScope s_law_all_back, 3, [], .none, .none, .none, (.str "law_datelessrolls_k85_whole_undo" 1950), none, (.ref 1444), .none, 0⟩), #[]⟩
noncomputable def ob1444 : Obj := ⟨(.type "code"), none, (.fields #[(.str "_law_all_back" 2154), (.str "_law_all_back" 2155), (.str "/claim/cut.py" 2156), (.int (952) 0), (.int (3) 0), (.int (0) 0), (.int (0) 0), (.int (3) 0), (.ref 1439), (.bool true), (.int (181) 0), (.ref 1440), .none, (.ref 1441), (.ref 1442), (.ref 1443), (.int (2161) 0), (.int (952) 0), (.str "/claim/cut.py" 2162)]), #[]⟩
noncomputable def ob1452 : Obj := ⟨(.type "function"), none, (.func ⟨"_law_enter_turn", "_law_enter_turn", defArgs s_law_enter_turn, .stmts (defBody s_law_enter_turn), defScope s_law_enter_turn, 3, [], .none, .none, .none, (.str "law_datelessrolls_k85_whole_undo" 1950), none, (.ref 1451), .none, 0⟩), #[]⟩
noncomputable def ob1451 : Obj := ⟨(.type "code"), none, (.fields #[(.str "_law_enter_turn" 2164), (.str "_law_enter_turn" 2165), (.str "/claim/cut.py" 2166), (.int (962) 0), (.int (5) 0), (.int (0) 0), (.int (0) 0), (.int (3) 0), (.ref 1446), (.bool true), (.int (181) 0), (.ref 1447), .none, (.ref 1448), (.ref 1449), (.ref 1450), (.int (2179) 0), (.int (962) 0), (.str "/claim/cut.py" 2180)]), #[]⟩
noncomputable def ob1459 : Obj := ⟨(.type "function"), none, (.func ⟨"_law_step_turn", "_law_step_turn", defArgs s_law_step_turn, .stmts (defBody s_law_step_turn), defScope s_law_step_turn, 3, [], .none, .none, .none, (.str "law_datelessrolls_k85_whole_undo" 1950), none, (.ref 1458), .none, 0⟩), #[]⟩
noncomputable def ob1458 : Obj := ⟨(.type "code"), none, (.fields #[(.str "_law_step_turn" 2182), (.str "_law_step_turn" 2183), (.str "/claim/cut.py" 2184), (.int (978) 0), (.int (5) 0), (.int (0) 0), (.int (0) 0), (.int (3) 0), (.ref 1453), (.bool true), (.int (181) 0), (.ref 1454), .none, (.ref 1455), (.ref 1456), (.ref 1457), (.int (2192) 0), (.int (978) 0), (.str "/claim/cut.py" 2193)]), #[]⟩
noncomputable def ob1466 : Obj := ⟨(.type "function"), none, (.func ⟨"law", "law", defArgs s_law, .stmts (defBody s_law), defScope s_law, 3, [], .none, .none, .none, (.str "law_datelessrolls_k85_whole_undo" 1950), none, (.ref 1465), .none, 0⟩), #[]⟩
noncomputable def ob1465 : Obj := ⟨(.type "code"), none, (.fields #[(.str "law" 2195), (.str "law" 2196), (.str "/claim/cut.py" 2197), (.int (982) 0), (.int (1) 0), (.int (0) 0), (.int (0) 0), (.int (3) 0), (.ref 1460), (.bool true), (.int (181) 0), (.ref 1461), .none, (.ref 1462), (.ref 1463), (.ref 1464), (.int (2216) 0), (.int (982) 0), (.str "/claim/cut.py" 2217)]), #[]⟩
noncomputable def ob1146 : Obj := ⟨(.type "property"), none, (.fields #[(.ref 1145), .none, .none, .none, (.str "places" 1718), (.bool false)]), #[]⟩
noncomputable def ob1152 : Obj := ⟨(.type "property"), none, (.fields #[(.ref 1151), .none, .none, .none, (.str "signs" 1725), (.bool false)]), #[]⟩
noncomputable def ob673 : Obj := ⟨(.type "property"), none, (.fields #[(.ref 672), .none, .none, .none, (.str "heights" 1119), (.bool false)]), #[]⟩
noncomputable def ob1024 : Obj := ⟨(.type "property"), none, (.fields #[(.ref 1014), (.ref 1023), .none, .none, (.str "bound" 1541), (.bool false)]), #[]⟩
noncomputable def ob1007 : Obj := ⟨(.type "property"), none, (.fields #[(.ref 1006), .none, .none, .none, (.str "card" 1533), (.bool false)]), #[]⟩
noncomputable def ob598 : Obj := ⟨(.type "function"), none, (.func ⟨"__init__", "Cast.__init__", defArgs s_Cast_init, .stmts (defBody s_Cast_init), defScope s_Cast_init, 3, [], .none, .none, .none, (.str "datelessrolls.casts" 958), none, (.ref 597), .none, 0⟩), #[]⟩
noncomputable def ob597 : Obj := ⟨(.type "code"), none, (.fields #[(.str "__init__" 980), (.str "Cast.__init__" 981), (.str "/claim/cut.py" 982), (.int (259) 0), (.int (2) 0), (.int (0) 0), (.int (0) 0), (.int (3) 0), (.ref 592), (.bool true), (.int (181) 0), (.ref 593), .none, (.ref 594), (.ref 595), (.ref 596), (.int (990) 0), (.int (259) 0), (.str "/claim/cut.py" 991)]), #[]⟩
noncomputable def ob649 : Obj := ⟨(.type "function"), none, (.func ⟨"text", "Cast.text", defArgs s_Cast_text, .stmts (defBody s_Cast_text), defScope s_Cast_text, 3, [], .none, .none, .none, (.str "datelessrolls.casts" 958), none, (.ref 648), .none, 0⟩), #[]⟩
noncomputable def ob648 : Obj := ⟨(.type "code"), none, (.fields #[(.str "text" 1090), (.str "Cast.text" 1091), (.str "/claim/cut.py" 1092), (.int (300) 0), (.int (1) 0), (.int (0) 0), (.int (0) 0), (.int (3) 0), (.ref 645), (.bool true), (.int (181) 0), (.ref 646), .none, .none, .none, (.ref 647), (.int (1093) 0), (.int (300) 0), (.str "/claim/cut.py" 1094)]), #[]⟩
noncomputable def ob672 : Obj := ⟨(.type "function"), none, (.func ⟨"heights", "Cast.heights", defArgs s_Cast_heights, .stmts (defBody s_Cast_heights), defScope s_Cast_heights, 3, [], .none, .none, .none, (.str "datelessrolls.casts" 958), none, (.ref 671), .none, 0⟩), #[]⟩
noncomputable def ob671 : Obj := ⟨(.type "code"), none, (.fields #[(.str "heights" 1112), (.str "Cast.heights" 1113), (.str "/claim/cut.py" 1114), (.int (311) 0), (.int (1) 0), (.int (0) 0), (.int (0) 0), (.int (3) 0), (.ref 666), (.bool true), (.int (181) 0), (.ref 667), .none, (.ref 668), (.ref 669), (.ref 670), (.int (1116) 0), (.int (311) 0), (.str "/claim/cut.py" 1117)]), #[]⟩
noncomputable def ob846 : Obj := ⟨(.type "function"), none, (.func ⟨"__init__", "State.__init__", defArgs s_State_init, .stmts (defBody s_State_init), defScope s_State_init, 3, [], .none, .none, .none, (.str "datelessrolls.desk" 1295), none, (.ref 845), .none, 0⟩), #[]⟩
noncomputable def ob845 : Obj := ⟨(.type "code"), none, (.fields #[(.str "__init__" 1324), (.str "State.__init__" 1325), (.str "/claim/cut.py" 1326), (.int (408) 0), (.int (5) 0), (.int (0) 0), (.int (0) 0), (.int (3) 0), (.ref 840), (.bool true), (.int (181) 0), (.ref 841), .none, (.ref 842), (.ref 843), (.ref 844), (.int (1332) 0), (.int (408) 0), (.str "/claim/cut.py" 1333)]), #[]⟩
noncomputable def ob868 : Obj := ⟨(.type "function"), none, (.func ⟨"__init__", "Desk.__init__", defArgs s_Desk_init, .stmts (defBody s_Desk_init), defScope s_Desk_init, 3, [], .none, (.ref 861), .none, (.str "datelessrolls.desk" 1295), none, (.ref 867), .none, 0⟩), #[]⟩
noncomputable def ob867 : Obj := ⟨(.type "code"), none, (.fields #[(.str "__init__" 1360), (.str "Desk.__init__" 1361), (.str "/claim/cut.py" 1362), (.int (415) 0), (.int (2) 0), (.int (0) 0), (.int (1) 0), (.int (3) 0), (.ref 862), (.bool true), (.int (181) 0), (.ref 863), .none, (.ref 864), (.ref 865), (.ref 866), (.int (1366) 0), (.int (415) 0), (.str "/claim/cut.py" 1367)]), #[]⟩
noncomputable def ob861 (w : World) : Obj := ⟨(.type "dict"), none, (.dict #[(en w "bound" (.str "bound" 1359) (.int (8) 1297))] 1), #[]⟩
noncomputable def ob873 : Obj := ⟨(.type "function"), none, (.func ⟨"_step", "Desk._step", defArgs s_Desk_step, .stmts (defBody s_Desk_step), defScope s_Desk_step, 3, [], .none, .none, .none, (.str "datelessrolls.desk" 1295), none, (.ref 872), .none, 0⟩), #[]⟩
noncomputable def ob872 : Obj := ⟨(.type "code"), none, (.fields #[(.str "_step" 1369), (.str "Desk._step" 1370), (.str "/claim/cut.py" 1371), (.int (422) 0), (.int (4) 0), (.int (0) 0), (.int (0) 0), (.int (3) 0), (.ref 869), (.bool true), (.int (181) 0), (.ref 870), .none, .none, .none, (.ref 871), (.int (1372) 0), (.int (422) 0), (.str "/claim/cut.py" 1373)]), #[]⟩
noncomputable def ob880 : Obj := ⟨(.type "function"), none, (.func ⟨"_hold", "Desk._hold", defArgs s_Desk_hold, .stmts (defBody s_Desk_hold), defScope s_Desk_hold, 3, [], .none, .none, .none, (.str "datelessrolls.desk" 1295), none, (.ref 879), .none, 0⟩), #[]⟩
noncomputable def ob879 : Obj := ⟨(.type "code"), none, (.fields #[(.str "_hold" 1375), (.str "Desk._hold" 1376), (.str "/claim/cut.py" 1377), (.int (427) 0), (.int (2) 0), (.int (0) 0), (.int (0) 0), (.int (3) 0), (.ref 874), (.bool true), (.int (181) 0), (.ref 875), .none, (.ref 876), (.ref 877), (.ref 878), (.int (1380) 0), (.int (427) 0), (.str "/claim/cut.py" 1381)]), #[]⟩
noncomputable def ob887 : Obj := ⟨(.type "function"), none, (.func ⟨"_put_at", "Desk._put_at", defArgs s_Desk_put_at, .stmts (defBody s_Desk_put_at), defScope s_Desk_put_at, 3, [], .none, .none, .none, (.str "datelessrolls.desk" 1295), none, (.ref 886), .none, 0⟩), #[]⟩
noncomputable def ob886 : Obj := ⟨(.type "code"), none, (.fields #[(.str "_put_at" 1383), (.str "Desk._put_at" 1384), (.str "/claim/cut.py" 1385), (.int (430) 0), (.int (3) 0), (.int (0) 0), (.int (0) 0), (.int (3) 0), (.ref 881), (.bool true), (.int (181) 0), (.ref 882), .none, (.ref 883), (.ref 884), (.ref 885), (.int (1390) 0), (.int (430) 0), (.str "/claim/cut.py" 1391)]), #[]⟩
noncomputable def ob894 : Obj := ⟨(.type "function"), none, (.func ⟨"_change", "Desk._change", defArgs s_Desk_change, .stmts (defBody s_Desk_change), defScope s_Desk_change, 3, [], .none, .none, .none, (.str "datelessrolls.desk" 1295), none, (.ref 893), .none, 0⟩), #[]⟩
noncomputable def ob893 : Obj := ⟨(.type "code"), none, (.fields #[(.str "_change" 1393), (.str "Desk._change" 1394), (.str "/claim/cut.py" 1395), (.int (437) 0), (.int (3) 0), (.int (0) 0), (.int (0) 0), (.int (3) 0), (.ref 888), (.bool true), (.int (181) 0), (.ref 889), .none, (.ref 890), (.ref 891), (.ref 892), (.int (1400) 0), (.int (437) 0), (.str "/claim/cut.py" 1401)]), #[]⟩
noncomputable def ob901 : Obj := ⟨(.type "function"), none, (.func ⟨"_page_at", "Desk._page_at", defArgs s_Desk_page_at, .stmts (defBody s_Desk_page_at), defScope s_Desk_page_at, 3, [], .none, .none, .none, (.str "datelessrolls.desk" 1295), none, (.ref 900), .none, 0⟩), #[]⟩
noncomputable def ob900 : Obj := ⟨(.type "code"), none, (.fields #[(.str "_page_at" 1403), (.str "Desk._page_at" 1404), (.str "/claim/cut.py" 1405), (.int (442) 0), (.int (2) 0), (.int (0) 0), (.int (0) 0), (.int (3) 0), (.ref 895), (.bool true), (.int (181) 0), (.ref 896), .none, (.ref 897), (.ref 898), (.ref 899), (.int (1408) 0), (.int (442) 0), (.str "/claim/cut.py" 1409)]), #[]⟩
noncomputable def ob908 : Obj := ⟨(.type "function"), none, (.func ⟨"_check_known", "Desk._check_known", defArgs s_Desk_check_known, .stmts (defBody s_Desk_check_known), defScope s_Desk_check_known, 3, [], .none, .none, .none, (.str "datelessrolls.desk" 1295), none, (.ref 907), .none, 0⟩), #[]⟩
noncomputable def ob907 : Obj := ⟨(.type "code"), none, (.fields #[(.str "_check_known" 1411), (.str "Desk._check_known" 1412), (.str "/claim/cut.py" 1413), (.int (447) 0), (.int (1) 0), (.int (0) 0), (.int (0) 0), (.int (3) 0), (.ref 902), (.bool true), (.int (181) 0), (.ref 903), .none, (.ref 904), (.ref 905), (.ref 906), (.int (1417) 0), (.int (447) 0), (.str "/claim/cut.py" 1418)]), #[]⟩
noncomputable def ob915 : Obj := ⟨(.type "function"), none, (.func ⟨"put", "Desk.put", defArgs s_Desk_put, .stmts (defBody s_Desk_put), defScope s_Desk_put, 3, [], .none, .none, .none, (.str "datelessrolls.desk" 1295), none, (.ref 914), .none, 0⟩), #[]⟩
noncomputable def ob914 : Obj := ⟨(.type "code"), none, (.fields #[(.str "put" 1420), (.str "Desk.put" 1421), (.str "/claim/cut.py" 1422), (.int (452) 0), (.int (2) 0), (.int (0) 0), (.int (0) 0), (.int (3) 0), (.ref 909), (.bool true), (.int (181) 0), (.ref 910), .none, (.ref 911), (.ref 912), (.ref 913), (.int (1425) 0), (.int (452) 0), (.str "/claim/cut.py" 1426)]), #[]⟩
noncomputable def ob922 : Obj := ⟨(.type "function"), none, (.func ⟨"insert", "Desk.insert", defArgs s_Desk_insert, .stmts (defBody s_Desk_insert), defScope s_Desk_insert, 3, [], .none, .none, .none, (.str "datelessrolls.desk" 1295), none, (.ref 921), .none, 0⟩), #[]⟩
noncomputable def ob921 : Obj := ⟨(.type "code"), none, (.fields #[(.str "insert" 1428), (.str "Desk.insert" 1429), (.str "/claim/cut.py" 1430), (.int (455) 0), (.int (3) 0), (.int (0) 0), (.int (0) 0), (.int (3) 0), (.ref 916), (.bool true), (.int (181) 0), (.ref 917), .none, (.ref 918), (.ref 919), (.ref 920), (.int (1434) 0), (.int (455) 0), (.str "/claim/cut.py" 1435)]), #[]⟩
noncomputable def ob936 : Obj := ⟨(.type "function"), none, (.func ⟨"__setitem__", "Desk.__setitem__", defArgs s_Desk_setitem, .stmts (defBody s_Desk_setitem), defScope s_Desk_setitem, 3, [], .none, .none, .none, (.str "datelessrolls.desk" 1295), none, (.ref 935), .none, 0⟩), #[]⟩
noncomputable def ob935 : Obj := ⟨(.type "code"), none, (.fields #[(.str "__setitem__" 1445), (.str "Desk.__setitem__" 1446), (.str "/claim/cut.py" 1447), (.int (464) 0), (.int (3) 0), (.int (0) 0), (.int (0) 0), (.int (3) 0), (.ref 930), (.bool true), (.int (181) 0), (.ref 931), .none, (.ref 932), (.ref 933), (.ref 934), (.int (1451) 0), (.int (464) 0), (.str "/claim/cut.py" 1452)]), #[]⟩
noncomputable def ob943 : Obj := ⟨(.type "function"), none, (.func ⟨"take", "Desk.take", defArgs s_Desk_take, .stmts (defBody s_Desk_take), defScope s_Desk_take, 3, [], .none, .none, .none, (.str "datelessrolls.desk" 1295), none, (.ref 942), .none, 0⟩), #[]⟩
noncomputable def ob942 : Obj := ⟨(.type "code"), none, (.fields #[(.str "take" 1454), (.str "Desk.take" 1455), (.str "/claim/cut.py" 1456), (.int (470) 0), (.int (2) 0), (.int (0) 0), (.int (0) 0), (.int (3) 0), (.ref 937), (.bool true), (.int (181) 0), (.ref 938), .none, (.ref 939), (.ref 940), (.ref 941), (.int (1460) 0), (.int (470) 0), (.str "/claim/cut.py" 1461)]), #[]⟩
noncomputable def ob950 : Obj := ⟨(.type "function"), none, (.func ⟨"lose", "Desk.lose", defArgs s_Desk_lose, .stmts (defBody s_Desk_lose), defScope s_Desk_lose, 3, [], .none, .none, .none, (.str "datelessrolls.desk" 1295), none, (.ref 949), .none, 0⟩), #[]⟩
noncomputable def ob949 : Obj := ⟨(.type "code"), none, (.fields #[(.str "lose" 1463), (.str "Desk.lose" 1464), (.str "/claim/cut.py" 1465), (.int (475) 0), (.int (2) 0), (.int (0) 0), (.int (0) 0), (.int (3) 0), (.ref 944), (.bool true), (.int (181) 0), (.ref 945), .none, (.ref 946), (.ref 947), (.ref 948), (.int (1469) 0), (.int (475) 0), (.str "/claim/cut.py" 1470)]), #[]⟩
noncomputable def ob957 : Obj := ⟨(.type "function"), none, (.func ⟨"find", "Desk.find", defArgs s_Desk_find, .stmts (defBody s_Desk_find), defScope s_Desk_find, 3, [], .none, .none, .none, (.str "datelessrolls.desk" 1295), none, (.ref 956), .none, 0⟩), #[]⟩
noncomputable def ob956 : Obj := ⟨(.type "code"), none, (.fields #[(.str "find" 1472), (.str "Desk.find" 1473), (.str "/claim/cut.py" 1474), (.int (481) 0), (.int (3) 0), (.int (0) 0), (.int (0) 0), (.int (3) 0), (.ref 951), (.bool true), (.int (181) 0), (.ref 952), .none, (.ref 953), (.ref 954), (.ref 955), (.int (1479) 0), (.int (481) 0), (.str "/claim/cut.py" 1480)]), #[]⟩
noncomputable def ob964 : Obj := ⟨(.type "function"), none, (.func ⟨"lay", "Desk.lay", defArgs s_Desk_lay, .stmts (defBody s_Desk_lay), defScope s_Desk_lay, 3, [], .none, .none, .none, (.str "datelessrolls.desk" 1295), none, (.ref 963), .none, 0⟩), #[]⟩
noncomputable def ob963 : Obj := ⟨(.type "code"), none, (.fields #[(.str "lay" 1482), (.str "Desk.lay" 1483), (.str "/claim/cut.py" 1484), (.int (490) 0), (.int (2) 0), (.int (0) 0), (.int (0) 0), (.int (3) 0), (.ref 958), (.bool true), (.int (181) 0), (.ref 959), .none, (.ref 960), (.ref 961), (.ref 962), (.int (1487) 0), (.int (490) 0), (.str "/claim/cut.py" 1488)]), #[]⟩
noncomputable def ob971 : Obj := ⟨(.type "function"), none, (.func ⟨"mark", "Desk.mark", defArgs s_Desk_mark, .stmts (defBody s_Desk_mark), defScope s_Desk_mark, 3, [], .none, .none, .none, (.str "datelessrolls.desk" 1295), none, (.ref 970), .none, 0⟩), #[]⟩
noncomputable def ob970 : Obj := ⟨(.type "code"), none, (.fields #[(.str "mark" 1490), (.str "Desk.mark" 1491), (.str "/claim/cut.py" 1492), (.int (493) 0), (.int (1) 0), (.int (0) 0), (.int (0) 0), (.int (3) 0), (.ref 965), (.bool true), (.int (181) 0), (.ref 966), .none, (.ref 967), (.ref 968), (.ref 969), (.int (1494) 0), (.int (493) 0), (.str "/claim/cut.py" 1495)]), #[]⟩
noncomputable def ob978 : Obj := ⟨(.type "function"), none, (.func ⟨"tear", "Desk.tear", defArgs s_Desk_tear, .stmts (defBody s_Desk_tear), defScope s_Desk_tear, 3, [], .none, .none, .none, (.str "datelessrolls.desk" 1295), none, (.ref 977), .none, 0⟩), #[]⟩
noncomputable def ob977 : Obj := ⟨(.type "code"), none, (.fields #[(.str "tear" 1497), (.str "Desk.tear" 1498), (.str "/claim/cut.py" 1499), (.int (496) 0), (.int (1) 0), (.int (0) 0), (.int (0) 0), (.int (3) 0), (.ref 972), (.bool true), (.int (181) 0), (.ref 973), .none, (.ref 974), (.ref 975), (.ref 976), (.int (1501) 0), (.int (496) 0), (.str "/claim/cut.py" 1502)]), #[]⟩
noncomputable def ob985 : Obj := ⟨(.type "function"), none, (.func ⟨"change_bound", "Desk.change_bound", defArgs s_Desk_change_bound, .stmts (defBody s_Desk_change_bound), defScope s_Desk_change_bound, 3, [], .none, .none, .none, (.str "datelessrolls.desk" 1295), none, (.ref 984), .none, 0⟩), #[]⟩
noncomputable def ob984 : Obj := ⟨(.type "code"), none, (.fields #[(.str "change_bound" 1504), (.str "Desk.change_bound" 1505), (.str "/claim/cut.py" 1506), (.int (501) 0), (.int (2) 0), (.int (0) 0), (.int (0) 0), (.int (3) 0), (.ref 979), (.bool true), (.int (181) 0), (.ref 980), .none, (.ref 981), (.ref 982), (.ref 983), (.int (1509) 0), (.int (501) 0), (.str "/claim/cut.py" 1510)]), #[]⟩
noncomputable def ob992 : Obj := ⟨(.type "function"), none, (.func ⟨"undo", "Desk.undo", defArgs s_Desk_undo, .stmts (defBody s_Desk_undo), defScope s_Desk_undo, 3, [], .none, .none, .none, (.str "datelessrolls.desk" 1295), none, (.ref 991), .none, 0⟩), #[]⟩
noncomputable def ob991 : Obj := ⟨(.type "code"), none, (.fields #[(.str "undo" 1512), (.str "Desk.undo" 1513), (.str "/claim/cut.py" 1514), (.int (506) 0), (.int (1) 0), (.int (0) 0), (.int (0) 0), (.int (3) 0), (.ref 986), (.bool true), (.int (181) 0), (.ref 987), .none, (.ref 988), (.ref 989), (.ref 990), (.int (1516) 0), (.int (506) 0), (.str "/claim/cut.py" 1517)]), #[]⟩
noncomputable def ob1006 : Obj := ⟨(.type "function"), none, (.func ⟨"card", "Desk.card", defArgs s_Desk_card, .stmts (defBody s_Desk_card), defScope s_Desk_card, 3, [], .none, .none, .none, (.str "datelessrolls.desk" 1295), none, (.ref 1005), .none, 0⟩), #[]⟩
noncomputable def ob1005 : Obj := ⟨(.type "code"), none, (.fields #[(.str "card" 1526), (.str "Desk.card" 1527), (.str "/claim/cut.py" 1528), (.int (515) 0), (.int (1) 0), (.int (0) 0), (.int (0) 0), (.int (3) 0), (.ref 1000), (.bool true), (.int (181) 0), (.ref 1001), .none, (.ref 1002), (.ref 1003), (.ref 1004), (.int (1530) 0), (.int (515) 0), (.str "/claim/cut.py" 1531)]), #[]⟩
noncomputable def ob1014 : Obj := ⟨(.type "function"), none, (.func ⟨"bound", "Desk.bound", defArgs s_Desk_bound, .stmts (defBody s_Desk_bound), defScope s_Desk_bound, 3, [], .none, .none, .none, (.str "datelessrolls.desk" 1295), none, (.ref 1013), .none, 0⟩), #[]⟩
noncomputable def ob1013 : Obj := ⟨(.type "code"), none, (.fields #[(.str "bound" 1534), (.str "Desk.bound" 1535), (.str "/claim/cut.py" 1536), (.int (519) 0), (.int (1) 0), (.int (0) 0), (.int (0) 0), (.int (3) 0), (.ref 1008), (.bool true), (.int (181) 0), (.ref 1009), .none, (.ref 1010), (.ref 1011), (.ref 1012), (.int (1538) 0), (.int (519) 0), (.str "/claim/cut.py" 1539)]), #[]⟩
noncomputable def ob1038 : Obj := ⟨(.type "function"), none, (.func ⟨"__iter__", "Desk.__iter__", defArgs s_Desk_iter, .stmts (defBody s_Desk_iter), defScope s_Desk_iter, 3, [], .none, .none, .none, (.str "datelessrolls.desk" 1295), none, (.ref 1037), .none, 0⟩), #[]⟩
noncomputable def ob1037 : Obj := ⟨(.type "code"), none, (.fields #[(.str "__iter__" 1559), (.str "Desk.__iter__" 1560), (.str "/claim/cut.py" 1561), (.int (530) 0), (.int (1) 0), (.int (0) 0), (.int (0) 0), (.int (3) 0), (.ref 1032), (.bool true), (.int (181) 0), (.ref 1033), .none, (.ref 1034), (.ref 1035), (.ref 1036), (.int (1563) 0), (.int (530) 0), (.str "/claim/cut.py" 1564)]), #[]⟩
noncomputable def ob1052 : Obj := ⟨(.type "function"), none, (.func ⟨"entries", "Desk.entries", defArgs s_Desk_entries, .stmts (defBody s_Desk_entries), defScope s_Desk_entries, 3, [], .none, .none, .none, (.str "datelessrolls.desk" 1295), none, (.ref 1051), .none, 0⟩), #[]⟩
noncomputable def ob1051 : Obj := ⟨(.type "code"), none, (.fields #[(.str "entries" 1575), (.str "Desk.entries" 1576), (.str "/claim/cut.py" 1577), (.int (537) 0), (.int (2) 0), (.int (0) 0), (.int (0) 0), (.int (3) 0), (.ref 1046), (.bool true), (.int (181) 0), (.ref 1047), .none, (.ref 1048), (.ref 1049), (.ref 1050), (.int (1580) 0), (.int (537) 0), (.str "/claim/cut.py" 1581)]), #[]⟩
noncomputable def ob1066 : Obj := ⟨(.type "function"), none, (.func ⟨"cast", "Desk.cast", defArgs s_Desk_cast, .stmts (defBody s_Desk_cast), defScope s_Desk_cast, 3, [], .none, .none, .none, (.str "datelessrolls.desk" 1295), none, (.ref 1065), .none, 0⟩), #[]⟩
noncomputable def ob1065 : Obj := ⟨(.type "code"), none, (.fields #[(.str "cast" 1590), (.str "Desk.cast" 1591), (.str "/claim/cut.py" 1592), (.int (543) 0), (.int (1) 0), (.int (0) 0), (.int (0) 0), (.int (3) 0), (.ref 1060), (.bool true), (.int (181) 0), (.ref 1061), .none, (.ref 1062), (.ref 1063), (.ref 1064), (.int (1594) 0), (.int (543) 0), (.str "/claim/cut.py" 1595)]), #[]⟩
noncomputable def ob1115 : Obj := ⟨(.type "function"), none, (.func ⟨"__init__", "Calendar.__init__", defArgs s_Calendar_init, .stmts (defBody s_Calendar_init), defScope s_Calendar_init, 3, [], .none, .none, .none, (.str "datelessrolls.calendars" 1633), none, (.ref 1114), .none, 0⟩), #[]⟩
noncomputable def ob1114 : Obj := ⟨(.type "code"), none, (.fields #[(.str "__init__" 1658), (.str "Calendar.__init__" 1659), (.str "/claim/cut.py" 1660), (.int (566) 0), (.int (2) 0), (.int (0) 0), (.int (0) 0), (.int (3) 0), (.ref 1109), (.bool true), (.int (181) 0), (.ref 1110), .none, (.ref 1111), (.ref 1112), (.ref 1113), (.int (1665) 0), (.int (566) 0), (.str "/claim/cut.py" 1666)]), #[]⟩
noncomputable def ob1138 : Obj := ⟨(.type "function"), none, (.func ⟨"text", "Calendar.text", defArgs s_Calendar_text, .stmts (defBody s_Calendar_text), defScope s_Calendar_text, 3, [], .none, .none, .none, (.str "datelessrolls.calendars" 1633), none, (.ref 1137), .none, 0⟩), #[]⟩
noncomputable def ob1137 : Obj := ⟨(.type "code"), none, (.fields #[(.str "text" 1705), (.str "Calendar.text" 1706), (.str "/claim/cut.py" 1707), (.int (586) 0), (.int (1) 0), (.int (0) 0), (.int (0) 0), (.int (3) 0), (.ref 1134), (.bool true), (.int (181) 0), (.ref 1135), .none, .none, .none, (.ref 1136), (.int (1708) 0), (.int (586) 0), (.str "/claim/cut.py" 1709)]), #[]⟩
noncomputable def ob1145 : Obj := ⟨(.type "function"), none, (.func ⟨"places", "Calendar.places", defArgs s_Calendar_places, .stmts (defBody s_Calendar_places), defScope s_Calendar_places, 3, [], .none, .none, .none, (.str "datelessrolls.calendars" 1633), none, (.ref 1144), .none, 0⟩), #[]⟩
noncomputable def ob1144 : Obj := ⟨(.type "code"), none, (.fields #[(.str "places" 1711), (.str "Calendar.places" 1712), (.str "/claim/cut.py" 1713), (.int (589) 0), (.int (1) 0), (.int (0) 0), (.int (0) 0), (.int (3) 0), (.ref 1139), (.bool true), (.int (181) 0), (.ref 1140), .none, (.ref 1141), (.ref 1142), (.ref 1143), (.int (1715) 0), (.int (589) 0), (.str "/claim/cut.py" 1716)]), #[]⟩
noncomputable def ob1151 : Obj := ⟨(.type "function"), none, (.func ⟨"signs", "Calendar.signs", defArgs s_Calendar_signs, .stmts (defBody s_Calendar_signs), defScope s_Calendar_signs, 3, [], .none, .none, .none, (.str "datelessrolls.calendars" 1633), none, (.ref 1150), .none, 0⟩), #[]⟩
noncomputable def ob1150 : Obj := ⟨(.type "code"), none, (.fields #[(.str "signs" 1719), (.str "Calendar.signs" 1720), (.str "/claim/cut.py" 1721), (.int (593) 0), (.int (1) 0), (.int (0) 0), (.int (0) 0), (.int (3) 0), (.ref 1147), (.bool true), (.int (181) 0), (.ref 1148), .none, .none, .none, (.ref 1149), (.int (1722) 0), (.int (593) 0), (.str "/claim/cut.py" 1723)]), #[]⟩
noncomputable def ob1159 : Obj := ⟨(.type "function"), none, (.func ⟨"stands", "Calendar.stands", defArgs s_Calendar_stands, .stmts (defBody s_Calendar_stands), defScope s_Calendar_stands, 3, [], .none, .none, .none, (.str "datelessrolls.calendars" 1633), none, (.ref 1158), .none, 0⟩), #[]⟩
noncomputable def ob1158 : Obj := ⟨(.type "code"), none, (.fields #[(.str "stands" 1726), (.str "Calendar.stands" 1727), (.str "/claim/cut.py" 1728), (.int (598) 0), (.int (2) 0), (.int (0) 0), (.int (0) 0), (.int (3) 0), (.ref 1153), (.bool true), (.int (181) 0), (.ref 1154), .none, (.ref 1155), (.ref 1156), (.ref 1157), (.int (1734) 0), (.int (598) 0), (.str "/claim/cut.py" 1735)]), #[]⟩
noncomputable def ob1268 : Obj := ⟨(.type "function"), none, (.func ⟨"__init__", "Trial.__init__", defArgs s_Trial_init, .stmts (defBody s_Trial_init), defScope s_Trial_init, 3, [], .none, .none, .none, (.str "datelessrolls.deeds" 1801), none, (.ref 1267), .none, 0⟩), #[]⟩
noncomputable def ob1267 : Obj := ⟨(.type "code"), none, (.fields #[(.str "__init__" 1887), (.str "Trial.__init__" 1888), (.str "/claim/cut.py" 1889), (.int (684) 0), (.int (2) 0), (.int (0) 0), (.int (0) 0), (.int (3) 0), (.ref 1262), (.bool true), (.int (181) 0), (.ref 1263), .none, (.ref 1264), (.ref 1265), (.ref 1266), (.int (1892) 0), (.int (684) 0), (.str "/claim/cut.py" 1893)]), #[]⟩
noncomputable def ob1275 : Obj := ⟨(.type "function"), none, (.func ⟨"__enter__", "Trial.__enter__", defArgs s_Trial_enter, .stmts (defBody s_Trial_enter), defScope s_Trial_enter, 3, [], .none, .none, .none, (.str "datelessrolls.deeds" 1801), none, (.ref 1274), .none, 0⟩), #[]⟩
noncomputable def ob1274 : Obj := ⟨(.type "code"), none, (.fields #[(.str "__enter__" 1895), (.str "Trial.__enter__" 1896), (.str "/claim/cut.py" 1897), (.int (690) 0), (.int (1) 0), (.int (0) 0), (.int (0) 0), (.int (3) 0), (.ref 1269), (.bool true), (.int (181) 0), (.ref 1270), .none, (.ref 1271), (.ref 1272), (.ref 1273), (.int (1899) 0), (.int (690) 0), (.str "/claim/cut.py" 1900)]), #[]⟩
noncomputable def ob1282 : Obj := ⟨(.type "function"), none, (.func ⟨"__exit__", "Trial.__exit__", defArgs s_Trial_exit, .stmts (defBody s_Trial_exit), defScope s_Trial_exit, 3, [], .none, .none, .none, (.str "datelessrolls.deeds" 1801), none, (.ref 1281), .none, 0⟩), #[]⟩
noncomputable def ob1281 : Obj := ⟨(.type "code"), none, (.fields #[(.str "__exit__" 1902), (.str "Trial.__exit__" 1903), (.str "/claim/cut.py" 1904), (.int (693) 0), (.int (4) 0), (.int (0) 0), (.int (0) 0), (.int (3) 0), (.ref 1276), (.bool true), (.int (181) 0), (.ref 1277), .none, (.ref 1278), (.ref 1279), (.ref 1280), (.int (1909) 0), (.int (693) 0), (.str "/claim/cut.py" 1910)]), #[]⟩
noncomputable def ob48 : Obj := ⟨(.type "function"), none, (.func ⟨"__init__", "BadSize.__init__", defArgs s_BadSize_init, .stmts (defBody s_BadSize_init), defScope s_BadSize_init, 3, [], .none, .none, .none, (.str "datelessrolls.errors" 194), none, (.ref 47), .none, 0⟩), #[]⟩
noncomputable def ob47 : Obj := ⟨(.type "code"), none, (.fields #[(.str "__init__" 226), (.str "BadSize.__init__" 227), (.str "/claim/cut.py" 228), (.int (9) 0), (.int (2) 0), (.int (0) 0), (.int (0) 0), (.int (3) 0), (.ref 42), (.bool true), (.int (181) 0), (.ref 43), .none, (.ref 44), (.ref 45), (.ref 46), (.int (231) 0), (.int (9) 0), (.str "/claim/cut.py" 232)]), #[]⟩
noncomputable def ob105 : Obj := ⟨(.type "function"), none, (.func ⟨"__init__", "TooManyBalls.__init__", defArgs s_TooManyBalls_init, .stmts (defBody s_TooManyBalls_init), defScope s_TooManyBalls_init, 3, [], .none, .none, .none, (.str "datelessrolls.errors" 194), none, (.ref 104), .none, 0⟩), #[]⟩
noncomputable def ob104 : Obj := ⟨(.type "code"), none, (.fields #[(.str "__init__" 303), (.str "TooManyBalls.__init__" 304), (.str "/claim/cut.py" 305), (.int (22) 0), (.int (2) 0), (.int (0) 0), (.int (0) 0), (.int (3) 0), (.ref 99), (.bool true), (.int (181) 0), (.ref 100), .none, (.ref 101), (.ref 102), (.ref 103), (.int (308) 0), (.int (22) 0), (.str "/claim/cut.py" 309)]), #[]⟩
noncomputable def ob219 : Obj := ⟨(.type "function"), none, (.func ⟨"__init__", "BadText.__init__", defArgs s_BadText_init, .stmts (defBody s_BadText_init), defScope s_BadText_init, 3, [], .none, .none, .none, (.str "datelessrolls.errors" 194), none, (.ref 218), .none, 0⟩), #[]⟩
noncomputable def ob218 : Obj := ⟨(.type "code"), none, (.fields #[(.str "__init__" 459), (.str "BadText.__init__" 460), (.str "/claim/cut.py" 461), (.int (49) 0), (.int (2) 0), (.int (0) 0), (.int (0) 0), (.int (3) 0), (.ref 213), (.bool true), (.int (181) 0), (.ref 214), .none, (.ref 215), (.ref 216), (.ref 217), (.int (464) 0), (.int (49) 0), (.str "/claim/cut.py" 465)]), #[]⟩
noncomputable def ob276 : Obj := ⟨(.type "function"), none, (.func ⟨"__init__", "BadPage.__init__", defArgs s_BadPage_init, .stmts (defBody s_BadPage_init), defScope s_BadPage_init, 3, [], .none, .none, .none, (.str "datelessrolls.errors" 194), none, (.ref 275), .none, 0⟩), #[]⟩
noncomputable def ob275 : Obj := ⟨(.type "code"), none, (.fields #[(.str "__init__" 534), (.str "BadPage.__init__" 535), (.str "/claim/cut.py" 536), (.int (61) 0), (.int (2) 0), (.int (0) 0), (.int (0) 0), (.int (3) 0), (.ref 270), (.bool true), (.int (181) 0), (.ref 271), .none, (.ref 272), (.ref 273), (.ref 274), (.int (539) 0), (.int (61) 0), (.str "/claim/cut.py" 540)]), #[]⟩
noncomputable def ob295 : Obj := ⟨(.type "function"), none, (.func ⟨"__init__", "NoPage.__init__", defArgs s_NoPage_init, .stmts (defBody s_NoPage_init), defScope s_NoPage_init, 3, [], .none, .none, .none, (.str "datelessrolls.errors" 194), none, (.ref 294), .none, 0⟩), #[]⟩
noncomputable def ob294 : Obj := ⟨(.type "code"), none, (.fields #[(.str "__init__" 559), (.str "NoPage.__init__" 560), (.str "/claim/cut.py" 561), (.int (65) 0), (.int (2) 0), (.int (0) 0), (.int (0) 0), (.int (3) 0), (.ref 289), (.bool true), (.int (181) 0), (.ref 290), .none, (.ref 291), (.ref 292), (.ref 293), (.int (564) 0), (.int (65) 0), (.str "/claim/cut.py" 565)]), #[]⟩
noncomputable def ob314 : Obj := ⟨(.type "function"), none, (.func ⟨"__init__", "PageLost.__init__", defArgs s_PageLost_init, .stmts (defBody s_PageLost_init), defScope s_PageLost_init, 3, [], .none, .none, .none, (.str "datelessrolls.errors" 194), none, (.ref 313), .none, 0⟩), #[]⟩
noncomputable def ob313 : Obj := ⟨(.type "code"), none, (.fields #[(.str "__init__" 584), (.str "PageLost.__init__" 585), (.str "/claim/cut.py" 586), (.int (69) 0), (.int (2) 0), (.int (0) 0), (.int (0) 0), (.int (3) 0), (.ref 308), (.bool true), (.int (181) 0), (.ref 309), .none, (.ref 310), (.ref 311), (.ref 312), (.int (589) 0), (.int (69) 0), (.str "/claim/cut.py" 590)]), #[]⟩
noncomputable def ob333 : Obj := ⟨(.type "function"), none, (.func ⟨"__init__", "NotLost.__init__", defArgs s_NotLost_init, .stmts (defBody s_NotLost_init), defScope s_NotLost_init, 3, [], .none, .none, .none, (.str "datelessrolls.errors" 194), none, (.ref 332), .none, 0⟩), #[]⟩
noncomputable def ob332 : Obj := ⟨(.type "code"), none, (.fields #[(.str "__init__" 609), (.str "NotLost.__init__" 610), (.str "/claim/cut.py" 611), (.int (73) 0), (.int (2) 0), (.int (0) 0), (.int (0) 0), (.int (3) 0), (.ref 327), (.bool true), (.int (181) 0), (.ref 328), .none, (.ref 329), (.ref 330), (.ref 331), (.int (614) 0), (.int (73) 0), (.str "/claim/cut.py" 615)]), #[]⟩
noncomputable def ob364 : Obj := ⟨(.type "function"), none, (.func ⟨"__init__", "Full.__init__", defArgs s_Full_init, .stmts (defBody s_Full_init), defScope s_Full_init, 3, [], .none, .none, .none, (.str "datelessrolls.errors" 194), none, (.ref 363), .none, 0⟩), #[]⟩
noncomputable def ob363 : Obj := ⟨(.type "code"), none, (.fields #[(.str "__init__" 650), (.str "Full.__init__" 651), (.str "/claim/cut.py" 652), (.int (79) 0), (.int (2) 0), (.int (0) 0), (.int (0) 0), (.int (3) 0), (.ref 358), (.bool true), (.int (181) 0), (.ref 359), .none, (.ref 360), (.ref 361), (.ref 362), (.int (655) 0), (.int (79) 0), (.str "/claim/cut.py" 656)]), #[]⟩
noncomputable def ob395 : Obj := ⟨(.type "function"), none, (.func ⟨"__init__", "Refused.__init__", defArgs s_Refused_init, .stmts (defBody s_Refused_init), defScope s_Refused_init, 3, [], .none, .none, .none, (.str "datelessrolls.errors" 194), none, (.ref 394), .none, 0⟩), #[]⟩
noncomputable def ob394 : Obj := ⟨(.type "code"), none, (.fields #[(.str "__init__" 691), (.str "Refused.__init__" 692), (.str "/claim/cut.py" 693), (.int (85) 0), (.int (2) 0), (.int (0) 0), (.int (0) 0), (.int (3) 0), (.ref 389), (.bool true), (.int (181) 0), (.ref 390), .none, (.ref 391), (.ref 392), (.ref 393), (.int (696) 0), (.int (85) 0), (.str "/claim/cut.py" 697)]), #[]⟩
noncomputable def seen0 (w : World) : Fr := [(3, ob3 w), (2, ob2), (785, ob785), (784, ob784 w), (849, ob849), (848, ob848 w), (1090, ob1090), (1089, ob1089 w), (1209, ob1209), (1208, ob1208 w), (1285, ob1285), (1284, ob1284 w), (31, ob31), (30, ob30 w), (51, ob51), (50, ob50 w), (108, ob108), (107, ob107 w), (222, ob222), (221, ob221 w), (279, ob279), (278, ob278 w), (298, ob298), (297, ob297 w)]
noncomputable def seen1 (w : World) : Fr := [(317, ob317), (316, ob316 w), (336, ob336), (335, ob335 w), (367, ob367), (366, ob366 w), (398, ob398), (397, ob397 w), (348, ob348), (347, ob347 w), (379, ob379), (378, ob378 w), (70, ob70), (69, ob69 w), (89, ob89), (88, ob88 w), (260, ob260), (259, ob259 w), (241, ob241), (240, ob240 w), (1214, ob1214 w), (1215, ob1215), (1216, ob1216), (1217, ob1217)]
noncomputable def seen2 (w : World) : Fr := [(1218, ob1218), (1219, ob1219), (1220, ob1220), (1221, ob1221), (1222, ob1222), (1223, ob1223), (428, ob428), (427, ob427), (442, ob442), (441, ob441), (459, ob459), (458, ob458), (486, ob486), (485, ob485), (493, ob493), (492, ob492), (500, ob500), (499, ob499), (806, ob806), (805, ob805), (813, ob813), (812, ob812), (820, ob820), (819, ob819)]
noncomputable def seen3 (w : World) : Fr := [(827, ob827), (826, ob826), (832, ob832), (831, ob831), (1101, ob1101), (1100, ob1100), (1228, ob1228), (1227, ob1227), (1235, ob1235), (1234, ob1234), (1242, ob1242), (1241, ob1241), (1249, ob1249), (1248, ob1248), (1254, ob1254), (1253, ob1253), (1296, ob1296), (1295, ob1295), (1303, ob1303), (1302, ob1302), (1308, ob1308), (1307, ob1307), (1315, ob1315), (1314, ob1314)]
noncomputable def seen4 (w : World) : Fr := [(1322, ob1322), (1321, ob1321), (1329, ob1329), (1328, ob1328), (1334, ob1334), (1333, ob1333), (1339, ob1339), (1338, ob1338), (1346, ob1346), (1345, ob1345), (1351, ob1351), (1350, ob1350), (1358, ob1358), (1357, ob1357), (1365, ob1365), (1364, ob1364), (1370, ob1370), (1369, ob1369), (1377, ob1377), (1376, ob1376), (1384, ob1384), (1383, ob1383), (1391, ob1391), (1390, ob1390)]
noncomputable def seen5 (w : World) : Fr := [(1398, ob1398), (1397, ob1397), (1405, ob1405), (1404, ob1404), (1412, ob1412), (1411, ob1411), (1419, ob1419), (1418, ob1418), (1426, ob1426), (1425, ob1425), (1431, ob1431), (1430, ob1430), (1438, ob1438), (1437, ob1437), (1445, ob1445), (1444, ob1444), (1452, ob1452), (1451, ob1451), (1459, ob1459), (1458, ob1458), (1466, ob1466), (1465, ob1465), (1146, ob1146), (1152, ob1152)]
noncomputable def seen6 (w : World) : Fr := [(673, ob673), (1024, ob1024), (1007, ob1007), (598, ob598), (597, ob597), (649, ob649), (648, ob648), (672, ob672), (671, ob671), (846, ob846), (845, ob845), (868, ob868), (867, ob867), (861, ob861 w), (873, ob873), (872, ob872), (880, ob880), (879, ob879), (887, ob887), (886, ob886), (894, ob894), (893, ob893), (901, ob901), (900, ob900)]
noncomputable def seen7 (w : World) : Fr := [(908, ob908), (907, ob907), (915, ob915), (914, ob914), (922, ob922), (921, ob921), (936, ob936), (935, ob935), (943, ob943), (942, ob942), (950, ob950), (949, ob949), (957, ob957), (956, ob956), (964, ob964), (963, ob963), (971, ob971), (970, ob970), (978, ob978), (977, ob977), (985, ob985), (984, ob984), (992, ob992), (991, ob991)]
noncomputable def seen8 (w : World) : Fr := [(1006, ob1006), (1005, ob1005), (1014, ob1014), (1013, ob1013), (1038, ob1038), (1037, ob1037), (1052, ob1052), (1051, ob1051), (1066, ob1066), (1065, ob1065), (1115, ob1115), (1114, ob1114), (1138, ob1138), (1137, ob1137), (1145, ob1145), (1144, ob1144), (1151, ob1151), (1150, ob1150), (1159, ob1159), (1158, ob1158), (1268, ob1268), (1267, ob1267), (1275, ob1275), (1274, ob1274)]
noncomputable def seen9 (w : World) : Fr := [(1282, ob1282), (1281, ob1281), (48, ob48), (47, ob47), (105, ob105), (104, ob104), (219, ob219), (218, ob218), (276, ob276), (275, ob275), (295, ob295), (294, ob294), (314, ob314), (313, ob313), (333, ob333), (332, ob332), (364, ob364), (363, ob363), (395, ob395), (394, ob394)]
/-- what is looked at behind the top -/
noncomputable def KL (w : World) : Fr := seen0 w ++ (seen1 w ++ (seen2 w ++ (seen3 w ++ (seen4 w ++ (seen5 w ++ (seen6 w ++ (seen7 w ++ (seen8 w ++ (seen9 w)))))))))
end Dk
end
section
set_option Elab.async false
set_option linter.all false
set_option maxRecDepth 100000
set_option maxHeartbeats 0
namespace Dk
open PySem PySem.W PySem.Calls PyProof.Rows HandSHeadRun
abbrev RR : OpenRow := OpenLaw.row PySem.Challenge.rw_datelessrolls_k85_whole_undo
abbrev qv : Program := view RR.prog [120]
def names0 : List PySem.Str := ["_wall", "RollError", "BadSize", "BadHeight", "Collision", "TooManyBalls", "BadStretch", "BadStands", "BadNumber", "Unlike", "NoRoom", "BadText"]
def names1 : List PySem.Str := ["BadCalendar", "NoSign", "BadPage", "NoPage", "PageLost", "NotLost", "NoCard", "Full", "NothingToUndo", "Refused", "MOST_PLACES", "MOST_BALLS"]
def names2 : List PySem.Str := ["MOST_HEIGHT", "MOST_PAGE", "check_places", "check_stretch", "check_stands", "check_page", "check_like", "at_place", "landing", "came_list", "heights_of", "launch"]
def names3 : List PySem.Str := ["airborne", "count_between", "one_entry", "carried_came", "carried_to", "step_came", "peel", "product_heights", "mirrored_heights", "turned_heights", "table_of", "table_row"]
def names4 : List PySem.Str := ["heights_of_table", "came_in_table", "is_within", "first_surplus", "surplus_end", "quotient_ahead", "least_difference", "quotient_behind", "DIGITS_casts", "MOST_TIMES", "Cast", "is_short_number"]
def names5 : List PySem.Str := ["check_divisor", "sets_of", "came_of", "cast_of", "MOST_PAGES", "size_of", "check_entries", "State", "Desk", "LETTERS", "is_rising", "Calendar"]
def names6 : List PySem.Str := ["DIGITS_deeds", "MOST_DIGITS", "FORMS", "is_number", "page_of_word", "word_of_page", "deed_of", "carry_out", "Trial", "enter", "FIRST_WORD", "write_desk"]
def names7 : List PySem.Str := ["_law_begin", "_law_draw", "_law_counts", "_law_heights", "_law_stands", "_law_words", "_law_text", "_law_step", "_law_line", "_law_page_taken", "_law_changed", "_law_first_lost"]
def names8 : List PySem.Str := ["_law_cast", "_law_next", "_law_told", "_law_entered", "_law_undone", "_law_cast_told", "_law_asked", "_law_due_text", "_law_stands_so", "_law_all_back", "_law_enter_turn", "_law_step_turn"]
def names : List PySem.Str := names0 ++ names1 ++ names2 ++ names3 ++ names4 ++ names5 ++ names6 ++ names7 ++ names8
/-- the looks and the objects, at the top's end -/
noncomputable def gL (w : World) (s : SharedT) : Bool × Fr := (looksF RR.prog (boot_heap w.params) s.abs, He.frG (getT s) LA)
def SeesL (w : World) : Prop := ∀ os : OsState, (HandSHeadRun.endF (stepQ (denQ tabQ) RR.prog w) 20000 RR.prog w os).map (gL w) = some (true, KL w)
/-- what is seen of the text, at the top's end -/
noncomputable def gQ (s : SharedT) := seenQ qv names (importedModules RR.prog.main.body) (fun s => xlAt qv [] s && recOk RR.toRowW.records s) s.abs
def SeesQ (w : World) : Prop := ∀ os : OsState, (HandSHeadRun.endF (stepQ (denQ tabQ) RR.prog w) 20000 RR.prog w os).map gQ = some (openGood qv names)
end Dk
end
section
set_option Elab.async false
set_option linter.all false
set_option maxRecDepth 100000
set_option maxHeartbeats 0
namespace Dk
open PySem PySem.W PySem.Calls PyProof.Rows HandSHeadRun
theorem runSeesLF (w : World) : SeesL (w.withFollow "special-get-raises" false) := by
  intro os
  kernel_rfl
theorem runSeesLT (w : World) : SeesL (w.withFollow "special-get-raises" true) := by
  intro os
  kernel_rfl
theorem runSeesQF (w : World) : SeesQ (w.withFollow "special-get-raises" false) := by
  intro os
  kernel_rfl
theorem runSeesQT (w : World) : SeesQ (w.withFollow "special-get-raises" true) := by
  intro os
  kernel_rfl
end Dk
end
section
set_option Elab.async false
set_option linter.all false
set_option maxRecDepth 100000
set_option maxHeartbeats 0
namespace Dk
open PySem PySem.W PySem.Calls PyProof.Rows HandSHeadRun
theorem runSeesL (w : World) : SeesL w := byRow2 "special-get-raises" (P := SeesL) runSeesLF runSeesLT w
theorem runSeesQ (w : World) : SeesQ w := byRow2 "special-get-raises" (P := SeesQ) runSeesQF runSeesQT w
/-- what the objects say -/
theorem says_KL (w : World) : SaysK fn ts fb w (KL w) := by
  unfold SaysK
  kernel_rfl
noncomputable def hookK : PySem.W.Hook where
  α := Fr
  obs := fun s => He.frG s.heap.get? LA
  val := fun w => KL w
  says := fun w h => ∃ K : Fr, K.In h ∧ SaysK fn ts fb w K
  of := fun w _ e => ⟨KL w, e ▸ He.frG_in, says_KL w⟩
  keeps := fun _ _ _ ⟨K, hK, c⟩ k => ⟨K, PySem.W.Frag.In.keeps hK k, c⟩
noncomputable def gT (s : SharedT) : Fr := He.frG (getT s) LA
theorem gT_eq (s : SharedT) : gT s = hookK.obs s.abs := by
  have e : getT s = s.abs.heap.get? := funext (getT_eq s)
  unfold gT
  rw [e] <;> rfl
theorem runAll (w : World) : HandSHeadRun.RunEq RR qv hookK gT 20000 names w := fun os => by
  have hL := runSeesL w os
  have hQ := runSeesQ w os
  cases e : HandSHeadRun.endF (stepQ (denQ tabQ) RR.prog w) 20000 RR.prog w os with
  | none =>
    rw [e] at hL
    cases hL
  | some s =>
    rw [e] at hL hQ
    obtain ⟨l1, l2⟩ := Prod.mk.inj (Option.some.inj hL)
    have q := Option.some.inj hQ
    exact congrArg some (Prod.ext l1 (Prod.ext q l2))
end Dk
open PySem PySem.W PySem.Calls PyProof.Rows
theorem whole_of (h : (OpenLaw.row PySem.Challenge.rw_datelessrolls_k85_whole_undo).wellSaid = true → (OpenLaw.row PySem.Challenge.rw_datelessrolls_k85_whole_undo).Holds) : PySem.Challenge.rw_datelessrolls_k85_whole_undo.Holds := by
  w_on; o_law
  exact h (by assumption)
end
section
set_option Elab.async false
set_option linter.all false
set_option maxRecDepth 100000
set_option maxHeartbeats 4000000
/-! What the top has written: the defs by place, facts of names and classes, told by a Hook. -/
namespace Dk
open PySem PySem.Spec PyProof.Rows L2
theorem sc_check_page : FnScope N_check_page ["calendar", "page"] (defScope s_check_page) := ⟨rfl, rfl, rfl, by decide +kernel, rfl, by decide +kernel, by decide +kernel⟩
theorem sc_at_place : FnScope N_at_place ["values", "place"] (defScope s_at_place) := ⟨rfl, rfl, rfl, by decide +kernel, rfl, by decide +kernel, by decide +kernel⟩
theorem sc_heights_of : FnScope N_heights_of ["came"] (defScope s_heights_of) := ⟨rfl, rfl, rfl, by decide +kernel, rfl, by decide +kernel, by decide +kernel⟩
theorem sc_carried_came : FnScope N_carried_came ["came", "stands"] (defScope s_carried_came) := ⟨rfl, rfl, rfl, by decide +kernel, rfl, by decide +kernel, by decide +kernel⟩
theorem sc_carried_to : FnScope N_carried_to ["came", "stands", "gap"] (defScope s_carried_to) := ⟨rfl, rfl, rfl, by decide +kernel, rfl, by decide +kernel, by decide +kernel⟩
theorem sc_step_came : FnScope N_step_came ["came", "stands"] (defScope s_step_came) := ⟨rfl, rfl, rfl, by decide +kernel, rfl, by decide +kernel, by decide +kernel⟩
theorem sc_sets_of : FnScope N_sets_of ["calendar", "page"] (defScope s_sets_of) := ⟨rfl, rfl, rfl, by decide +kernel, rfl, by decide +kernel, by decide +kernel⟩
theorem sc_came_of : FnScope N_came_of ["calendar", "page"] (defScope s_came_of) := ⟨rfl, rfl, rfl, by decide +kernel, rfl, by decide +kernel, by decide +kernel⟩
theorem sc_cast_of : FnScope N_cast_of ["calendar", "page"] (defScope s_cast_of) := ⟨rfl, rfl, rfl, by decide +kernel, rfl, by decide +kernel, by decide +kernel⟩
theorem sc_size_of : FnScope N_size_of ["page"] (defScope s_size_of) := ⟨rfl, rfl, rfl, by decide +kernel, rfl, by decide +kernel, by decide +kernel⟩
theorem sc_check_entries : FnScope N_check_entries ["held"] (defScope s_check_entries) := ⟨rfl, rfl, rfl, by decide +kernel, rfl, by decide +kernel, by decide +kernel⟩
theorem sc_is_rising : FnScope N_is_rising ["word"] (defScope s_is_rising) := ⟨rfl, rfl, rfl, by decide +kernel, rfl, by decide +kernel, by decide +kernel⟩
theorem sc_is_number : FnScope N_is_number ["word"] (defScope s_is_number) := ⟨rfl, rfl, rfl, by decide +kernel, rfl, by decide +kernel, by decide +kernel⟩
theorem sc_page_of_word : FnScope N_page_of_word ["word"] (defScope s_page_of_word) := ⟨rfl, rfl, rfl, by decide +kernel, rfl, by decide +kernel, by decide +kernel⟩
theorem sc_word_of_page : FnScope N_word_of_page ["page"] (defScope s_word_of_page) := ⟨rfl, rfl, rfl, by decide +kernel, rfl, by decide +kernel, by decide +kernel⟩
theorem sc_deed_of : FnScope N_deed_of ["line"] (defScope s_deed_of) := ⟨rfl, rfl, rfl, by decide +kernel, rfl, by decide +kernel, by decide +kernel⟩
theorem sc_carry_out : FnScope N_carry_out ["desk", "deed"] (defScope s_carry_out) := ⟨rfl, rfl, rfl, by decide +kernel, rfl, by decide +kernel, by decide +kernel⟩
theorem sc_enter : FnScope N_enter ["desk", "lines"] (defScope s_enter) := ⟨rfl, rfl, rfl, by decide +kernel, rfl, by decide +kernel, by decide +kernel⟩
theorem sc_write_desk : FnScope N_write_desk ["desk"] (defScope s_write_desk) := ⟨rfl, rfl, rfl, by decide +kernel, rfl, by decide +kernel, by decide +kernel⟩
theorem sc_law_begin : FnScope N_law_begin ["_law_script"] (defScope s_law_begin) := ⟨rfl, rfl, rfl, by decide +kernel, rfl, by decide +kernel, by decide +kernel⟩
theorem sc_law_draw : FnScope N_law_draw ["_law_state", "_law_limit"] (defScope s_law_draw) := ⟨rfl, rfl, rfl, by decide +kernel, rfl, by decide +kernel, by decide +kernel⟩
theorem sc_law_counts : FnScope N_law_counts ["_law_places", "_law_sets", "_law_begin_here", "_law_length"] (defScope s_law_counts) := ⟨rfl, rfl, rfl, by decide +kernel, rfl, by decide +kernel, by decide +kernel⟩
theorem sc_law_heights : FnScope N_law_heights ["_law_places", "_law_sets"] (defScope s_law_heights) := ⟨rfl, rfl, rfl, by decide +kernel, rfl, by decide +kernel, by decide +kernel⟩
theorem sc_law_stands : FnScope N_law_stands ["_law_state", "_law_places", "_law_many"] (defScope s_law_stands) := ⟨rfl, rfl, rfl, by decide +kernel, rfl, by decide +kernel, by decide +kernel⟩
theorem sc_law_words : FnScope N_law_words ["_law_places", "_law_letters", "_law_sets"] (defScope s_law_words) := ⟨rfl, rfl, rfl, by decide +kernel, rfl, by decide +kernel, by decide +kernel⟩
theorem sc_law_text : FnScope N_law_text ["_law_state", "_law_turn", "_law_letters"] (defScope s_law_text) := ⟨rfl, rfl, rfl, by decide +kernel, rfl, by decide +kernel, by decide +kernel⟩
theorem sc_law_step : FnScope N_law_step ["_law_state", "_law_turn", "_law_rows", "_law_letters"] (defScope s_law_step) := ⟨rfl, rfl, rfl, by decide +kernel, rfl, by decide +kernel, by decide +kernel⟩
theorem sc_law_line : FnScope N_law_line ["_law_step_here"] (defScope s_law_line) := ⟨rfl, rfl, rfl, by decide +kernel, rfl, by decide +kernel, by decide +kernel⟩
theorem sc_law_page_taken : FnScope N_law_page_taken ["_law_page", "_law_letters"] (defScope s_law_page_taken) := ⟨rfl, rfl, rfl, by decide +kernel, rfl, by decide +kernel, by decide +kernel⟩
theorem sc_law_changed : FnScope N_law_changed ["_law_rows", "_law_step_here", "_law_limit", "_law_letters"] (defScope s_law_changed) := ⟨rfl, rfl, rfl, by decide +kernel, rfl, by decide +kernel, by decide +kernel⟩
theorem sc_law_first_lost : FnScope N_law_first_lost ["_law_rows"] (defScope s_law_first_lost) := ⟨rfl, rfl, rfl, by decide +kernel, rfl, by decide +kernel, by decide +kernel⟩
theorem sc_law_cast : FnScope N_law_cast ["_law_account", "_law_places", "_law_letters", "_law_sets"] (defScope s_law_cast) := ⟨rfl, rfl, rfl, by decide +kernel, rfl, by decide +kernel, by decide +kernel⟩
theorem sc_law_next : FnScope N_law_next ["_law_account", "_law_step_here", "_law_places", "_law_letters", "_law_sets"] (defScope s_law_next) := ⟨rfl, rfl, rfl, by decide +kernel, rfl, by decide +kernel, by decide +kernel⟩
theorem sc_law_told : FnScope N_law_told ["_law_desk", "_law_step_here"] (defScope s_law_told) := ⟨rfl, rfl, rfl, by decide +kernel, rfl, by decide +kernel, by decide +kernel⟩
theorem sc_law_entered : FnScope N_law_entered ["_law_desk", "_law_lines"] (defScope s_law_entered) := ⟨rfl, rfl, rfl, by decide +kernel, rfl, by decide +kernel, by decide +kernel⟩
theorem sc_law_undone : FnScope N_law_undone ["_law_desk"] (defScope s_law_undone) := ⟨rfl, rfl, rfl, by decide +kernel, rfl, by decide +kernel, by decide +kernel⟩
theorem sc_law_cast_told : FnScope N_law_cast_told ["_law_desk", "_law_lost", "_law_heights_here"] (defScope s_law_cast_told) := ⟨rfl, rfl, rfl, by decide +kernel, rfl, by decide +kernel, by decide +kernel⟩
theorem sc_law_asked : FnScope N_law_asked ["_law_desk", "_law_account", "_law_places", "_law_letters", "_law_sets"] (defScope s_law_asked) := ⟨rfl, rfl, rfl, by decide +kernel, rfl, by decide +kernel, by decide +kernel⟩
theorem sc_law_due_text : FnScope N_law_due_text ["_law_account", "_law_words_here"] (defScope s_law_due_text) := ⟨rfl, rfl, rfl, by decide +kernel, rfl, by decide +kernel, by decide +kernel⟩
theorem sc_law_stands_so : FnScope N_law_stands_so ["_law_desk", "_law_account", "_law_words_here"] (defScope s_law_stands_so) := ⟨rfl, rfl, rfl, by decide +kernel, rfl, by decide +kernel, by decide +kernel⟩
theorem sc_law_all_back : FnScope N_law_all_back ["_law_desk", "_law_past", "_law_words_here"] (defScope s_law_all_back) := ⟨rfl, rfl, rfl, by decide +kernel, rfl, by decide +kernel, by decide +kernel⟩
theorem sc_law_enter_turn : FnScope N_law_enter_turn ["_law_desk", "_law_account", "_law_state", "_law_turn", "_law_world"] (defScope s_law_enter_turn) := ⟨rfl, rfl, rfl, by decide +kernel, rfl, by decide +kernel, by decide +kernel⟩
theorem sc_law_step_turn : FnScope N_law_step_turn ["_law_desk", "_law_account", "_law_state", "_law_turn", "_law_world"] (defScope s_law_step_turn) := ⟨rfl, rfl, rfl, by decide +kernel, rfl, by decide +kernel, by decide +kernel⟩
theorem sc_law : FnScope N_law ["_law_script"] (defScope s_law) := ⟨rfl, rfl, rfl, by decide +kernel, rfl, by decide +kernel, by decide +kernel⟩
theorem sc_Cast_init : FnScope N_Cast_init ["self", "heights"] (defScope s_Cast_init) := ⟨rfl, rfl, rfl, by decide +kernel, rfl, by decide +kernel, by decide +kernel⟩
theorem sc_Cast_text : FnScope N_Cast_text ["self"] (defScope s_Cast_text) := ⟨rfl, rfl, rfl, by decide +kernel, rfl, by decide +kernel, by decide +kernel⟩
theorem sc_Cast_heights : FnScope N_Cast_heights ["self"] (defScope s_Cast_heights) := ⟨rfl, rfl, rfl, by decide +kernel, rfl, by decide +kernel, by decide +kernel⟩
theorem sc_State_init : FnScope N_State_init ["self", "pages", "shown", "kept_card", "kept_bound"] (defScope s_State_init) := ⟨rfl, rfl, rfl, by decide +kernel, rfl, by decide +kernel, by decide +kernel⟩
theorem sc_Desk_init : FnScope N_Desk_init ["self", "calendar", "bound"] (defScope s_Desk_init) := ⟨rfl, rfl, rfl, by decide +kernel, rfl, by decide +kernel, by decide +kernel⟩
theorem sc_Desk_step : FnScope N_Desk_step ["self", "held", "card", "bound"] (defScope s_Desk_step) := ⟨rfl, rfl, rfl, by decide +kernel, rfl, by decide +kernel, by decide +kernel⟩
theorem sc_Desk_hold : FnScope N_Desk_hold ["self", "held"] (defScope s_Desk_hold) := ⟨rfl, rfl, rfl, by decide +kernel, rfl, by decide +kernel, by decide +kernel⟩
theorem sc_Desk_put_at : FnScope N_Desk_put_at ["self", "number", "page"] (defScope s_Desk_put_at) := ⟨rfl, rfl, rfl, by decide +kernel, rfl, by decide +kernel, by decide +kernel⟩
theorem sc_Desk_change : FnScope N_Desk_change ["self", "number", "page"] (defScope s_Desk_change) := ⟨rfl, rfl, rfl, by decide +kernel, rfl, by decide +kernel, by decide +kernel⟩
theorem sc_Desk_page_at : FnScope N_Desk_page_at ["self", "number"] (defScope s_Desk_page_at) := ⟨rfl, rfl, rfl, by decide +kernel, rfl, by decide +kernel, by decide +kernel⟩
theorem sc_Desk_check_known : FnScope N_Desk_check_known ["self"] (defScope s_Desk_check_known) := ⟨rfl, rfl, rfl, by decide +kernel, rfl, by decide +kernel, by decide +kernel⟩
theorem sc_Desk_put : FnScope N_Desk_put ["self", "page"] (defScope s_Desk_put) := ⟨rfl, rfl, rfl, by decide +kernel, rfl, by decide +kernel, by decide +kernel⟩
theorem sc_Desk_insert : FnScope N_Desk_insert ["self", "number", "page"] (defScope s_Desk_insert) := ⟨rfl, rfl, rfl, by decide +kernel, rfl, by decide +kernel, by decide +kernel⟩
theorem sc_Desk_setitem : FnScope N_Desk_setitem ["self", "number", "page"] (defScope s_Desk_setitem) := ⟨rfl, rfl, rfl, by decide +kernel, rfl, by decide +kernel, by decide +kernel⟩
theorem sc_Desk_take : FnScope N_Desk_take ["self", "number"] (defScope s_Desk_take) := ⟨rfl, rfl, rfl, by decide +kernel, rfl, by decide +kernel, by decide +kernel⟩
theorem sc_Desk_lose : FnScope N_Desk_lose ["self", "number"] (defScope s_Desk_lose) := ⟨rfl, rfl, rfl, by decide +kernel, rfl, by decide +kernel, by decide +kernel⟩
theorem sc_Desk_find : FnScope N_Desk_find ["self", "number", "page"] (defScope s_Desk_find) := ⟨rfl, rfl, rfl, by decide +kernel, rfl, by decide +kernel, by decide +kernel⟩
theorem sc_Desk_lay : FnScope N_Desk_lay ["self", "card"] (defScope s_Desk_lay) := ⟨rfl, rfl, rfl, by decide +kernel, rfl, by decide +kernel, by decide +kernel⟩
theorem sc_Desk_mark : FnScope N_Desk_mark ["self"] (defScope s_Desk_mark) := ⟨rfl, rfl, rfl, by decide +kernel, rfl, by decide +kernel, by decide +kernel⟩
theorem sc_Desk_tear : FnScope N_Desk_tear ["self"] (defScope s_Desk_tear) := ⟨rfl, rfl, rfl, by decide +kernel, rfl, by decide +kernel, by decide +kernel⟩
theorem sc_Desk_change_bound : FnScope N_Desk_change_bound ["self", "number"] (defScope s_Desk_change_bound) := ⟨rfl, rfl, rfl, by decide +kernel, rfl, by decide +kernel, by decide +kernel⟩
theorem sc_Desk_undo : FnScope N_Desk_undo ["self"] (defScope s_Desk_undo) := ⟨rfl, rfl, rfl, by decide +kernel, rfl, by decide +kernel, by decide +kernel⟩
theorem sc_Desk_card : FnScope N_Desk_card ["self"] (defScope s_Desk_card) := ⟨rfl, rfl, rfl, by decide +kernel, rfl, by decide +kernel, by decide +kernel⟩
theorem sc_Desk_bound : FnScope N_Desk_bound ["self"] (defScope s_Desk_bound) := ⟨rfl, rfl, rfl, by decide +kernel, rfl, by decide +kernel, by decide +kernel⟩
theorem sc_Desk_iter : FnScope N_Desk_iter ["self"] (defScope s_Desk_iter) := ⟨rfl, rfl, rfl, by decide +kernel, rfl, by decide +kernel, by decide +kernel⟩
theorem sc_Desk_entries : FnScope N_Desk_entries ["self", "number"] (defScope s_Desk_entries) := ⟨rfl, rfl, rfl, by decide +kernel, rfl, by decide +kernel, by decide +kernel⟩
theorem sc_Desk_cast : FnScope N_Desk_cast ["self"] (defScope s_Desk_cast) := ⟨rfl, rfl, rfl, by decide +kernel, rfl, by decide +kernel, by decide +kernel⟩
theorem sc_Calendar_init : FnScope N_Calendar_init ["self", "words"] (defScope s_Calendar_init) := ⟨rfl, rfl, rfl, by decide +kernel, rfl, by decide +kernel, by decide +kernel⟩
theorem sc_Calendar_text : FnScope N_Calendar_text ["self"] (defScope s_Calendar_text) := ⟨rfl, rfl, rfl, by decide +kernel, rfl, by decide +kernel, by decide +kernel⟩
theorem sc_Calendar_places : FnScope N_Calendar_places ["self"] (defScope s_Calendar_places) := ⟨rfl, rfl, rfl, by decide +kernel, rfl, by decide +kernel, by decide +kernel⟩
theorem sc_Calendar_signs : FnScope N_Calendar_signs ["self"] (defScope s_Calendar_signs) := ⟨rfl, rfl, rfl, by decide +kernel, rfl, by decide +kernel, by decide +kernel⟩
theorem sc_Calendar_stands : FnScope N_Calendar_stands ["self", "sign"] (defScope s_Calendar_stands) := ⟨rfl, rfl, rfl, by decide +kernel, rfl, by decide +kernel, by decide +kernel⟩
theorem sc_Trial_init : FnScope N_Trial_init ["self", "desk"] (defScope s_Trial_init) := ⟨rfl, rfl, rfl, by decide +kernel, rfl, by decide +kernel, by decide +kernel⟩
theorem sc_Trial_enter : FnScope N_Trial_enter ["self"] (defScope s_Trial_enter) := ⟨rfl, rfl, rfl, by decide +kernel, rfl, by decide +kernel, by decide +kernel⟩
theorem sc_Trial_exit : FnScope N_Trial_exit ["self", "kind", "value", "trace"] (defScope s_Trial_exit) := ⟨rfl, rfl, rfl, by decide +kernel, rfl, by decide +kernel, by decide +kernel⟩
theorem sc_BadSize_init : FnScope N_BadSize_init ["self", "size"] (defScope s_BadSize_init) := ⟨rfl, rfl, rfl, by decide +kernel, rfl, by decide +kernel, by decide +kernel⟩
theorem sc_TooManyBalls_init : FnScope N_TooManyBalls_init ["self", "amount"] (defScope s_TooManyBalls_init) := ⟨rfl, rfl, rfl, by decide +kernel, rfl, by decide +kernel, by decide +kernel⟩
theorem sc_BadText_init : FnScope N_BadText_init ["self", "index"] (defScope s_BadText_init) := ⟨rfl, rfl, rfl, by decide +kernel, rfl, by decide +kernel, by decide +kernel⟩
theorem sc_BadPage_init : FnScope N_BadPage_init ["self", "index"] (defScope s_BadPage_init) := ⟨rfl, rfl, rfl, by decide +kernel, rfl, by decide +kernel, by decide +kernel⟩
theorem sc_NoPage_init : FnScope N_NoPage_init ["self", "number"] (defScope s_NoPage_init) := ⟨rfl, rfl, rfl, by decide +kernel, rfl, by decide +kernel, by decide +kernel⟩
theorem sc_PageLost_init : FnScope N_PageLost_init ["self", "number"] (defScope s_PageLost_init) := ⟨rfl, rfl, rfl, by decide +kernel, rfl, by decide +kernel, by decide +kernel⟩
theorem sc_NotLost_init : FnScope N_NotLost_init ["self", "number"] (defScope s_NotLost_init) := ⟨rfl, rfl, rfl, by decide +kernel, rfl, by decide +kernel, by decide +kernel⟩
theorem sc_Full_init : FnScope N_Full_init ["self", "size"] (defScope s_Full_init) := ⟨rfl, rfl, rfl, by decide +kernel, rfl, by decide +kernel, by decide +kernel⟩
theorem sc_Refused_init : FnScope N_Refused_init ["self", "index"] (defScope s_Refused_init) := ⟨rfl, rfl, rfl, by decide +kernel, rfl, by decide +kernel, by decide +kernel⟩
/-- all of it -/
structure Tx (w : World) (K : Fr) (mg : Str → Option Value) : Prop where
  says : SaysK fn ts fb w K
  hp : ∃ h : Heap, K.In h ∧ h.Ns mainGlobals mg
noncomputable def Tx.h {w : World} {K : Fr} {mg : Str → Option Value} (T : Tx w K mg) : Heap := Classical.choose T.hp
theorem Tx.inn {w : World} {K : Fr} {mg : Str → Option Value} (T : Tx w K mg) : K.In T.h := (Classical.choose_spec T.hp).1
theorem Tx.nss {w : World} {K : Fr} {mg : Str → Option Value} (T : Tx w K mg) : T.h.Ns mainGlobals mg := (Classical.choose_spec T.hp).2
section
variable {w : World} {K : Fr} {mg : Str → Option Value}
theorem Tx.g_check_page (T : Tx w K mg) : mg "check_page" = some (.ref (He.ga K "check_page")) := He.glo_ok T.inn T.nss (T.says.fact 0 rfl)
theorem Tx.g_at_place (T : Tx w K mg) : mg "at_place" = some (.ref (He.ga K "at_place")) := He.glo_ok T.inn T.nss (T.says.fact 1 rfl)
theorem Tx.g_heights_of (T : Tx w K mg) : mg "heights_of" = some (.ref (He.ga K "heights_of")) := He.glo_ok T.inn T.nss (T.says.fact 2 rfl)
theorem Tx.g_carried_came (T : Tx w K mg) : mg "carried_came" = some (.ref (He.ga K "carried_came")) := He.glo_ok T.inn T.nss (T.says.fact 3 rfl)
theorem Tx.g_carried_to (T : Tx w K mg) : mg "carried_to" = some (.ref (He.ga K "carried_to")) := He.glo_ok T.inn T.nss (T.says.fact 4 rfl)
theorem Tx.g_step_came (T : Tx w K mg) : mg "step_came" = some (.ref (He.ga K "step_came")) := He.glo_ok T.inn T.nss (T.says.fact 5 rfl)
theorem Tx.g_sets_of (T : Tx w K mg) : mg "sets_of" = some (.ref (He.ga K "sets_of")) := He.glo_ok T.inn T.nss (T.says.fact 6 rfl)
theorem Tx.g_came_of (T : Tx w K mg) : mg "came_of" = some (.ref (He.ga K "came_of")) := He.glo_ok T.inn T.nss (T.says.fact 7 rfl)
theorem Tx.g_cast_of (T : Tx w K mg) : mg "cast_of" = some (.ref (He.ga K "cast_of")) := He.glo_ok T.inn T.nss (T.says.fact 8 rfl)
theorem Tx.g_size_of (T : Tx w K mg) : mg "size_of" = some (.ref (He.ga K "size_of")) := He.glo_ok T.inn T.nss (T.says.fact 9 rfl)
theorem Tx.g_check_entries (T : Tx w K mg) : mg "check_entries" = some (.ref (He.ga K "check_entries")) := He.glo_ok T.inn T.nss (T.says.fact 10 rfl)
theorem Tx.g_is_rising (T : Tx w K mg) : mg "is_rising" = some (.ref (He.ga K "is_rising")) := He.glo_ok T.inn T.nss (T.says.fact 11 rfl)
theorem Tx.g_is_number (T : Tx w K mg) : mg "is_number" = some (.ref (He.ga K "is_number")) := He.glo_ok T.inn T.nss (T.says.fact 12 rfl)
theorem Tx.g_page_of_word (T : Tx w K mg) : mg "page_of_word" = some (.ref (He.ga K "page_of_word")) := He.glo_ok T.inn T.nss (T.says.fact 13 rfl)
theorem Tx.g_word_of_page (T : Tx w K mg) : mg "word_of_page" = some (.ref (He.ga K "word_of_page")) := He.glo_ok T.inn T.nss (T.says.fact 14 rfl)
theorem Tx.g_deed_of (T : Tx w K mg) : mg "deed_of" = some (.ref (He.ga K "deed_of")) := He.glo_ok T.inn T.nss (T.says.fact 15 rfl)
theorem Tx.g_carry_out (T : Tx w K mg) : mg "carry_out" = some (.ref (He.ga K "carry_out")) := He.glo_ok T.inn T.nss (T.says.fact 16 rfl)
theorem Tx.g_enter (T : Tx w K mg) : mg "enter" = some (.ref (He.ga K "enter")) := He.glo_ok T.inn T.nss (T.says.fact 17 rfl)
theorem Tx.g_write_desk (T : Tx w K mg) : mg "write_desk" = some (.ref (He.ga K "write_desk")) := He.glo_ok T.inn T.nss (T.says.fact 18 rfl)
theorem Tx.g_law_begin (T : Tx w K mg) : mg "_law_begin" = some (.ref (He.ga K "_law_begin")) := He.glo_ok T.inn T.nss (T.says.fact 19 rfl)
theorem Tx.g_law_draw (T : Tx w K mg) : mg "_law_draw" = some (.ref (He.ga K "_law_draw")) := He.glo_ok T.inn T.nss (T.says.fact 20 rfl)
theorem Tx.g_law_counts (T : Tx w K mg) : mg "_law_counts" = some (.ref (He.ga K "_law_counts")) := He.glo_ok T.inn T.nss (T.says.fact 21 rfl)
theorem Tx.g_law_heights (T : Tx w K mg) : mg "_law_heights" = some (.ref (He.ga K "_law_heights")) := He.glo_ok T.inn T.nss (T.says.fact 22 rfl)
theorem Tx.g_law_stands (T : Tx w K mg) : mg "_law_stands" = some (.ref (He.ga K "_law_stands")) := He.glo_ok T.inn T.nss (T.says.fact 23 rfl)
theorem Tx.g_law_words (T : Tx w K mg) : mg "_law_words" = some (.ref (He.ga K "_law_words")) := He.glo_ok T.inn T.nss (T.says.fact 24 rfl)
theorem Tx.g_law_text (T : Tx w K mg) : mg "_law_text" = some (.ref (He.ga K "_law_text")) := He.glo_ok T.inn T.nss (T.says.fact 25 rfl)
theorem Tx.g_law_step (T : Tx w K mg) : mg "_law_step" = some (.ref (He.ga K "_law_step")) := He.glo_ok T.inn T.nss (T.says.fact 26 rfl)
theorem Tx.g_law_line (T : Tx w K mg) : mg "_law_line" = some (.ref (He.ga K "_law_line")) := He.glo_ok T.inn T.nss (T.says.fact 27 rfl)
theorem Tx.g_law_page_taken (T : Tx w K mg) : mg "_law_page_taken" = some (.ref (He.ga K "_law_page_taken")) := He.glo_ok T.inn T.nss (T.says.fact 28 rfl)
theorem Tx.g_law_changed (T : Tx w K mg) : mg "_law_changed" = some (.ref (He.ga K "_law_changed")) := He.glo_ok T.inn T.nss (T.says.fact 29 rfl)
theorem Tx.g_law_first_lost (T : Tx w K mg) : mg "_law_first_lost" = some (.ref (He.ga K "_law_first_lost")) := He.glo_ok T.inn T.nss (T.says.fact 30 rfl)
theorem Tx.g_law_cast (T : Tx w K mg) : mg "_law_cast" = some (.ref (He.ga K "_law_cast")) := He.glo_ok T.inn T.nss (T.says.fact 31 rfl)
theorem Tx.g_law_next (T : Tx w K mg) : mg "_law_next" = some (.ref (He.ga K "_law_next")) := He.glo_ok T.inn T.nss (T.says.fact 32 rfl)
theorem Tx.g_law_told (T : Tx w K mg) : mg "_law_told" = some (.ref (He.ga K "_law_told")) := He.glo_ok T.inn T.nss (T.says.fact 33 rfl)
theorem Tx.g_law_entered (T : Tx w K mg) : mg "_law_entered" = some (.ref (He.ga K "_law_entered")) := He.glo_ok T.inn T.nss (T.says.fact 34 rfl)
theorem Tx.g_law_undone (T : Tx w K mg) : mg "_law_undone" = some (.ref (He.ga K "_law_undone")) := He.glo_ok T.inn T.nss (T.says.fact 35 rfl)
theorem Tx.g_law_cast_told (T : Tx w K mg) : mg "_law_cast_told" = some (.ref (He.ga K "_law_cast_told")) := He.glo_ok T.inn T.nss (T.says.fact 36 rfl)
theorem Tx.g_law_asked (T : Tx w K mg) : mg "_law_asked" = some (.ref (He.ga K "_law_asked")) := He.glo_ok T.inn T.nss (T.says.fact 37 rfl)
theorem Tx.g_law_due_text (T : Tx w K mg) : mg "_law_due_text" = some (.ref (He.ga K "_law_due_text")) := He.glo_ok T.inn T.nss (T.says.fact 38 rfl)
theorem Tx.g_law_stands_so (T : Tx w K mg) : mg "_law_stands_so" = some (.ref (He.ga K "_law_stands_so")) := He.glo_ok T.inn T.nss (T.says.fact 39 rfl)
theorem Tx.g_law_all_back (T : Tx w K mg) : mg "_law_all_back" = some (.ref (He.ga K "_law_all_back")) := He.glo_ok T.inn T.nss (T.says.fact 40 rfl)
theorem Tx.g_law_enter_turn (T : Tx w K mg) : mg "_law_enter_turn" = some (.ref (He.ga K "_law_enter_turn")) := He.glo_ok T.inn T.nss (T.says.fact 41 rfl)
theorem Tx.g_law_step_turn (T : Tx w K mg) : mg "_law_step_turn" = some (.ref (He.ga K "_law_step_turn")) := He.glo_ok T.inn T.nss (T.says.fact 42 rfl)
theorem Tx.g_law (T : Tx w K mg) : mg "law" = some (.ref (He.ga K "law")) := He.glo_ok T.inn T.nss (T.says.fact 43 rfl)
theorem Tx.g_Cast (T : Tx w K mg) : mg "Cast" = some (.ref (He.ga K "Cast")) := He.glo_ok T.inn T.nss (T.says.fact 44 rfl)
theorem Tx.g_State (T : Tx w K mg) : mg "State" = some (.ref (He.ga K "State")) := He.glo_ok T.inn T.nss (T.says.fact 45 rfl)
theorem Tx.g_Desk (T : Tx w K mg) : mg "Desk" = some (.ref (He.ga K "Desk")) := He.glo_ok T.inn T.nss (T.says.fact 46 rfl)
theorem Tx.g_Calendar (T : Tx w K mg) : mg "Calendar" = some (.ref (He.ga K "Calendar")) := He.glo_ok T.inn T.nss (T.says.fact 47 rfl)
theorem Tx.g_Trial (T : Tx w K mg) : mg "Trial" = some (.ref (He.ga K "Trial")) := He.glo_ok T.inn T.nss (T.says.fact 48 rfl)
theorem Tx.g_BadSize (T : Tx w K mg) : mg "BadSize" = some (.ref (He.ga K "BadSize")) := He.glo_ok T.inn T.nss (T.says.fact 49 rfl)
theorem Tx.g_TooManyBalls (T : Tx w K mg) : mg "TooManyBalls" = some (.ref (He.ga K "TooManyBalls")) := He.glo_ok T.inn T.nss (T.says.fact 50 rfl)
theorem Tx.g_BadText (T : Tx w K mg) : mg "BadText" = some (.ref (He.ga K "BadText")) := He.glo_ok T.inn T.nss (T.says.fact 51 rfl)
theorem Tx.g_BadPage (T : Tx w K mg) : mg "BadPage" = some (.ref (He.ga K "BadPage")) := He.glo_ok T.inn T.nss (T.says.fact 52 rfl)
theorem Tx.g_NoPage (T : Tx w K mg) : mg "NoPage" = some (.ref (He.ga K "NoPage")) := He.glo_ok T.inn T.nss (T.says.fact 53 rfl)
theorem Tx.g_PageLost (T : Tx w K mg) : mg "PageLost" = some (.ref (He.ga K "PageLost")) := He.glo_ok T.inn T.nss (T.says.fact 54 rfl)
theorem Tx.g_NotLost (T : Tx w K mg) : mg "NotLost" = some (.ref (He.ga K "NotLost")) := He.glo_ok T.inn T.nss (T.says.fact 55 rfl)
theorem Tx.g_Full (T : Tx w K mg) : mg "Full" = some (.ref (He.ga K "Full")) := He.glo_ok T.inn T.nss (T.says.fact 56 rfl)
theorem Tx.g_Refused (T : Tx w K mg) : mg "Refused" = some (.ref (He.ga K "Refused")) := He.glo_ok T.inn T.nss (T.says.fact 57 rfl)
theorem Tx.g_NoCard (T : Tx w K mg) : mg "NoCard" = some (.ref (He.ga K "NoCard")) := He.glo_ok T.inn T.nss (T.says.fact 58 rfl)
theorem Tx.g_NothingToUndo (T : Tx w K mg) : mg "NothingToUndo" = some (.ref (He.ga K "NothingToUndo")) := He.glo_ok T.inn T.nss (T.says.fact 59 rfl)
theorem Tx.g_RollError (T : Tx w K mg) : mg "RollError" = some (.ref (He.ga K "RollError")) := He.glo_ok T.inn T.nss (T.says.fact 60 rfl)
theorem Tx.g_FORMS (T : Tx w K mg) : mg "FORMS" = some (.ref (He.ga K "FORMS")) := He.glo_ok T.inn T.nss (T.says.fact 61 rfl)
theorem Tx.z_len (T : Tx w K mg) : mg "len" = none := He.free_ok T.inn T.nss (T.says.fact 62 rfl)
theorem Tx.z_range (T : Tx w K mg) : mg "range" = none := He.free_ok T.inn T.nss (T.says.fact 63 rfl)
theorem Tx.z_sum (T : Tx w K mg) : mg "sum" = none := He.free_ok T.inn T.nss (T.says.fact 64 rfl)
theorem Tx.z_tuple (T : Tx w K mg) : mg "tuple" = none := He.free_ok T.inn T.nss (T.says.fact 65 rfl)
theorem Tx.z_list (T : Tx w K mg) : mg "list" = none := He.free_ok T.inn T.nss (T.says.fact 66 rfl)
theorem Tx.z_str (T : Tx w K mg) : mg "str" = none := He.free_ok T.inn T.nss (T.says.fact 67 rfl)
theorem Tx.z_int (T : Tx w K mg) : mg "int" = none := He.free_ok T.inn T.nss (T.says.fact 68 rfl)
theorem Tx.z_isinstance (T : Tx w K mg) : mg "isinstance" = none := He.free_ok T.inn T.nss (T.says.fact 69 rfl)
theorem Tx.z_enumerate (T : Tx w K mg) : mg "enumerate" = none := He.free_ok T.inn T.nss (T.says.fact 70 rfl)
theorem Tx.z_zip (T : Tx w K mg) : mg "zip" = none := He.free_ok T.inn T.nss (T.says.fact 71 rfl)
theorem Tx.z_any (T : Tx w K mg) : mg "any" = none := He.free_ok T.inn T.nss (T.says.fact 72 rfl)
theorem Tx.z_abs (T : Tx w K mg) : mg "abs" = none := He.free_ok T.inn T.nss (T.says.fact 73 rfl)
theorem Tx.z_max (T : Tx w K mg) : mg "max" = none := He.free_ok T.inn T.nss (T.says.fact 74 rfl)
theorem Tx.z_iter (T : Tx w K mg) : mg "iter" = none := He.free_ok T.inn T.nss (T.says.fact 75 rfl)
theorem Tx.z_bool (T : Tx w K mg) : mg "bool" = none := He.free_ok T.inn T.nss (T.says.fact 76 rfl)
theorem Tx.i_MOST_PLACES (T : Tx w K mg) : ∃ t, mg "MOST_PLACES" = some (.int 6 t) := He.int_ok T.inn T.nss (T.says.fact 77 rfl)
theorem Tx.i_MOST_BALLS (T : Tx w K mg) : ∃ t, mg "MOST_BALLS" = some (.int 16 t) := He.int_ok T.inn T.nss (T.says.fact 78 rfl)
theorem Tx.i_MOST_HEIGHT (T : Tx w K mg) : ∃ t, mg "MOST_HEIGHT" = some (.int 96 t) := He.int_ok T.inn T.nss (T.says.fact 79 rfl)
theorem Tx.i_MOST_PAGE (T : Tx w K mg) : ∃ t, mg "MOST_PAGE" = some (.int 16 t) := He.int_ok T.inn T.nss (T.says.fact 80 rfl)
theorem Tx.i_MOST_PAGES (T : Tx w K mg) : ∃ t, mg "MOST_PAGES" = some (.int 8 t) := He.int_ok T.inn T.nss (T.says.fact 81 rfl)
theorem Tx.i_MOST_DIGITS (T : Tx w K mg) : ∃ t, mg "MOST_DIGITS" = some (.int 3 t) := He.int_ok T.inn T.nss (T.says.fact 82 rfl)
theorem Tx.s_LETTERS (T : Tx w K mg) : ∃ t, mg "LETTERS" = some (.str "abcdefghijklmnopqrstuvwxyz" t) := He.str_ok T.inn T.nss (T.says.fact 83 rfl)
theorem Tx.s_DIGITS_deeds (T : Tx w K mg) : ∃ t, mg "DIGITS_deeds" = some (.str "0123456789" t) := He.str_ok T.inn T.nss (T.says.fact 84 rfl)
theorem Tx.s_FIRST_WORD (T : Tx w K mg) : ∃ t, mg "FIRST_WORD" = some (.str "calendar " t) := He.str_ok T.inn T.nss (T.says.fact 85 rfl)
theorem Tx.cl_Cast (T : Tx w K mg) : Cls K (He.ga K "Cast") := He.cls_ok (T.says.fact 86 rfl)
theorem Tx.mk_Cast (T : Tx w K mg) : Mk K (He.ga K "Cast") (He.ma K (He.ga K "Cast") "__init__") := He.mkr_ok (T.says.fact 87 rfl)
theorem Tx.n_Cast_heights (T : Tx w K mg) : NoAttr K (He.ga K "Cast") "_heights" := He.noat_ok (T.says.fact 88 rfl)
theorem Tx.m_Cast_init (T : Tx w K mg) : Meth K (He.ga K "Cast") "__init__" (He.ma K (He.ga K "Cast") "__init__") := He.meth_ok (T.says.fact 89 rfl)
theorem Tx.m_Cast_text (T : Tx w K mg) : Meth K (He.ga K "Cast") "text" (He.ma K (He.ga K "Cast") "text") := He.meth_ok (T.says.fact 90 rfl)
theorem Tx.p_Cast_heights (T : Tx w K mg) : PropOf K (He.ga K "Cast") "heights" (He.ma K (He.ga K "Cast") "heights") (pgA K (He.ga K "Cast") "heights") := propB_ok (T.says.fact 91 rfl)
theorem Tx.cl_State (T : Tx w K mg) : Cls K (He.ga K "State") := He.cls_ok (T.says.fact 92 rfl)
theorem Tx.mk_State (T : Tx w K mg) : Mk K (He.ga K "State") (He.ma K (He.ga K "State") "__init__") := He.mkr_ok (T.says.fact 93 rfl)
theorem Tx.n_State_held (T : Tx w K mg) : NoAttr K (He.ga K "State") "held" := He.noat_ok (T.says.fact 94 rfl)
theorem Tx.n_State_shown (T : Tx w K mg) : NoAttr K (He.ga K "State") "shown" := He.noat_ok (T.says.fact 95 rfl)
theorem Tx.n_State_kept_card (T : Tx w K mg) : NoAttr K (He.ga K "State") "kept_card" := He.noat_ok (T.says.fact 96 rfl)
theorem Tx.n_State_kept_bound (T : Tx w K mg) : NoAttr K (He.ga K "State") "kept_bound" := He.noat_ok (T.says.fact 97 rfl)
theorem Tx.m_State_init (T : Tx w K mg) : Meth K (He.ga K "State") "__init__" (He.ma K (He.ga K "State") "__init__") := He.meth_ok (T.says.fact 98 rfl)
theorem Tx.cl_Desk (T : Tx w K mg) : Cls K (He.ga K "Desk") := He.cls_ok (T.says.fact 99 rfl)
theorem Tx.mk_Desk (T : Tx w K mg) : Mk K (He.ga K "Desk") (He.ma K (He.ga K "Desk") "__init__") := He.mkr_ok (T.says.fact 100 rfl)
theorem Tx.n_Desk_calendar (T : Tx w K mg) : NoAttr K (He.ga K "Desk") "calendar" := He.noat_ok (T.says.fact 101 rfl)
theorem Tx.n_Desk_now (T : Tx w K mg) : NoAttr K (He.ga K "Desk") "_now" := He.noat_ok (T.says.fact 102 rfl)
theorem Tx.n_Desk_past (T : Tx w K mg) : NoAttr K (He.ga K "Desk") "_past" := He.noat_ok (T.says.fact 103 rfl)
theorem Tx.m_Desk_init (T : Tx w K mg) : Meth K (He.ga K "Desk") "__init__" (He.ma K (He.ga K "Desk") "__init__") := He.meth_ok (T.says.fact 104 rfl)
theorem Tx.m_Desk_step (T : Tx w K mg) : Meth K (He.ga K "Desk") "_step" (He.ma K (He.ga K "Desk") "_step") := He.meth_ok (T.says.fact 105 rfl)
theorem Tx.m_Desk_hold (T : Tx w K mg) : Meth K (He.ga K "Desk") "_hold" (He.ma K (He.ga K "Desk") "_hold") := He.meth_ok (T.says.fact 106 rfl)
theorem Tx.m_Desk_put_at (T : Tx w K mg) : Meth K (He.ga K "Desk") "_put_at" (He.ma K (He.ga K "Desk") "_put_at") := He.meth_ok (T.says.fact 107 rfl)
theorem Tx.m_Desk_change (T : Tx w K mg) : Meth K (He.ga K "Desk") "_change" (He.ma K (He.ga K "Desk") "_change") := He.meth_ok (T.says.fact 108 rfl)
theorem Tx.m_Desk_page_at (T : Tx w K mg) : Meth K (He.ga K "Desk") "_page_at" (He.ma K (He.ga K "Desk") "_page_at") := He.meth_ok (T.says.fact 109 rfl)
theorem Tx.m_Desk_check_known (T : Tx w K mg) : Meth K (He.ga K "Desk") "_check_known" (He.ma K (He.ga K "Desk") "_check_known") := He.meth_ok (T.says.fact 110 rfl)
theorem Tx.m_Desk_put (T : Tx w K mg) : Meth K (He.ga K "Desk") "put" (He.ma K (He.ga K "Desk") "put") := He.meth_ok (T.says.fact 111 rfl)
theorem Tx.m_Desk_insert (T : Tx w K mg) : Meth K (He.ga K "Desk") "insert" (He.ma K (He.ga K "Desk") "insert") := He.meth_ok (T.says.fact 112 rfl)
theorem Tx.m_Desk_setitem (T : Tx w K mg) : Meth K (He.ga K "Desk") "__setitem__" (He.ma K (He.ga K "Desk") "__setitem__") := He.meth_ok (T.says.fact 113 rfl)
theorem Tx.m_Desk_take (T : Tx w K mg) : Meth K (He.ga K "Desk") "take" (He.ma K (He.ga K "Desk") "take") := He.meth_ok (T.says.fact 114 rfl)
theorem Tx.m_Desk_lose (T : Tx w K mg) : Meth K (He.ga K "Desk") "lose" (He.ma K (He.ga K "Desk") "lose") := He.meth_ok (T.says.fact 115 rfl)
theorem Tx.m_Desk_find (T : Tx w K mg) : Meth K (He.ga K "Desk") "find" (He.ma K (He.ga K "Desk") "find") := He.meth_ok (T.says.fact 116 rfl)
theorem Tx.m_Desk_lay (T : Tx w K mg) : Meth K (He.ga K "Desk") "lay" (He.ma K (He.ga K "Desk") "lay") := He.meth_ok (T.says.fact 117 rfl)
theorem Tx.m_Desk_mark (T : Tx w K mg) : Meth K (He.ga K "Desk") "mark" (He.ma K (He.ga K "Desk") "mark") := He.meth_ok (T.says.fact 118 rfl)
theorem Tx.m_Desk_tear (T : Tx w K mg) : Meth K (He.ga K "Desk") "tear" (He.ma K (He.ga K "Desk") "tear") := He.meth_ok (T.says.fact 119 rfl)
theorem Tx.m_Desk_change_bound (T : Tx w K mg) : Meth K (He.ga K "Desk") "change_bound" (He.ma K (He.ga K "Desk") "change_bound") := He.meth_ok (T.says.fact 120 rfl)
theorem Tx.m_Desk_undo (T : Tx w K mg) : Meth K (He.ga K "Desk") "undo" (He.ma K (He.ga K "Desk") "undo") := He.meth_ok (T.says.fact 121 rfl)
theorem Tx.p_Desk_card (T : Tx w K mg) : PropOf K (He.ga K "Desk") "card" (He.ma K (He.ga K "Desk") "card") (pgA K (He.ga K "Desk") "card") := propB_ok (T.says.fact 122 rfl)
theorem Tx.p_Desk_bound (T : Tx w K mg) : PropOf K (He.ga K "Desk") "bound" (He.ma K (He.ga K "Desk") "bound") (pgA K (He.ga K "Desk") "bound") := propB_ok (T.says.fact 123 rfl)
theorem Tx.m_Desk_iter (T : Tx w K mg) : Meth K (He.ga K "Desk") "__iter__" (He.ma K (He.ga K "Desk") "__iter__") := He.meth_ok (T.says.fact 124 rfl)
theorem Tx.m_Desk_entries (T : Tx w K mg) : Meth K (He.ga K "Desk") "entries" (He.ma K (He.ga K "Desk") "entries") := He.meth_ok (T.says.fact 125 rfl)
theorem Tx.m_Desk_cast (T : Tx w K mg) : Meth K (He.ga K "Desk") "cast" (He.ma K (He.ga K "Desk") "cast") := He.meth_ok (T.says.fact 126 rfl)
theorem Tx.cl_Calendar (T : Tx w K mg) : Cls K (He.ga K "Calendar") := He.cls_ok (T.says.fact 127 rfl)
theorem Tx.mk_Calendar (T : Tx w K mg) : Mk K (He.ga K "Calendar") (He.ma K (He.ga K "Calendar") "__init__") := He.mkr_ok (T.says.fact 128 rfl)
theorem Tx.n_Calendar_words (T : Tx w K mg) : NoAttr K (He.ga K "Calendar") "_words" := He.noat_ok (T.says.fact 129 rfl)
theorem Tx.m_Calendar_init (T : Tx w K mg) : Meth K (He.ga K "Calendar") "__init__" (He.ma K (He.ga K "Calendar") "__init__") := He.meth_ok (T.says.fact 130 rfl)
theorem Tx.m_Calendar_text (T : Tx w K mg) : Meth K (He.ga K "Calendar") "text" (He.ma K (He.ga K "Calendar") "text") := He.meth_ok (T.says.fact 131 rfl)
theorem Tx.p_Calendar_places (T : Tx w K mg) : PropOf K (He.ga K "Calendar") "places" (He.ma K (He.ga K "Calendar") "places") (pgA K (He.ga K "Calendar") "places") := propB_ok (T.says.fact 132 rfl)
theorem Tx.p_Calendar_signs (T : Tx w K mg) : PropOf K (He.ga K "Calendar") "signs" (He.ma K (He.ga K "Calendar") "signs") (pgA K (He.ga K "Calendar") "signs") := propB_ok (T.says.fact 133 rfl)
theorem Tx.m_Calendar_stands (T : Tx w K mg) : Meth K (He.ga K "Calendar") "stands" (He.ma K (He.ga K "Calendar") "stands") := He.meth_ok (T.says.fact 134 rfl)
theorem Tx.cl_Trial (T : Tx w K mg) : Cls K (He.ga K "Trial") := He.cls_ok (T.says.fact 135 rfl)
theorem Tx.mk_Trial (T : Tx w K mg) : Mk K (He.ga K "Trial") (He.ma K (He.ga K "Trial") "__init__") := He.mkr_ok (T.says.fact 136 rfl)
theorem Tx.n_Trial_desk (T : Tx w K mg) : NoAttr K (He.ga K "Trial") "_desk" := He.noat_ok (T.says.fact 137 rfl)
theorem Tx.n_Trial_state (T : Tx w K mg) : NoAttr K (He.ga K "Trial") "_state" := He.noat_ok (T.says.fact 138 rfl)
theorem Tx.n_Trial_steps (T : Tx w K mg) : NoAttr K (He.ga K "Trial") "_steps" := He.noat_ok (T.says.fact 139 rfl)
theorem Tx.n_Trial_one_step_more (T : Tx w K mg) : NoAttr K (He.ga K "Trial") "_one_step_more" := He.noat_ok (T.says.fact 140 rfl)
theorem Tx.m_Trial_init (T : Tx w K mg) : Meth K (He.ga K "Trial") "__init__" (He.ma K (He.ga K "Trial") "__init__") := He.meth_ok (T.says.fact 141 rfl)
theorem Tx.m_Trial_enter (T : Tx w K mg) : Meth K (He.ga K "Trial") "__enter__" (He.ma K (He.ga K "Trial") "__enter__") := He.meth_ok (T.says.fact 142 rfl)
theorem Tx.m_Trial_exit (T : Tx w K mg) : Meth K (He.ga K "Trial") "__exit__" (He.ma K (He.ga K "Trial") "__exit__") := He.meth_ok (T.says.fact 143 rfl)
theorem Tx.cv_MOST_PLACES (T : Tx w K mg) : ClX.CRead K (He.ga K "Cast") (.type "type") ∧ ∃ u, ClX.CVal K (He.ga K "Cast") (.type "type") "MOST_PLACES" (.int 6) u := cvalB_ok (T.says.fact 144 rfl)
theorem Tx.cv_MOST_BALLS (T : Tx w K mg) : ClX.CRead K (He.ga K "Cast") (.type "type") ∧ ∃ u, ClX.CVal K (He.ga K "Cast") (.type "type") "MOST_BALLS" (.int 16) u := cvalB_ok (T.says.fact 145 rfl)
theorem Tx.ins_Cast (T : Tx w K mg) : insB K "Cast" = true := T.says.fact 146 rfl
theorem Tx.kit_Cast (T : Tx w K mg) : PySem.W.kitOne K (.ref (He.ga K "Cast")) (.ref (He.ga K "Cast")) = some true := of_decide_eq_true (T.says.fact 147 rfl)
theorem Tx.ex_BadSize (T : Tx w K mg) : OexC K (He.ga K "BadSize") := excB_ok (T.says.fact 148 rfl)
theorem Tx.ei_BadSize (T : Tx w K mg) : einB K "BadSize" = true := T.says.fact 149 rfl
theorem Tx.er_BadSize (T : Tx w K mg) : PySem.W.exmOne K (.ref (He.ga K "BadSize")) (.ref (He.ga K "RollError")) = some true := He.exm_ok (T.says.fact 150 rfl)
theorem Tx.ex_TooManyBalls (T : Tx w K mg) : OexC K (He.ga K "TooManyBalls") := excB_ok (T.says.fact 151 rfl)
theorem Tx.ei_TooManyBalls (T : Tx w K mg) : einB K "TooManyBalls" = true := T.says.fact 152 rfl
theorem Tx.er_TooManyBalls (T : Tx w K mg) : PySem.W.exmOne K (.ref (He.ga K "TooManyBalls")) (.ref (He.ga K "RollError")) = some true := He.exm_ok (T.says.fact 153 rfl)
theorem Tx.ex_BadText (T : Tx w K mg) : OexC K (He.ga K "BadText") := excB_ok (T.says.fact 154 rfl)
theorem Tx.ei_BadText (T : Tx w K mg) : einB K "BadText" = true := T.says.fact 155 rfl
theorem Tx.er_BadText (T : Tx w K mg) : PySem.W.exmOne K (.ref (He.ga K "BadText")) (.ref (He.ga K "RollError")) = some true := He.exm_ok (T.says.fact 156 rfl)
theorem Tx.ex_BadPage (T : Tx w K mg) : OexC K (He.ga K "BadPage") := excB_ok (T.says.fact 157 rfl)
theorem Tx.ei_BadPage (T : Tx w K mg) : einB K "BadPage" = true := T.says.fact 158 rfl
theorem Tx.er_BadPage (T : Tx w K mg) : PySem.W.exmOne K (.ref (He.ga K "BadPage")) (.ref (He.ga K "RollError")) = some true := He.exm_ok (T.says.fact 159 rfl)
theorem Tx.ex_NoPage (T : Tx w K mg) : OexC K (He.ga K "NoPage") := excB_ok (T.says.fact 160 rfl)
theorem Tx.ei_NoPage (T : Tx w K mg) : einB K "NoPage" = true := T.says.fact 161 rfl
theorem Tx.er_NoPage (T : Tx w K mg) : PySem.W.exmOne K (.ref (He.ga K "NoPage")) (.ref (He.ga K "RollError")) = some true := He.exm_ok (T.says.fact 162 rfl)
theorem Tx.ex_PageLost (T : Tx w K mg) : OexC K (He.ga K "PageLost") := excB_ok (T.says.fact 163 rfl)
theorem Tx.ei_PageLost (T : Tx w K mg) : einB K "PageLost" = true := T.says.fact 164 rfl
theorem Tx.er_PageLost (T : Tx w K mg) : PySem.W.exmOne K (.ref (He.ga K "PageLost")) (.ref (He.ga K "RollError")) = some true := He.exm_ok (T.says.fact 165 rfl)
theorem Tx.ex_NotLost (T : Tx w K mg) : OexC K (He.ga K "NotLost") := excB_ok (T.says.fact 166 rfl)
theorem Tx.ei_NotLost (T : Tx w K mg) : einB K "NotLost" = true := T.says.fact 167 rfl
theorem Tx.er_NotLost (T : Tx w K mg) : PySem.W.exmOne K (.ref (He.ga K "NotLost")) (.ref (He.ga K "RollError")) = some true := He.exm_ok (T.says.fact 168 rfl)
theorem Tx.ex_Full (T : Tx w K mg) : OexC K (He.ga K "Full") := excB_ok (T.says.fact 169 rfl)
theorem Tx.ei_Full (T : Tx w K mg) : einB K "Full" = true := T.says.fact 170 rfl
theorem Tx.er_Full (T : Tx w K mg) : PySem.W.exmOne K (.ref (He.ga K "Full")) (.ref (He.ga K "RollError")) = some true := He.exm_ok (T.says.fact 171 rfl)
theorem Tx.ex_Refused (T : Tx w K mg) : OexC K (He.ga K "Refused") := excB_ok (T.says.fact 172 rfl)
theorem Tx.ei_Refused (T : Tx w K mg) : einB K "Refused" = true := T.says.fact 173 rfl
theorem Tx.er_Refused (T : Tx w K mg) : PySem.W.exmOne K (.ref (He.ga K "Refused")) (.ref (He.ga K "RollError")) = some true := He.exm_ok (T.says.fact 174 rfl)
theorem Tx.ex_NoCard (T : Tx w K mg) : OexC K (He.ga K "NoCard") := excB_ok (T.says.fact 175 rfl)
theorem Tx.er_NoCard (T : Tx w K mg) : PySem.W.exmOne K (.ref (He.ga K "NoCard")) (.ref (He.ga K "RollError")) = some true := He.exm_ok (T.says.fact 176 rfl)
theorem Tx.ex_NothingToUndo (T : Tx w K mg) : OexC K (He.ga K "NothingToUndo") := excB_ok (T.says.fact 177 rfl)
theorem Tx.er_NothingToUndo (T : Tx w K mg) : PySem.W.exmOne K (.ref (He.ga K "NothingToUndo")) (.ref (He.ga K "RollError")) = some true := He.exm_ok (T.says.fact 178 rfl)
theorem Tx.xi_NoCard (T : Tx w K mg) : PySem.W.excIn K (He.ga K "NoCard") He.veBase "ValueError.__new__" = true := T.says.fact 179 rfl
theorem Tx.xi_NothingToUndo (T : Tx w K mg) : PySem.W.excIn K (He.ga K "NothingToUndo") He.veBase "ValueError.__new__" = true := T.says.fact 180 rfl
theorem Tx.ee_Refused (T : Tx w K mg) : PySem.W.exmOne K (.ref (He.ga K "Refused")) (.ref (He.ga K "Refused")) = some true := He.exm_ok (T.says.fact 181 rfl)
theorem Tx.ee_PageLost (T : Tx w K mg) : PySem.W.exmOne K (.ref (He.ga K "PageLost")) (.ref (He.ga K "PageLost")) = some true := He.exm_ok (T.says.fact 182 rfl)
theorem Tx.ee_NothingToUndo (T : Tx w K mg) : PySem.W.exmOne K (.ref (He.ga K "NothingToUndo")) (.ref (He.ga K "NothingToUndo")) = some true := He.exm_ok (T.says.fact 183 rfl)
theorem Tx.xn_BadSize (T : Tx w K mg) : PySem.W.findIn K (.ref (He.ga K "BadSize")) "size" = some none := He.noat_ok (T.says.fact 184 rfl)
theorem Tx.xn_TooManyBalls (T : Tx w K mg) : PySem.W.findIn K (.ref (He.ga K "TooManyBalls")) "amount" = some none := He.noat_ok (T.says.fact 185 rfl)
theorem Tx.xn_BadText (T : Tx w K mg) : PySem.W.findIn K (.ref (He.ga K "BadText")) "index" = some none := He.noat_ok (T.says.fact 186 rfl)
theorem Tx.xn_BadPage (T : Tx w K mg) : PySem.W.findIn K (.ref (He.ga K "BadPage")) "index" = some none := He.noat_ok (T.says.fact 187 rfl)
theorem Tx.xn_NoPage (T : Tx w K mg) : PySem.W.findIn K (.ref (He.ga K "NoPage")) "number" = some none := He.noat_ok (T.says.fact 188 rfl)
theorem Tx.xf_PageLost (T : Tx w K mg) : XfC K (He.ga K "PageLost") := xfB_ok (T.says.fact 189 rfl)
theorem Tx.xn_PageLost (T : Tx w K mg) : PySem.W.findIn K (.ref (He.ga K "PageLost")) "number" = some none := He.noat_ok (T.says.fact 190 rfl)
theorem Tx.xn_NotLost (T : Tx w K mg) : PySem.W.findIn K (.ref (He.ga K "NotLost")) "number" = some none := He.noat_ok (T.says.fact 191 rfl)
theorem Tx.xn_Full (T : Tx w K mg) : PySem.W.findIn K (.ref (He.ga K "Full")) "size" = some none := He.noat_ok (T.says.fact 192 rfl)
theorem Tx.xf_Refused (T : Tx w K mg) : XfC K (He.ga K "Refused") := xfB_ok (T.says.fact 193 rfl)
theorem Tx.xn_Refused (T : Tx w K mg) : PySem.W.findIn K (.ref (He.ga K "Refused")) "index" = some none := He.noat_ok (T.says.fact 194 rfl)
theorem Tx.xf_NothingToUndo (T : Tx w K mg) : XfC K (He.ga K "NothingToUndo") := xfB_ok (T.says.fact 195 rfl)
theorem Tx.ins_NothingToUndo (T : Tx w K mg) : insB K "NothingToUndo" = true := T.says.fact 196 rfl
theorem Tx.kit_not (T : Tx w K mg) : PySem.W.kitAny K (.ref (He.ga K "NothingToUndo")) [.ref (He.ga K "Refused"), .ref (He.ga K "PageLost")] = some false := of_decide_eq_true (T.says.fact 197 rfl)
theorem Tx.kit_roll (T : Tx w K mg) : PySem.W.kitOne K (.ref (He.ga K "NothingToUndo")) (.ref (He.ga K "RollError")) = some true := of_decide_eq_true (T.says.fact 198 rfl)
theorem Tx.f_put (T : Tx w K mg) : ∃ a, PySem.W.nsIn K (He.ga K "FORMS") "put" = some (some (.ref a)) ∧ ∀ H, SqT K H a [.str "page"] := keyB_ok (T.says.fact 199 rfl)
theorem Tx.f_insert (T : Tx w K mg) : ∃ a, PySem.W.nsIn K (He.ga K "FORMS") "insert" = some (some (.ref a)) ∧ ∀ H, SqT K H a [.str "number", .str "page"] := keyB_ok (T.says.fact 200 rfl)
theorem Tx.f_set (T : Tx w K mg) : ∃ a, PySem.W.nsIn K (He.ga K "FORMS") "set" = some (some (.ref a)) ∧ ∀ H, SqT K H a [.str "number", .str "page"] := keyB_ok (T.says.fact 201 rfl)
theorem Tx.f_take (T : Tx w K mg) : ∃ a, PySem.W.nsIn K (He.ga K "FORMS") "take" = some (some (.ref a)) ∧ ∀ H, SqT K H a [.str "number"] := keyB_ok (T.says.fact 202 rfl)
theorem Tx.f_lose (T : Tx w K mg) : ∃ a, PySem.W.nsIn K (He.ga K "FORMS") "lose" = some (some (.ref a)) ∧ ∀ H, SqT K H a [.str "number"] := keyB_ok (T.says.fact 203 rfl)
theorem Tx.f_find (T : Tx w K mg) : ∃ a, PySem.W.nsIn K (He.ga K "FORMS") "find" = some (some (.ref a)) ∧ ∀ H, SqT K H a [.str "number", .str "page"] := keyB_ok (T.says.fact 204 rfl)
theorem Tx.f_mark (T : Tx w K mg) : ∃ a, PySem.W.nsIn K (He.ga K "FORMS") "mark" = some (some (.ref a)) ∧ ∀ H, SqT K H a [] := keyB_ok (T.says.fact 205 rfl)
theorem Tx.f_tear (T : Tx w K mg) : ∃ a, PySem.W.nsIn K (He.ga K "FORMS") "tear" = some (some (.ref a)) ∧ ∀ H, SqT K H a [] := keyB_ok (T.says.fact 206 rfl)
theorem Tx.f_bound (T : Tx w K mg) : ∃ a, PySem.W.nsIn K (He.ga K "FORMS") "bound" = some (some (.ref a)) ∧ ∀ H, SqT K H a [.str "number"] := keyB_ok (T.says.fact 207 rfl)
theorem Tx.nq_Desk (T : Tx w K mg) : PySem.W.noSeq K (He.ga K "Desk") = true := T.says.fact 208 rfl
theorem Tx.forms (T : Tx w K mg) : ∃ es n, KDict K w (He.ga K "FORMS") es n := T.says.tab 0 rfl
theorem Tx.d_check_page (T : Tx w K mg) : FunD K "check_page" "check_page" (defArgs s_check_page) (defBody s_check_page) (defScope s_check_page) [] [] (a_check_page K) (fdOf K (a_check_page K)) := T.says.def_ 0 rfl
theorem Tx.b_check_page (T : Tx w K mg) : Binds K (fdOf K (a_check_page K)) ["calendar", "page"] [] := (T.d_check_page).bindsN fun _ _ _ _ _ _ us hl => match us, hl with | [_, _], _ => by kernel_rfl
theorem Tx.d_at_place (T : Tx w K mg) : FunD K "at_place" "at_place" (defArgs s_at_place) (defBody s_at_place) (defScope s_at_place) [] [] (a_at_place K) (fdOf K (a_at_place K)) := T.says.def_ 1 rfl
theorem Tx.b_at_place (T : Tx w K mg) : Binds K (fdOf K (a_at_place K)) ["values", "place"] [] := (T.d_at_place).bindsN fun _ _ _ _ _ _ us hl => match us, hl with | [_, _], _ => by kernel_rfl
theorem Tx.d_heights_of (T : Tx w K mg) : FunD K "heights_of" "heights_of" (defArgs s_heights_of) (defBody s_heights_of) (defScope s_heights_of) [] [] (a_heights_of K) (fdOf K (a_heights_of K)) := T.says.def_ 2 rfl
theorem Tx.b_heights_of (T : Tx w K mg) : Binds K (fdOf K (a_heights_of K)) ["came"] [] := (T.d_heights_of).bindsN fun _ _ _ _ _ _ us hl => match us, hl with | [_], _ => by kernel_rfl
theorem Tx.d_carried_came (T : Tx w K mg) : FunD K "carried_came" "carried_came" (defArgs s_carried_came) (defBody s_carried_came) (defScope s_carried_came) [] [] (a_carried_came K) (fdOf K (a_carried_came K)) := T.says.def_ 3 rfl
theorem Tx.b_carried_came (T : Tx w K mg) : Binds K (fdOf K (a_carried_came K)) ["came", "stands"] [] := (T.d_carried_came).bindsN fun _ _ _ _ _ _ us hl => match us, hl with | [_, _], _ => by kernel_rfl
theorem Tx.d_carried_to (T : Tx w K mg) : FunD K "carried_to" "carried_to" (defArgs s_carried_to) (defBody s_carried_to) (defScope s_carried_to) [] [] (a_carried_to K) (fdOf K (a_carried_to K)) := T.says.def_ 4 rfl
theorem Tx.b_carried_to (T : Tx w K mg) : Binds K (fdOf K (a_carried_to K)) ["came", "stands", "gap"] [] := (T.d_carried_to).bindsN fun _ _ _ _ _ _ us hl => match us, hl with | [_, _, _], _ => by kernel_rfl
theorem Tx.d_step_came (T : Tx w K mg) : FunD K "step_came" "step_came" (defArgs s_step_came) (defBody s_step_came) (defScope s_step_came) [] [] (a_step_came K) (fdOf K (a_step_came K)) := T.says.def_ 5 rfl
theorem Tx.b_step_came (T : Tx w K mg) : Binds K (fdOf K (a_step_came K)) ["came", "stands"] [] := (T.d_step_came).bindsN fun _ _ _ _ _ _ us hl => match us, hl with | [_, _], _ => by kernel_rfl
theorem Tx.d_sets_of (T : Tx w K mg) : FunD K "sets_of" "sets_of" (defArgs s_sets_of) (defBody s_sets_of) (defScope s_sets_of) [] [] (a_sets_of K) (fdOf K (a_sets_of K)) := T.says.def_ 6 rfl
theorem Tx.b_sets_of (T : Tx w K mg) : Binds K (fdOf K (a_sets_of K)) ["calendar", "page"] [] := (T.d_sets_of).bindsN fun _ _ _ _ _ _ us hl => match us, hl with | [_, _], _ => by kernel_rfl
theorem Tx.d_came_of (T : Tx w K mg) : FunD K "came_of" "came_of" (defArgs s_came_of) (defBody s_came_of) (defScope s_came_of) [] [] (a_came_of K) (fdOf K (a_came_of K)) := T.says.def_ 7 rfl
theorem Tx.b_came_of (T : Tx w K mg) : Binds K (fdOf K (a_came_of K)) ["calendar", "page"] [] := (T.d_came_of).bindsN fun _ _ _ _ _ _ us hl => match us, hl with | [_, _], _ => by kernel_rfl
theorem Tx.d_cast_of (T : Tx w K mg) : FunD K "cast_of" "cast_of" (defArgs s_cast_of) (defBody s_cast_of) (defScope s_cast_of) [] [] (a_cast_of K) (fdOf K (a_cast_of K)) := T.says.def_ 8 rfl
theorem Tx.b_cast_of (T : Tx w K mg) : Binds K (fdOf K (a_cast_of K)) ["calendar", "page"] [] := (T.d_cast_of).bindsN fun _ _ _ _ _ _ us hl => match us, hl with | [_, _], _ => by kernel_rfl
theorem Tx.d_size_of (T : Tx w K mg) : FunD K "size_of" "size_of" (defArgs s_size_of) (defBody s_size_of) (defScope s_size_of) [] [] (a_size_of K) (fdOf K (a_size_of K)) := T.says.def_ 9 rfl
theorem Tx.b_size_of (T : Tx w K mg) : Binds K (fdOf K (a_size_of K)) ["page"] [] := (T.d_size_of).bindsN fun _ _ _ _ _ _ us hl => match us, hl with | [_], _ => by kernel_rfl
theorem Tx.d_check_entries (T : Tx w K mg) : FunD K "check_entries" "check_entries" (defArgs s_check_entries) (defBody s_check_entries) (defScope s_check_entries) [] [] (a_check_entries K) (fdOf K (a_check_entries K)) := T.says.def_ 10 rfl
theorem Tx.b_check_entries (T : Tx w K mg) : Binds K (fdOf K (a_check_entries K)) ["held"] [] := (T.d_check_entries).bindsN fun _ _ _ _ _ _ us hl => match us, hl with | [_], _ => by kernel_rfl
theorem Tx.d_is_rising (T : Tx w K mg) : FunD K "is_rising" "is_rising" (defArgs s_is_rising) (defBody s_is_rising) (defScope s_is_rising) [] [] (a_is_rising K) (fdOf K (a_is_rising K)) := T.says.def_ 11 rfl
theorem Tx.b_is_rising (T : Tx w K mg) : Binds K (fdOf K (a_is_rising K)) ["word"] [] := (T.d_is_rising).bindsN fun _ _ _ _ _ _ us hl => match us, hl with | [_], _ => by kernel_rfl
theorem Tx.d_is_number (T : Tx w K mg) : FunD K "is_number" "is_number" (defArgs s_is_number) (defBody s_is_number) (defScope s_is_number) [] [] (a_is_number K) (fdOf K (a_is_number K)) := T.says.def_ 12 rfl
theorem Tx.b_is_number (T : Tx w K mg) : Binds K (fdOf K (a_is_number K)) ["word"] [] := (T.d_is_number).bindsN fun _ _ _ _ _ _ us hl => match us, hl with | [_], _ => by kernel_rfl
theorem Tx.d_page_of_word (T : Tx w K mg) : FunD K "page_of_word" "page_of_word" (defArgs s_page_of_word) (defBody s_page_of_word) (defScope s_page_of_word) [] [] (a_page_of_word K) (fdOf K (a_page_of_word K)) := T.says.def_ 13 rfl
theorem Tx.b_page_of_word (T : Tx w K mg) : Binds K (fdOf K (a_page_of_word K)) ["word"] [] := (T.d_page_of_word).bindsN fun _ _ _ _ _ _ us hl => match us, hl with | [_], _ => by kernel_rfl
theorem Tx.d_word_of_page (T : Tx w K mg) : FunD K "word_of_page" "word_of_page" (defArgs s_word_of_page) (defBody s_word_of_page) (defScope s_word_of_page) [] [] (a_word_of_page K) (fdOf K (a_word_of_page K)) := T.says.def_ 14 rfl
theorem Tx.b_word_of_page (T : Tx w K mg) : Binds K (fdOf K (a_word_of_page K)) ["page"] [] := (T.d_word_of_page).bindsN fun _ _ _ _ _ _ us hl => match us, hl with | [_], _ => by kernel_rfl
theorem Tx.d_deed_of (T : Tx w K mg) : FunD K "deed_of" "deed_of" (defArgs s_deed_of) (defBody s_deed_of) (defScope s_deed_of) [] [] (a_deed_of K) (fdOf K (a_deed_of K)) := T.says.def_ 15 rfl
theorem Tx.b_deed_of (T : Tx w K mg) : Binds K (fdOf K (a_deed_of K)) ["line"] [] := (T.d_deed_of).bindsN fun _ _ _ _ _ _ us hl => match us, hl with | [_], _ => by kernel_rfl
theorem Tx.d_carry_out (T : Tx w K mg) : FunD K "carry_out" "carry_out" (defArgs s_carry_out) (defBody s_carry_out) (defScope s_carry_out) [] [] (a_carry_out K) (fdOf K (a_carry_out K)) := T.says.def_ 16 rfl
theorem Tx.b_carry_out (T : Tx w K mg) : Binds K (fdOf K (a_carry_out K)) ["desk", "deed"] [] := (T.d_carry_out).bindsN fun _ _ _ _ _ _ us hl => match us, hl with | [_, _], _ => by kernel_rfl
theorem Tx.d_enter (T : Tx w K mg) : FunD K "enter" "enter" (defArgs s_enter) (defBody s_enter) (defScope s_enter) [] [] (a_enter K) (fdOf K (a_enter K)) := T.says.def_ 17 rfl
theorem Tx.b_enter (T : Tx w K mg) : Binds K (fdOf K (a_enter K)) ["desk", "lines"] [] := (T.d_enter).bindsN fun _ _ _ _ _ _ us hl => match us, hl with | [_, _], _ => by kernel_rfl
theorem Tx.d_write_desk (T : Tx w K mg) : FunD K "write_desk" "write_desk" (defArgs s_write_desk) (defBody s_write_desk) (defScope s_write_desk) [] [] (a_write_desk K) (fdOf K (a_write_desk K)) := T.says.def_ 18 rfl
theorem Tx.b_write_desk (T : Tx w K mg) : Binds K (fdOf K (a_write_desk K)) ["desk"] [] := (T.d_write_desk).bindsN fun _ _ _ _ _ _ us hl => match us, hl with | [_], _ => by kernel_rfl
theorem Tx.d_law_begin (T : Tx w K mg) : FunD K "_law_begin" "_law_begin" (defArgs s_law_begin) (defBody s_law_begin) (defScope s_law_begin) [] [] (a_law_begin K) (fdOf K (a_law_begin K)) := T.says.def_ 19 rfl
theorem Tx.b_law_begin (T : Tx w K mg) : Binds K (fdOf K (a_law_begin K)) ["_law_script"] [] := (T.d_law_begin).bindsN fun _ _ _ _ _ _ us hl => match us, hl with | [_], _ => by kernel_rfl
theorem Tx.d_law_draw (T : Tx w K mg) : FunD K "_law_draw" "_law_draw" (defArgs s_law_draw) (defBody s_law_draw) (defScope s_law_draw) [] [] (a_law_draw K) (fdOf K (a_law_draw K)) := T.says.def_ 20 rfl
theorem Tx.b_law_draw (T : Tx w K mg) : Binds K (fdOf K (a_law_draw K)) ["_law_state", "_law_limit"] [] := (T.d_law_draw).bindsN fun _ _ _ _ _ _ us hl => match us, hl with | [_, _], _ => by kernel_rfl
theorem Tx.d_law_counts (T : Tx w K mg) : FunD K "_law_counts" "_law_counts" (defArgs s_law_counts) (defBody s_law_counts) (defScope s_law_counts) [] [] (a_law_counts K) (fdOf K (a_law_counts K)) := T.says.def_ 21 rfl
theorem Tx.b_law_counts (T : Tx w K mg) : Binds K (fdOf K (a_law_counts K)) ["_law_places", "_law_sets", "_law_begin_here", "_law_length"] [] := (T.d_law_counts).bindsN fun _ _ _ _ _ _ us hl => match us, hl with | [_, _, _, _], _ => by kernel_rfl
theorem Tx.d_law_heights (T : Tx w K mg) : FunD K "_law_heights" "_law_heights" (defArgs s_law_heights) (defBody s_law_heights) (defScope s_law_heights) [] [] (a_law_heights K) (fdOf K (a_law_heights K)) := T.says.def_ 22 rfl
theorem Tx.b_law_heights (T : Tx w K mg) : Binds K (fdOf K (a_law_heights K)) ["_law_places", "_law_sets"] [] := (T.d_law_heights).bindsN fun _ _ _ _ _ _ us hl => match us, hl with | [_, _], _ => by kernel_rfl
theorem Tx.d_law_stands (T : Tx w K mg) : FunD K "_law_stands" "_law_stands" (defArgs s_law_stands) (defBody s_law_stands) (defScope s_law_stands) [] [] (a_law_stands K) (fdOf K (a_law_stands K)) := T.says.def_ 23 rfl
theorem Tx.b_law_stands (T : Tx w K mg) : Binds K (fdOf K (a_law_stands K)) ["_law_state", "_law_places", "_law_many"] [] := (T.d_law_stands).bindsN fun _ _ _ _ _ _ us hl => match us, hl with | [_, _, _], _ => by kernel_rfl
theorem Tx.d_law_words (T : Tx w K mg) : FunD K "_law_words" "_law_words" (defArgs s_law_words) (defBody s_law_words) (defScope s_law_words) [] [] (a_law_words K) (fdOf K (a_law_words K)) := T.says.def_ 24 rfl
theorem Tx.b_law_words (T : Tx w K mg) : Binds K (fdOf K (a_law_words K)) ["_law_places", "_law_letters", "_law_sets"] [] := (T.d_law_words).bindsN fun _ _ _ _ _ _ us hl => match us, hl with | [_, _, _], _ => by kernel_rfl
theorem Tx.d_law_text (T : Tx w K mg) : FunD K "_law_text" "_law_text" (defArgs s_law_text) (defBody s_law_text) (defScope s_law_text) [] [] (a_law_text K) (fdOf K (a_law_text K)) := T.says.def_ 25 rfl
theorem Tx.b_law_text (T : Tx w K mg) : Binds K (fdOf K (a_law_text K)) ["_law_state", "_law_turn", "_law_letters"] [] := (T.d_law_text).bindsN fun _ _ _ _ _ _ us hl => match us, hl with | [_, _, _], _ => by kernel_rfl
theorem Tx.d_law_step (T : Tx w K mg) : FunD K "_law_step" "_law_step" (defArgs s_law_step) (defBody s_law_step) (defScope s_law_step) [] [] (a_law_step K) (fdOf K (a_law_step K)) := T.says.def_ 26 rfl
theorem Tx.b_law_step (T : Tx w K mg) : Binds K (fdOf K (a_law_step K)) ["_law_state", "_law_turn", "_law_rows", "_law_letters"] [] := (T.d_law_step).bindsN fun _ _ _ _ _ _ us hl => match us, hl with | [_, _, _, _], _ => by kernel_rfl
theorem Tx.d_law_line (T : Tx w K mg) : FunD K "_law_line" "_law_line" (defArgs s_law_line) (defBody s_law_line) (defScope s_law_line) [] [] (a_law_line K) (fdOf K (a_law_line K)) := T.says.def_ 27 rfl
theorem Tx.b_law_line (T : Tx w K mg) : Binds K (fdOf K (a_law_line K)) ["_law_step_here"] [] := (T.d_law_line).bindsN fun _ _ _ _ _ _ us hl => match us, hl with | [_], _ => by kernel_rfl
theorem Tx.d_law_page_taken (T : Tx w K mg) : FunD K "_law_page_taken" "_law_page_taken" (defArgs s_law_page_taken) (defBody s_law_page_taken) (defScope s_law_page_taken) [] [] (a_law_page_taken K) (fdOf K (a_law_page_taken K)) := T.says.def_ 28 rfl
theorem Tx.b_law_page_taken (T : Tx w K mg) : Binds K (fdOf K (a_law_page_taken K)) ["_law_page", "_law_letters"] [] := (T.d_law_page_taken).bindsN fun _ _ _ _ _ _ us hl => match us, hl with | [_, _], _ => by kernel_rfl
theorem Tx.d_law_changed (T : Tx w K mg) : FunD K "_law_changed" "_law_changed" (defArgs s_law_changed) (defBody s_law_changed) (defScope s_law_changed) [] [] (a_law_changed K) (fdOf K (a_law_changed K)) := T.says.def_ 29 rfl
theorem Tx.b_law_changed (T : Tx w K mg) : Binds K (fdOf K (a_law_changed K)) ["_law_rows", "_law_step_here", "_law_limit", "_law_letters"] [] := (T.d_law_changed).bindsN fun _ _ _ _ _ _ us hl => match us, hl with | [_, _, _, _], _ => by kernel_rfl
theorem Tx.d_law_first_lost (T : Tx w K mg) : FunD K "_law_first_lost" "_law_first_lost" (defArgs s_law_first_lost) (defBody s_law_first_lost) (defScope s_law_first_lost) [] [] (a_law_first_lost K) (fdOf K (a_law_first_lost K)) := T.says.def_ 30 rfl
theorem Tx.b_law_first_lost (T : Tx w K mg) : Binds K (fdOf K (a_law_first_lost K)) ["_law_rows"] [] := (T.d_law_first_lost).bindsN fun _ _ _ _ _ _ us hl => match us, hl with | [_], _ => by kernel_rfl
theorem Tx.d_law_cast (T : Tx w K mg) : FunD K "_law_cast" "_law_cast" (defArgs s_law_cast) (defBody s_law_cast) (defScope s_law_cast) [] [] (a_law_cast K) (fdOf K (a_law_cast K)) := T.says.def_ 31 rfl
theorem Tx.b_law_cast (T : Tx w K mg) : Binds K (fdOf K (a_law_cast K)) ["_law_account", "_law_places", "_law_letters", "_law_sets"] [] := (T.d_law_cast).bindsN fun _ _ _ _ _ _ us hl => match us, hl with | [_, _, _, _], _ => by kernel_rfl
theorem Tx.d_law_next (T : Tx w K mg) : FunD K "_law_next" "_law_next" (defArgs s_law_next) (defBody s_law_next) (defScope s_law_next) [] [] (a_law_next K) (fdOf K (a_law_next K)) := T.says.def_ 32 rfl
theorem Tx.b_law_next (T : Tx w K mg) : Binds K (fdOf K (a_law_next K)) ["_law_account", "_law_step_here", "_law_places", "_law_letters", "_law_sets"] [] := (T.d_law_next).bindsN fun _ _ _ _ _ _ us hl => match us, hl with | [_, _, _, _, _], _ => by kernel_rfl
theorem Tx.d_law_told (T : Tx w K mg) : FunD K "_law_told" "_law_told" (defArgs s_law_told) (defBody s_law_told) (defScope s_law_told) [] [] (a_law_told K) (fdOf K (a_law_told K)) := T.says.def_ 33 rfl
theorem Tx.b_law_told (T : Tx w K mg) : Binds K (fdOf K (a_law_told K)) ["_law_desk", "_law_step_here"] [] := (T.d_law_told).bindsN fun _ _ _ _ _ _ us hl => match us, hl with | [_, _], _ => by kernel_rfl
theorem Tx.d_law_entered (T : Tx w K mg) : FunD K "_law_entered" "_law_entered" (defArgs s_law_entered) (defBody s_law_entered) (defScope s_law_entered) [] [] (a_law_entered K) (fdOf K (a_law_entered K)) := T.says.def_ 34 rfl
theorem Tx.b_law_entered (T : Tx w K mg) : Binds K (fdOf K (a_law_entered K)) ["_law_desk", "_law_lines"] [] := (T.d_law_entered).bindsN fun _ _ _ _ _ _ us hl => match us, hl with | [_, _], _ => by kernel_rfl
theorem Tx.d_law_undone (T : Tx w K mg) : FunD K "_law_undone" "_law_undone" (defArgs s_law_undone) (defBody s_law_undone) (defScope s_law_undone) [] [] (a_law_undone K) (fdOf K (a_law_undone K)) := T.says.def_ 35 rfl
theorem Tx.b_law_undone (T : Tx w K mg) : Binds K (fdOf K (a_law_undone K)) ["_law_desk"] [] := (T.d_law_undone).bindsN fun _ _ _ _ _ _ us hl => match us, hl with | [_], _ => by kernel_rfl
theorem Tx.d_law_cast_told (T : Tx w K mg) : FunD K "_law_cast_told" "_law_cast_told" (defArgs s_law_cast_told) (defBody s_law_cast_told) (defScope s_law_cast_told) [] [] (a_law_cast_told K) (fdOf K (a_law_cast_told K)) := T.says.def_ 36 rfl
theorem Tx.b_law_cast_told (T : Tx w K mg) : Binds K (fdOf K (a_law_cast_told K)) ["_law_desk", "_law_lost", "_law_heights_here"] [] := (T.d_law_cast_told).bindsN fun _ _ _ _ _ _ us hl => match us, hl with | [_, _, _], _ => by kernel_rfl
theorem Tx.d_law_asked (T : Tx w K mg) : FunD K "_law_asked" "_law_asked" (defArgs s_law_asked) (defBody s_law_asked) (defScope s_law_asked) [] [] (a_law_asked K) (fdOf K (a_law_asked K)) := T.says.def_ 37 rfl
theorem Tx.b_law_asked (T : Tx w K mg) : Binds K (fdOf K (a_law_asked K)) ["_law_desk", "_law_account", "_law_places", "_law_letters", "_law_sets"] [] := (T.d_law_asked).bindsN fun _ _ _ _ _ _ us hl => match us, hl with | [_, _, _, _, _], _ => by kernel_rfl
theorem Tx.d_law_due_text (T : Tx w K mg) : FunD K "_law_due_text" "_law_due_text" (defArgs s_law_due_text) (defBody s_law_due_text) (defScope s_law_due_text) [] [] (a_law_due_text K) (fdOf K (a_law_due_text K)) := T.says.def_ 38 rfl
theorem Tx.b_law_due_text (T : Tx w K mg) : Binds K (fdOf K (a_law_due_text K)) ["_law_account", "_law_words_here"] [] := (T.d_law_due_text).bindsN fun _ _ _ _ _ _ us hl => match us, hl with | [_, _], _ => by kernel_rfl
theorem Tx.d_law_stands_so (T : Tx w K mg) : FunD K "_law_stands_so" "_law_stands_so" (defArgs s_law_stands_so) (defBody s_law_stands_so) (defScope s_law_stands_so) [] [] (a_law_stands_so K) (fdOf K (a_law_stands_so K)) := T.says.def_ 39 rfl
theorem Tx.b_law_stands_so (T : Tx w K mg) : Binds K (fdOf K (a_law_stands_so K)) ["_law_desk", "_law_account", "_law_words_here"] [] := (T.d_law_stands_so).bindsN fun _ _ _ _ _ _ us hl => match us, hl with | [_, _, _], _ => by kernel_rfl
theorem Tx.d_law_all_back (T : Tx w K mg) : FunD K "_law_all_back" "_law_all_back" (defArgs s_law_all_back) (defBody s_law_all_back) (defScope s_law_all_back) [] [] (a_law_all_back K) (fdOf K (a_law_all_back K)) := T.says.def_ 40 rfl
theorem Tx.b_law_all_back (T : Tx w K mg) : Binds K (fdOf K (a_law_all_back K)) ["_law_desk", "_law_past", "_law_words_here"] [] := (T.d_law_all_back).bindsN fun _ _ _ _ _ _ us hl => match us, hl with | [_, _, _], _ => by kernel_rfl
theorem Tx.d_law_enter_turn (T : Tx w K mg) : FunD K "_law_enter_turn" "_law_enter_turn" (defArgs s_law_enter_turn) (defBody s_law_enter_turn) (defScope s_law_enter_turn) [] [] (a_law_enter_turn K) (fdOf K (a_law_enter_turn K)) := T.says.def_ 41 rfl
theorem Tx.b_law_enter_turn (T : Tx w K mg) : Binds K (fdOf K (a_law_enter_turn K)) ["_law_desk", "_law_account", "_law_state", "_law_turn", "_law_world"] [] := (T.d_law_enter_turn).bindsN fun _ _ _ _ _ _ us hl => match us, hl with | [_, _, _, _, _], _ => by kernel_rfl
theorem Tx.d_law_step_turn (T : Tx w K mg) : FunD K "_law_step_turn" "_law_step_turn" (defArgs s_law_step_turn) (defBody s_law_step_turn) (defScope s_law_step_turn) [] [] (a_law_step_turn K) (fdOf K (a_law_step_turn K)) := T.says.def_ 42 rfl
theorem Tx.b_law_step_turn (T : Tx w K mg) : Binds K (fdOf K (a_law_step_turn K)) ["_law_desk", "_law_account", "_law_state", "_law_turn", "_law_world"] [] := (T.d_law_step_turn).bindsN fun _ _ _ _ _ _ us hl => match us, hl with | [_, _, _, _, _], _ => by kernel_rfl
theorem Tx.d_law (T : Tx w K mg) : FunD K "law" "law" (defArgs s_law) (defBody s_law) (defScope s_law) [] [] (a_law K) (fdOf K (a_law K)) := T.says.def_ 43 rfl
theorem Tx.b_law (T : Tx w K mg) : Binds K (fdOf K (a_law K)) ["_law_script"] [] := (T.d_law).bindsN fun _ _ _ _ _ _ us hl => match us, hl with | [_], _ => by kernel_rfl
theorem Tx.d_Cast_init (T : Tx w K mg) : FunD K "__init__" "Cast.__init__" (defArgs s_Cast_init) (defBody s_Cast_init) (defScope s_Cast_init) [] [] (a_Cast_init K) (fdOf K (a_Cast_init K)) := T.says.def_ 44 rfl
theorem Tx.b_Cast_init (T : Tx w K mg) : Binds K (fdOf K (a_Cast_init K)) ["self", "heights"] [] := (T.d_Cast_init).bindsN fun _ _ _ _ _ _ us hl => match us, hl with | [_, _], _ => by kernel_rfl
theorem Tx.d_Cast_text (T : Tx w K mg) : FunD K "text" "Cast.text" (defArgs s_Cast_text) (defBody s_Cast_text) (defScope s_Cast_text) [] [] (a_Cast_text K) (fdOf K (a_Cast_text K)) := T.says.def_ 45 rfl
theorem Tx.b_Cast_text (T : Tx w K mg) : Binds K (fdOf K (a_Cast_text K)) ["self"] [] := (T.d_Cast_text).bindsN fun _ _ _ _ _ _ us hl => match us, hl with | [_], _ => by kernel_rfl
theorem Tx.d_Cast_heights (T : Tx w K mg) : FunD K "heights" "Cast.heights" (defArgs s_Cast_heights) (defBody s_Cast_heights) (defScope s_Cast_heights) [] [] (a_Cast_heights K) (fdOf K (a_Cast_heights K)) := T.says.def_ 46 rfl
theorem Tx.b_Cast_heights (T : Tx w K mg) : Binds K (fdOf K (a_Cast_heights K)) ["self"] [] := (T.d_Cast_heights).bindsN fun _ _ _ _ _ _ us hl => match us, hl with | [_], _ => by kernel_rfl
theorem Tx.d_State_init (T : Tx w K mg) : FunD K "__init__" "State.__init__" (defArgs s_State_init) (defBody s_State_init) (defScope s_State_init) [] [] (a_State_init K) (fdOf K (a_State_init K)) := T.says.def_ 47 rfl
theorem Tx.b_State_init (T : Tx w K mg) : Binds K (fdOf K (a_State_init K)) ["self", "pages", "shown", "kept_card", "kept_bound"] [] := (T.d_State_init).bindsN fun _ _ _ _ _ _ us hl => match us, hl with | [_, _, _, _, _], _ => by kernel_rfl
theorem Tx.d_Desk_init (T : Tx w K mg) : FunD K "__init__" "Desk.__init__" (defArgs s_Desk_init) (defBody s_Desk_init) (defScope s_Desk_init) [] [("bound", V.int 8)] (a_Desk_init K) (fdOf K (a_Desk_init K)) := T.says.def_ 48 rfl
theorem Tx.d_Desk_step (T : Tx w K mg) : FunD K "_step" "Desk._step" (defArgs s_Desk_step) (defBody s_Desk_step) (defScope s_Desk_step) [] [] (a_Desk_step K) (fdOf K (a_Desk_step K)) := T.says.def_ 49 rfl
theorem Tx.b_Desk_step (T : Tx w K mg) : Binds K (fdOf K (a_Desk_step K)) ["self", "held", "card", "bound"] [] := (T.d_Desk_step).bindsN fun _ _ _ _ _ _ us hl => match us, hl with | [_, _, _, _], _ => by kernel_rfl
theorem Tx.d_Desk_hold (T : Tx w K mg) : FunD K "_hold" "Desk._hold" (defArgs s_Desk_hold) (defBody s_Desk_hold) (defScope s_Desk_hold) [] [] (a_Desk_hold K) (fdOf K (a_Desk_hold K)) := T.says.def_ 50 rfl
theorem Tx.b_Desk_hold (T : Tx w K mg) : Binds K (fdOf K (a_Desk_hold K)) ["self", "held"] [] := (T.d_Desk_hold).bindsN fun _ _ _ _ _ _ us hl => match us, hl with | [_, _], _ => by kernel_rfl
theorem Tx.d_Desk_put_at (T : Tx w K mg) : FunD K "_put_at" "Desk._put_at" (defArgs s_Desk_put_at) (defBody s_Desk_put_at) (defScope s_Desk_put_at) [] [] (a_Desk_put_at K) (fdOf K (a_Desk_put_at K)) := T.says.def_ 51 rfl
theorem Tx.b_Desk_put_at (T : Tx w K mg) : Binds K (fdOf K (a_Desk_put_at K)) ["self", "number", "page"] [] := (T.d_Desk_put_at).bindsN fun _ _ _ _ _ _ us hl => match us, hl with | [_, _, _], _ => by kernel_rfl
theorem Tx.d_Desk_change (T : Tx w K mg) : FunD K "_change" "Desk._change" (defArgs s_Desk_change) (defBody s_Desk_change) (defScope s_Desk_change) [] [] (a_Desk_change K) (fdOf K (a_Desk_change K)) := T.says.def_ 52 rfl
theorem Tx.b_Desk_change (T : Tx w K mg) : Binds K (fdOf K (a_Desk_change K)) ["self", "number", "page"] [] := (T.d_Desk_change).bindsN fun _ _ _ _ _ _ us hl => match us, hl with | [_, _, _], _ => by kernel_rfl
theorem Tx.d_Desk_page_at (T : Tx w K mg) : FunD K "_page_at" "Desk._page_at" (defArgs s_Desk_page_at) (defBody s_Desk_page_at) (defScope s_Desk_page_at) [] [] (a_Desk_page_at K) (fdOf K (a_Desk_page_at K)) := T.says.def_ 53 rfl
theorem Tx.b_Desk_page_at (T : Tx w K mg) : Binds K (fdOf K (a_Desk_page_at K)) ["self", "number"] [] := (T.d_Desk_page_at).bindsN fun _ _ _ _ _ _ us hl => match us, hl with | [_, _], _ => by kernel_rfl
theorem Tx.d_Desk_check_known (T : Tx w K mg) : FunD K "_check_known" "Desk._check_known" (defArgs s_Desk_check_known) (defBody s_Desk_check_known) (defScope s_Desk_check_known) [] [] (a_Desk_check_known K) (fdOf K (a_Desk_check_known K)) := T.says.def_ 54 rfl
theorem Tx.b_Desk_check_known (T : Tx w K mg) : Binds K (fdOf K (a_Desk_check_known K)) ["self"] [] := (T.d_Desk_check_known).bindsN fun _ _ _ _ _ _ us hl => match us, hl with | [_], _ => by kernel_rfl
theorem Tx.d_Desk_put (T : Tx w K mg) : FunD K "put" "Desk.put" (defArgs s_Desk_put) (defBody s_Desk_put) (defScope s_Desk_put) [] [] (a_Desk_put K) (fdOf K (a_Desk_put K)) := T.says.def_ 55 rfl
theorem Tx.b_Desk_put (T : Tx w K mg) : Binds K (fdOf K (a_Desk_put K)) ["self", "page"] [] := (T.d_Desk_put).bindsN fun _ _ _ _ _ _ us hl => match us, hl with | [_, _], _ => by kernel_rfl
theorem Tx.d_Desk_insert (T : Tx w K mg) : FunD K "insert" "Desk.insert" (defArgs s_Desk_insert) (defBody s_Desk_insert) (defScope s_Desk_insert) [] [] (a_Desk_insert K) (fdOf K (a_Desk_insert K)) := T.says.def_ 56 rfl
theorem Tx.b_Desk_insert (T : Tx w K mg) : Binds K (fdOf K (a_Desk_insert K)) ["self", "number", "page"] [] := (T.d_Desk_insert).bindsN fun _ _ _ _ _ _ us hl => match us, hl with | [_, _, _], _ => by kernel_rfl
theorem Tx.d_Desk_setitem (T : Tx w K mg) : FunD K "__setitem__" "Desk.__setitem__" (defArgs s_Desk_setitem) (defBody s_Desk_setitem) (defScope s_Desk_setitem) [] [] (a_Desk_setitem K) (fdOf K (a_Desk_setitem K)) := T.says.def_ 57 rfl
theorem Tx.b_Desk_setitem (T : Tx w K mg) : Binds K (fdOf K (a_Desk_setitem K)) ["self", "number", "page"] [] := (T.d_Desk_setitem).bindsN fun _ _ _ _ _ _ us hl => match us, hl with | [_, _, _], _ => by kernel_rfl
theorem Tx.d_Desk_take (T : Tx w K mg) : FunD K "take" "Desk.take" (defArgs s_Desk_take) (defBody s_Desk_take) (defScope s_Desk_take) [] [] (a_Desk_take K) (fdOf K (a_Desk_take K)) := T.says.def_ 58 rfl
theorem Tx.b_Desk_take (T : Tx w K mg) : Binds K (fdOf K (a_Desk_take K)) ["self", "number"] [] := (T.d_Desk_take).bindsN fun _ _ _ _ _ _ us hl => match us, hl with | [_, _], _ => by kernel_rfl
theorem Tx.d_Desk_lose (T : Tx w K mg) : FunD K "lose" "Desk.lose" (defArgs s_Desk_lose) (defBody s_Desk_lose) (defScope s_Desk_lose) [] [] (a_Desk_lose K) (fdOf K (a_Desk_lose K)) := T.says.def_ 59 rfl
theorem Tx.b_Desk_lose (T : Tx w K mg) : Binds K (fdOf K (a_Desk_lose K)) ["self", "number"] [] := (T.d_Desk_lose).bindsN fun _ _ _ _ _ _ us hl => match us, hl with | [_, _], _ => by kernel_rfl
theorem Tx.d_Desk_find (T : Tx w K mg) : FunD K "find" "Desk.find" (defArgs s_Desk_find) (defBody s_Desk_find) (defScope s_Desk_find) [] [] (a_Desk_find K) (fdOf K (a_Desk_find K)) := T.says.def_ 60 rfl
theorem Tx.b_Desk_find (T : Tx w K mg) : Binds K (fdOf K (a_Desk_find K)) ["self", "number", "page"] [] := (T.d_Desk_find).bindsN fun _ _ _ _ _ _ us hl => match us, hl with | [_, _, _], _ => by kernel_rfl
theorem Tx.d_Desk_lay (T : Tx w K mg) : FunD K "lay" "Desk.lay" (defArgs s_Desk_lay) (defBody s_Desk_lay) (defScope s_Desk_lay) [] [] (a_Desk_lay K) (fdOf K (a_Desk_lay K)) := T.says.def_ 61 rfl
theorem Tx.b_Desk_lay (T : Tx w K mg) : Binds K (fdOf K (a_Desk_lay K)) ["self", "card"] [] := (T.d_Desk_lay).bindsN fun _ _ _ _ _ _ us hl => match us, hl with | [_, _], _ => by kernel_rfl
theorem Tx.d_Desk_mark (T : Tx w K mg) : FunD K "mark" "Desk.mark" (defArgs s_Desk_mark) (defBody s_Desk_mark) (defScope s_Desk_mark) [] [] (a_Desk_mark K) (fdOf K (a_Desk_mark K)) := T.says.def_ 62 rfl
theorem Tx.b_Desk_mark (T : Tx w K mg) : Binds K (fdOf K (a_Desk_mark K)) ["self"] [] := (T.d_Desk_mark).bindsN fun _ _ _ _ _ _ us hl => match us, hl with | [_], _ => by kernel_rfl
theorem Tx.d_Desk_tear (T : Tx w K mg) : FunD K "tear" "Desk.tear" (defArgs s_Desk_tear) (defBody s_Desk_tear) (defScope s_Desk_tear) [] [] (a_Desk_tear K) (fdOf K (a_Desk_tear K)) := T.says.def_ 63 rfl
theorem Tx.b_Desk_tear (T : Tx w K mg) : Binds K (fdOf K (a_Desk_tear K)) ["self"] [] := (T.d_Desk_tear).bindsN fun _ _ _ _ _ _ us hl => match us, hl with | [_], _ => by kernel_rfl
theorem Tx.d_Desk_change_bound (T : Tx w K mg) : FunD K "change_bound" "Desk.change_bound" (defArgs s_Desk_change_bound) (defBody s_Desk_change_bound) (defScope s_Desk_change_bound) [] [] (a_Desk_change_bound K) (fdOf K (a_Desk_change_bound K)) := T.says.def_ 64 rfl
theorem Tx.b_Desk_change_bound (T : Tx w K mg) : Binds K (fdOf K (a_Desk_change_bound K)) ["self", "number"] [] := (T.d_Desk_change_bound).bindsN fun _ _ _ _ _ _ us hl => match us, hl with | [_, _], _ => by kernel_rfl
theorem Tx.d_Desk_undo (T : Tx w K mg) : FunD K "undo" "Desk.undo" (defArgs s_Desk_undo) (defBody s_Desk_undo) (defScope s_Desk_undo) [] [] (a_Desk_undo K) (fdOf K (a_Desk_undo K)) := T.says.def_ 65 rfl
theorem Tx.b_Desk_undo (T : Tx w K mg) : Binds K (fdOf K (a_Desk_undo K)) ["self"] [] := (T.d_Desk_undo).bindsN fun _ _ _ _ _ _ us hl => match us, hl with | [_], _ => by kernel_rfl
theorem Tx.d_Desk_card (T : Tx w K mg) : FunD K "card" "Desk.card" (defArgs s_Desk_card) (defBody s_Desk_card) (defScope s_Desk_card) [] [] (a_Desk_card K) (fdOf K (a_Desk_card K)) := T.says.def_ 66 rfl
theorem Tx.b_Desk_card (T : Tx w K mg) : Binds K (fdOf K (a_Desk_card K)) ["self"] [] := (T.d_Desk_card).bindsN fun _ _ _ _ _ _ us hl => match us, hl with | [_], _ => by kernel_rfl
theorem Tx.d_Desk_bound (T : Tx w K mg) : FunD K "bound" "Desk.bound" (defArgs s_Desk_bound) (defBody s_Desk_bound) (defScope s_Desk_bound) [] [] (a_Desk_bound K) (fdOf K (a_Desk_bound K)) := T.says.def_ 67 rfl
theorem Tx.b_Desk_bound (T : Tx w K mg) : Binds K (fdOf K (a_Desk_bound K)) ["self"] [] := (T.d_Desk_bound).bindsN fun _ _ _ _ _ _ us hl => match us, hl with | [_], _ => by kernel_rfl
theorem Tx.d_Desk_iter (T : Tx w K mg) : FunD K "__iter__" "Desk.__iter__" (defArgs s_Desk_iter) (defBody s_Desk_iter) (defScope s_Desk_iter) [] [] (a_Desk_iter K) (fdOf K (a_Desk_iter K)) := T.says.def_ 68 rfl
theorem Tx.b_Desk_iter (T : Tx w K mg) : Binds K (fdOf K (a_Desk_iter K)) ["self"] [] := (T.d_Desk_iter).bindsN fun _ _ _ _ _ _ us hl => match us, hl with | [_], _ => by kernel_rfl
theorem Tx.d_Desk_entries (T : Tx w K mg) : FunD K "entries" "Desk.entries" (defArgs s_Desk_entries) (defBody s_Desk_entries) (defScope s_Desk_entries) [] [] (a_Desk_entries K) (fdOf K (a_Desk_entries K)) := T.says.def_ 69 rfl
theorem Tx.b_Desk_entries (T : Tx w K mg) : Binds K (fdOf K (a_Desk_entries K)) ["self", "number"] [] := (T.d_Desk_entries).bindsN fun _ _ _ _ _ _ us hl => match us, hl with | [_, _], _ => by kernel_rfl
theorem Tx.d_Desk_cast (T : Tx w K mg) : FunD K "cast" "Desk.cast" (defArgs s_Desk_cast) (defBody s_Desk_cast) (defScope s_Desk_cast) [] [] (a_Desk_cast K) (fdOf K (a_Desk_cast K)) := T.says.def_ 70 rfl
theorem Tx.b_Desk_cast (T : Tx w K mg) : Binds K (fdOf K (a_Desk_cast K)) ["self"] [] := (T.d_Desk_cast).bindsN fun _ _ _ _ _ _ us hl => match us, hl with | [_], _ => by kernel_rfl
theorem Tx.d_Calendar_init (T : Tx w K mg) : FunD K "__init__" "Calendar.__init__" (defArgs s_Calendar_init) (defBody s_Calendar_init) (defScope s_Calendar_init) [] [] (a_Calendar_init K) (fdOf K (a_Calendar_init K)) := T.says.def_ 71 rfl
theorem Tx.b_Calendar_init (T : Tx w K mg) : Binds K (fdOf K (a_Calendar_init K)) ["self", "words"] [] := (T.d_Calendar_init).bindsN fun _ _ _ _ _ _ us hl => match us, hl with | [_, _], _ => by kernel_rfl
theorem Tx.d_Calendar_text (T : Tx w K mg) : FunD K "text" "Calendar.text" (defArgs s_Calendar_text) (defBody s_Calendar_text) (defScope s_Calendar_text) [] [] (a_Calendar_text K) (fdOf K (a_Calendar_text K)) := T.says.def_ 72 rfl
theorem Tx.b_Calendar_text (T : Tx w K mg) : Binds K (fdOf K (a_Calendar_text K)) ["self"] [] := (T.d_Calendar_text).bindsN fun _ _ _ _ _ _ us hl => match us, hl with | [_], _ => by kernel_rfl
theorem Tx.d_Calendar_places (T : Tx w K mg) : FunD K "places" "Calendar.places" (defArgs s_Calendar_places) (defBody s_Calendar_places) (defScope s_Calendar_places) [] [] (a_Calendar_places K) (fdOf K (a_Calendar_places K)) := T.says.def_ 73 rfl
theorem Tx.b_Calendar_places (T : Tx w K mg) : Binds K (fdOf K (a_Calendar_places K)) ["self"] [] := (T.d_Calendar_places).bindsN fun _ _ _ _ _ _ us hl => match us, hl with | [_], _ => by kernel_rfl
theorem Tx.d_Calendar_signs (T : Tx w K mg) : FunD K "signs" "Calendar.signs" (defArgs s_Calendar_signs) (defBody s_Calendar_signs) (defScope s_Calendar_signs) [] [] (a_Calendar_signs K) (fdOf K (a_Calendar_signs K)) := T.says.def_ 74 rfl
theorem Tx.b_Calendar_signs (T : Tx w K mg) : Binds K (fdOf K (a_Calendar_signs K)) ["self"] [] := (T.d_Calendar_signs).bindsN fun _ _ _ _ _ _ us hl => match us, hl with | [_], _ => by kernel_rfl
theorem Tx.d_Calendar_stands (T : Tx w K mg) : FunD K "stands" "Calendar.stands" (defArgs s_Calendar_stands) (defBody s_Calendar_stands) (defScope s_Calendar_stands) [] [] (a_Calendar_stands K) (fdOf K (a_Calendar_stands K)) := T.says.def_ 75 rfl
theorem Tx.b_Calendar_stands (T : Tx w K mg) : Binds K (fdOf K (a_Calendar_stands K)) ["self", "sign"] [] := (T.d_Calendar_stands).bindsN fun _ _ _ _ _ _ us hl => match us, hl with | [_, _], _ => by kernel_rfl
theorem Tx.d_Trial_init (T : Tx w K mg) : FunD K "__init__" "Trial.__init__" (defArgs s_Trial_init) (defBody s_Trial_init) (defScope s_Trial_init) [] [] (a_Trial_init K) (fdOf K (a_Trial_init K)) := T.says.def_ 76 rfl
theorem Tx.b_Trial_init (T : Tx w K mg) : Binds K (fdOf K (a_Trial_init K)) ["self", "desk"] [] := (T.d_Trial_init).bindsN fun _ _ _ _ _ _ us hl => match us, hl with | [_, _], _ => by kernel_rfl
theorem Tx.d_Trial_enter (T : Tx w K mg) : FunD K "__enter__" "Trial.__enter__" (defArgs s_Trial_enter) (defBody s_Trial_enter) (defScope s_Trial_enter) [] [] (a_Trial_enter K) (fdOf K (a_Trial_enter K)) := T.says.def_ 77 rfl
theorem Tx.b_Trial_enter (T : Tx w K mg) : Binds K (fdOf K (a_Trial_enter K)) ["self"] [] := (T.d_Trial_enter).bindsN fun _ _ _ _ _ _ us hl => match us, hl with | [_], _ => by kernel_rfl
theorem Tx.d_Trial_exit (T : Tx w K mg) : FunD K "__exit__" "Trial.__exit__" (defArgs s_Trial_exit) (defBody s_Trial_exit) (defScope s_Trial_exit) [] [] (a_Trial_exit K) (fdOf K (a_Trial_exit K)) := T.says.def_ 78 rfl
theorem Tx.b_Trial_exit (T : Tx w K mg) : Binds K (fdOf K (a_Trial_exit K)) ["self", "kind", "value", "trace"] [] := (T.d_Trial_exit).bindsN fun _ _ _ _ _ _ us hl => match us, hl with | [_, _, _, _], _ => by kernel_rfl
theorem Tx.d_BadSize_init (T : Tx w K mg) : FunD K "__init__" "BadSize.__init__" (defArgs s_BadSize_init) (defBody s_BadSize_init) (defScope s_BadSize_init) [] [] (a_BadSize_init K) (fdOf K (a_BadSize_init K)) := T.says.def_ 79 rfl
theorem Tx.b_BadSize_init (T : Tx w K mg) : Binds K (fdOf K (a_BadSize_init K)) ["self", "size"] [] := (T.d_BadSize_init).bindsN fun _ _ _ _ _ _ us hl => match us, hl with | [_, _], _ => by kernel_rfl
theorem Tx.d_TooManyBalls_init (T : Tx w K mg) : FunD K "__init__" "TooManyBalls.__init__" (defArgs s_TooManyBalls_init) (defBody s_TooManyBalls_init) (defScope s_TooManyBalls_init) [] [] (a_TooManyBalls_init K) (fdOf K (a_TooManyBalls_init K)) := T.says.def_ 80 rfl
theorem Tx.b_TooManyBalls_init (T : Tx w K mg) : Binds K (fdOf K (a_TooManyBalls_init K)) ["self", "amount"] [] := (T.d_TooManyBalls_init).bindsN fun _ _ _ _ _ _ us hl => match us, hl with | [_, _], _ => by kernel_rfl
theorem Tx.d_BadText_init (T : Tx w K mg) : FunD K "__init__" "BadText.__init__" (defArgs s_BadText_init) (defBody s_BadText_init) (defScope s_BadText_init) [] [] (a_BadText_init K) (fdOf K (a_BadText_init K)) := T.says.def_ 81 rfl
theorem Tx.b_BadText_init (T : Tx w K mg) : Binds K (fdOf K (a_BadText_init K)) ["self", "index"] [] := (T.d_BadText_init).bindsN fun _ _ _ _ _ _ us hl => match us, hl with | [_, _], _ => by kernel_rfl
theorem Tx.d_BadPage_init (T : Tx w K mg) : FunD K "__init__" "BadPage.__init__" (defArgs s_BadPage_init) (defBody s_BadPage_init) (defScope s_BadPage_init) [] [] (a_BadPage_init K) (fdOf K (a_BadPage_init K)) := T.says.def_ 82 rfl
theorem Tx.b_BadPage_init (T : Tx w K mg) : Binds K (fdOf K (a_BadPage_init K)) ["self", "index"] [] := (T.d_BadPage_init).bindsN fun _ _ _ _ _ _ us hl => match us, hl with | [_, _], _ => by kernel_rfl
theorem Tx.d_NoPage_init (T : Tx w K mg) : FunD K "__init__" "NoPage.__init__" (defArgs s_NoPage_init) (defBody s_NoPage_init) (defScope s_NoPage_init) [] [] (a_NoPage_init K) (fdOf K (a_NoPage_init K)) := T.says.def_ 83 rfl
theorem Tx.b_NoPage_init (T : Tx w K mg) : Binds K (fdOf K (a_NoPage_init K)) ["self", "number"] [] := (T.d_NoPage_init).bindsN fun _ _ _ _ _ _ us hl => match us, hl with | [_, _], _ => by kernel_rfl
theorem Tx.d_PageLost_init (T : Tx w K mg) : FunD K "__init__" "PageLost.__init__" (defArgs s_PageLost_init) (defBody s_PageLost_init) (defScope s_PageLost_init) [] [] (a_PageLost_init K) (fdOf K (a_PageLost_init K)) := T.says.def_ 84 rfl
theorem Tx.b_PageLost_init (T : Tx w K mg) : Binds K (fdOf K (a_PageLost_init K)) ["self", "number"] [] := (T.d_PageLost_init).bindsN fun _ _ _ _ _ _ us hl => match us, hl with | [_, _], _ => by kernel_rfl
theorem Tx.d_NotLost_init (T : Tx w K mg) : FunD K "__init__" "NotLost.__init__" (defArgs s_NotLost_init) (defBody s_NotLost_init) (defScope s_NotLost_init) [] [] (a_NotLost_init K) (fdOf K (a_NotLost_init K)) := T.says.def_ 85 rfl
theorem Tx.b_NotLost_init (T : Tx w K mg) : Binds K (fdOf K (a_NotLost_init K)) ["self", "number"] [] := (T.d_NotLost_init).bindsN fun _ _ _ _ _ _ us hl => match us, hl with | [_, _], _ => by kernel_rfl
theorem Tx.d_Full_init (T : Tx w K mg) : FunD K "__init__" "Full.__init__" (defArgs s_Full_init) (defBody s_Full_init) (defScope s_Full_init) [] [] (a_Full_init K) (fdOf K (a_Full_init K)) := T.says.def_ 86 rfl
theorem Tx.b_Full_init (T : Tx w K mg) : Binds K (fdOf K (a_Full_init K)) ["self", "size"] [] := (T.d_Full_init).bindsN fun _ _ _ _ _ _ us hl => match us, hl with | [_, _], _ => by kernel_rfl
theorem Tx.d_Refused_init (T : Tx w K mg) : FunD K "__init__" "Refused.__init__" (defArgs s_Refused_init) (defBody s_Refused_init) (defScope s_Refused_init) [] [] (a_Refused_init K) (fdOf K (a_Refused_init K)) := T.says.def_ 87 rfl
theorem Tx.b_Refused_init (T : Tx w K mg) : Binds K (fdOf K (a_Refused_init K)) ["self", "index"] [] := (T.d_Refused_init).bindsN fun _ _ _ _ _ _ us hl => match us, hl with | [_, _], _ => by kernel_rfl
end
end Dk
end
section
set_option linter.all false
set_option maxRecDepth 10000
set_option maxHeartbeats 2000000
/-! Plain mathematics: the came lists of the program against the counts of the law. No program here. -/
namespace Mth
/-! ### functions on the line -/
/-- the carried place at gap g, looking back n places at most -/
def carW (c : Int → Int) (S : Int → Bool) : Nat → Int → Int
  | 0, g => c (g - 1)
  | n + 1, g => if S (g - 1) then c (g - 1) else min (c (g - 1)) (carW c S n (g - 1))
/-- some stand among the n places ahead of gap g -/
def Near (S : Int → Bool) (n : Nat) (g : Int) : Prop := ∃ k : Nat, k < n ∧ S (g - 1 - k) = true
theorem Near.back {S : Int → Bool} {n : Nat} {g : Int} (h : Near S (n + 1) g) (hs : ¬ S (g - 1) = true) : Near S n (g - 1) := by
  obtain ⟨k, hk, e⟩ := h
  cases k with
  | zero => exact absurd (by simpa using e) hs
  | succ k => exact ⟨k, by omega, by rw [show g - 1 - 1 - (k : Int) = g - 1 - ((k + 1 : Nat) : Int) by omega]; exact e⟩
theorem carW_more {c : Int → Int} {S : Int → Bool} : ∀ {n : Nat} {g : Int}, Near S n g → carW c S (n + 1) g = carW c S n g
  | 0, g, h => by obtain ⟨k, hk, _⟩ := h; omega
  | n + 1, g, h => by
    show (if S (g - 1) then c (g - 1) else min (c (g - 1)) (carW c S (n + 1) (g - 1))) = (if S (g - 1) then c (g - 1) else min (c (g - 1)) (carW c S n (g - 1)))
    by_cases hs : S (g - 1) = true
    · rw [if_pos hs, if_pos hs]
    · rw [if_neg hs, if_neg hs, carW_more (h.back hs)]
/-- every p places in a row hold a stand -/
def Dense (S : Int → Bool) (p : Nat) : Prop := ∀ g : Int, Near S p g
structure Good (p : Nat) (c : Int → Int) : Prop where
  per : ∀ y, c (y + p) = c y + p
  le : ∀ y, c y ≤ y
  inj : ∀ y z, c y = c z → y = z
  sur : ∀ x, ∃ y, c y = x
/-- how far c looks back at most -/
def Back (c : Int → Int) (B : Int) : Prop := ∀ y, y - B ≤ c y
section
variable {p : Nat} {c : Int → Int} {S : Int → Bool}
/-- w and the next came, as functions -/
def wF (p : Nat) (c : Int → Int) (S : Int → Bool) (g : Int) : Int := carW c S p g
def nxt (p : Nat) (c : Int → Int) (S : Int → Bool) (y : Int) : Int := if S y = true ∨ wF p c S y > c y then wF p c S y else c y
theorem wF_stand (hp : 0 < p) {g : Int} (h : S g = true) : wF p c S (g + 1) = c g := by
  unfold wF
  obtain ⟨q, rfl⟩ : ∃ q, p = q + 1 := ⟨p - 1, by omega⟩
  show (if S (g + 1 - 1) then c (g + 1 - 1) else _) = _
  rw [show g + 1 - 1 = g by omega, if_pos h]
theorem wF_else (hp : 0 < p) (hd : Dense S p) {g : Int} (h : S g = false) : wF p c S (g + 1) = min (c g) (wF p c S g) := by
  unfold wF
  obtain ⟨q, rfl⟩ : ∃ q, p = q + 1 := ⟨p - 1, by omega⟩
  have hn : Near S q g := by
    have h1 := (hd (g + 1)).back (by rw [show g + 1 - 1 = g by omega, h]; decide)
    rw [show g + 1 - 1 = g by omega] at h1
    exact h1
  rw [carW_more hn]
  show (if S (g + 1 - 1) then c (g + 1 - 1) else min (c (g + 1 - 1)) (carW c S q (g + 1 - 1))) = _
  rw [show g + 1 - 1 = g by omega, if_neg (by rw [h]; decide)]
/-- what is carried comes from one of the n places ahead -/
theorem carW_from : ∀ (n : Nat) (g : Int), Near S n g → ∃ u, g - n ≤ u ∧ u < g ∧ carW c S n g = c u
  | 0, g, h => by obtain ⟨k, hk, _⟩ := h; omega
  | n + 1, g, h => by
    show ∃ u, _ ∧ _ ∧ (if S (g - 1) then c (g - 1) else min (c (g - 1)) (carW c S n (g - 1))) = c u
    by_cases hs : S (g - 1) = true
    · exact ⟨g - 1, by omega, by omega, by rw [if_pos hs]⟩
    · obtain ⟨u, h1, h2, e⟩ := carW_from n (g - 1) (h.back hs)
      rw [if_neg hs, e]
      by_cases hm : c (g - 1) ≤ c u
      · exact ⟨g - 1, by omega, by omega, Int.min_eq_left hm⟩
      · exact ⟨u, by omega, by omega, Int.min_eq_right (by omega)⟩
theorem wF_from (hd : Dense S p) (g : Int) : ∃ u, g - p ≤ u ∧ u < g ∧ wF p c S g = c u := carW_from p g (hd g)
theorem wF_lt (hd : Dense S p) (hl : ∀ y, c y ≤ y) (g : Int) : wF p c S g < g := by
  obtain ⟨u, h1, h2, e⟩ := wF_from (c := c) hd g
  have := hl u
  omega
/-- the pair (carried, came) is only sorted -/
theorem pair (hp : 0 < p) (hd : Dense S p) (y : Int) : (nxt p c S y = wF p c S y ∧ wF p c S (y + 1) = c y) ∨ (nxt p c S y = c y ∧ wF p c S (y + 1) = wF p c S y) := by
  unfold nxt
  cases hs : S y with
  | true => exact .inl ⟨by rw [if_pos (.inl rfl)], wF_stand hp hs⟩
  | false =>
    rw [wF_else hp hd hs]
    by_cases h : wF p c S y > c y
    · exact .inl ⟨if_pos (.inr h), Int.min_eq_left (by omega)⟩
    · exact .inr ⟨if_neg (by rintro (z | z); cases z; exact h z), Int.min_eq_right (by omega)⟩
theorem carW_per (hc : ∀ y, c (y + p) = c y + p) (hS : ∀ y, S (y + p) = S y) : ∀ (n : Nat) (g : Int), carW c S n (g + p) = carW c S n g + p
  | 0, g => by
    show c (g + p - 1) = c (g - 1) + p
    rw [show g + (p : Int) - 1 = g - 1 + p by omega, hc]
  | n + 1, g => by
    show (if S (g + p - 1) then c (g + p - 1) else min (c (g + p - 1)) (carW c S n (g + p - 1))) = (if S (g - 1) then c (g - 1) else min (c (g - 1)) (carW c S n (g - 1))) + p
    rw [show g + (p : Int) - 1 = g - 1 + p by omega, hc, hS, carW_per hc hS n (g - 1)]
    split <;> omega
theorem nxt_per (hc : ∀ y, c (y + p) = c y + p) (hS : ∀ y, S (y + p) = S y) (y : Int) : nxt p c S (y + p) = nxt p c S y + p := by
  unfold nxt wF
  rw [hc, hS, carW_per hc hS]
  by_cases h : S y = true ∨ carW c S p y > c y
  · rw [if_pos h, if_pos (by rcases h with h | h; exact .inl h; exact .inr (by omega))]
  · rw [if_neg h, if_neg (by intro z; exact h (by rcases z with z | z; exact .inl z; exact .inr (by omega)))]
/-- how often the value v stands among n places from a on -/
def cnt (c : Int → Int) (v a : Int) : Nat → Nat
  | 0 => 0
  | n + 1 => cnt c v a n + (if c (a + n) = v then 1 else 0)
theorem cnt_one {v a : Int} {n : Nat} {y : Int} (h1 : a ≤ y) (h2 : y < a + n) (e : c y = v) : 1 ≤ cnt c v a n := by
  induction n with
  | zero => omega
  | succ n ih =>
    show 1 ≤ cnt c v a n + (if c (a + n) = v then 1 else 0)
    by_cases h : y = a + n
    · rw [← h, if_pos e]; omega
    · have := ih (by omega); omega
theorem cnt_two {v a : Int} {n : Nat} {y z : Int} (h1 : a ≤ y) (h2 : y < z) (h3 : z < a + n) (e : c y = v) (e' : c z = v) : 2 ≤ cnt c v a n := by
  induction n with
  | zero => omega
  | succ n ih =>
    show 2 ≤ cnt c v a n + (if c (a + n) = v then 1 else 0)
    by_cases h : z = a + n
    · rw [← h, if_pos e']
      have := cnt_one (n := n) h1 (by omega) e
      omega
    · have := ih (by omega); omega
theorem cnt_some {v a : Int} {n : Nat} (h : 1 ≤ cnt c v a n) : ∃ y, a ≤ y ∧ y < a + n ∧ c y = v := by
  induction n with
  | zero =>
    have h0 : 1 ≤ (0 : Nat) := h
    omega
  | succ n ih =>
    have h' : 1 ≤ cnt c v a n + (if c (a + n) = v then 1 else 0) := h
    by_cases e : c (a + n) = v
    · exact ⟨a + n, by omega, by omega, e⟩
    · rw [if_neg e] at h'
      obtain ⟨y, h1, h2, h3⟩ := ih h'
      exact ⟨y, h1, by omega, h3⟩
theorem cnt_inj (hi : ∀ y z, c y = c z → y = z) {v a : Int} {n : Nat} : cnt c v a n ≤ 1 := by
  induction n with
  | zero => exact Nat.zero_le _
  | succ n ih =>
    show cnt c v a n + (if c (a + n) = v then 1 else 0) ≤ 1
    by_cases e : c (a + n) = v
    · rw [if_pos e]
      by_cases h : 1 ≤ cnt c v a n
      · obtain ⟨y, h1, h2, h3⟩ := cnt_some h
        have := hi y (a + n) (h3.trans e.symm)
        omega
      · omega
    · rw [if_neg e]; omega
theorem cnt_front {v a : Int} {n : Nat} : cnt c v a (n + 1) = (if c a = v then 1 else 0) + cnt c v (a + 1) n := by
  induction n with
  | zero =>
    show 0 + (if c (a + (0 : Nat)) = v then 1 else 0) = (if c a = v then 1 else 0) + 0
    rw [show a + ((0 : Nat) : Int) = a by omega]
    omega
  | succ n ih =>
    show cnt c v a (n + 1) + (if c (a + (n + 1 : Nat)) = v then 1 else 0) = (if c a = v then 1 else 0) + (cnt c v (a + 1) n + (if c (a + 1 + n) = v then 1 else 0))
    rw [ih, show a + ((n + 1 : Nat) : Int) = a + 1 + n by omega]
    omega
theorem cnt_mono {v a b : Int} {n m : Nat} (h1 : b ≤ a) (h2 : a + n ≤ b + m) (h : 1 ≤ cnt c v a n) : 1 ≤ cnt c v b m := by
  obtain ⟨y, h3, h4, e⟩ := cnt_some h
  exact cnt_one (by omega) (by omega) e
/-- what comes in goes out or is carried -/
theorem conserve (hp : 0 < p) (hd : Dense S p) (v a : Int) (n : Nat) : cnt (nxt p c S) v a n + (if wF p c S (a + n) = v then 1 else 0) = cnt c v a n + (if wF p c S a = v then 1 else 0) := by
  induction n with
  | zero =>
    rw [show a + ((0 : Nat) : Int) = a by omega]
    rfl
  | succ n ih =>
    show cnt (nxt p c S) v a n + (if nxt p c S (a + n) = v then 1 else 0) + (if wF p c S (a + (n + 1 : Nat)) = v then 1 else 0) = cnt c v a n + (if c (a + n) = v then 1 else 0) + (if wF p c S a = v then 1 else 0)
    rw [show a + ((n + 1 : Nat) : Int) = a + n + 1 by omega]
    rcases pair (c := c) hp hd (a + n) with ⟨e1, e2⟩ | ⟨e1, e2⟩
    · rw [e1, e2]; omega
    · rw [e1, e2]; omega
theorem nxt_inj (hp : 0 < p) (hd : Dense S p) (hi : ∀ y z, c y = c z → y = z) (y z : Int) (h : nxt p c S y = nxt p c S z) : y = z := by
  have key : ∀ y z : Int, y < z → nxt p c S y = nxt p c S z → False := by
    intro y z hyz e
    obtain ⟨n, hn⟩ : ∃ n : Nat, z = y + n := ⟨(z - y).toNat, by omega⟩
    have h2 : 2 ≤ cnt (nxt p c S) (nxt p c S y) y (n + 1) := cnt_two (Int.le_refl _) hyz (by omega) rfl e.symm
    have hc := conserve (c := c) hp hd (nxt p c S y) y (n + 1)
    by_cases hw : wF p c S y = nxt p c S y
    · rw [if_pos hw] at hc
      obtain ⟨u, h3, h4, e3⟩ := wF_from (c := c) hd y
      have h5 : 1 ≤ cnt c (nxt p c S y) y (n + 1) := by omega
      obtain ⟨t, h6, h7, h8⟩ := cnt_some h5
      have := hi u t (by rw [← e3, hw, h8])
      omega
    · rw [if_neg hw] at hc
      have := cnt_inj hi (v := nxt p c S y) (a := y) (n := n + 1)
      omega
  rcases Int.lt_trichotomy y z with h1 | h1 | h1
  · exact (key y z h1 h).elim
  · exact h1
  · exact (key z y h1 h.symm).elim
theorem nxt_sur (hp : 0 < p) (hd : Dense S p) (hi : ∀ y z, c y = c z → y = z) (hs : ∀ x, ∃ y, c y = x) (x : Int) : ∃ y, nxt p c S y = x := by
  obtain ⟨y, hy⟩ := hs x
  have hc := conserve (c := c) hp hd x y (p + 1)
  have h1 : 1 ≤ cnt c x y (p + 1) := cnt_one (Int.le_refl _) (by omega) hy
  have h2 : ¬ wF p c S (y + (p + 1 : Nat)) = x := by
    intro z
    obtain ⟨u, h3, h4, e3⟩ := wF_from (c := c) hd (y + (p + 1 : Nat))
    have := hi u y (by rw [← e3, z, hy])
    omega
  rw [if_neg h2] at hc
  obtain ⟨t, _, _, e⟩ := cnt_some (c := nxt p c S) (v := x) (a := y) (n := p + 1) (by omega)
  exact ⟨t, e⟩
theorem nxt_ge (y : Int) : wF p c S y ≤ nxt p c S y ∨ c y ≤ nxt p c S y := by
  unfold nxt
  split
  · exact .inl (Int.le_refl _)
  · exact .inr (Int.le_refl _)
theorem Good.nxt (hp : 0 < p) (hd : Dense S p) (hS : ∀ y, S (y + p) = S y) (g : Good p c) : Good p (nxt p c S) where
  per := nxt_per g.per hS
  le := fun y => by
    have h1 := wF_lt hd g.le y
    have h2 := g.le y
    unfold Mth.nxt
    split <;> omega
  inj := nxt_inj hp hd g.inj
  sur := nxt_sur hp hd g.inj g.sur
theorem Back.nxt (hd : Dense S p) {B : Int} (h : Back c B) : Back (nxt p c S) (B + p) := fun y => by
  obtain ⟨u, h1, h2, e⟩ := wF_from (c := c) hd y
  have hu := h u
  have hy := h y
  rcases nxt_ge (p := p) (c := c) (S := S) y with z | z <;> omega
/-- the sum of a function over the places 0 .. n - 1 -/
def sumTo (f : Int → Int) : Nat → Int
  | 0 => 0
  | n + 1 => sumTo f n + f n
theorem sum_nxt (hp : 0 < p) (hd : Dense S p) (n : Nat) : sumTo (nxt p c S) n + wF p c S n = sumTo c n + wF p c S 0 := by
  induction n with
  | zero => rfl
  | succ n ih =>
    show sumTo (nxt p c S) n + nxt p c S n + wF p c S ((n + 1 : Nat) : Int) = sumTo c n + c n + wF p c S 0
    rw [show ((n + 1 : Nat) : Int) = (n : Int) + 1 by omega]
    rcases pair (c := c) hp hd n with ⟨e1, e2⟩ | ⟨e1, e2⟩ <;> omega
theorem sum_nxt_p (hp : 0 < p) (hd : Dense S p) (hc : ∀ y, c (y + p) = c y + p) (hS : ∀ y, S (y + p) = S y) : sumTo (nxt p c S) p = sumTo c p - p := by
  have h := sum_nxt (c := c) hp hd p
  have e : wF p c S p = wF p c S 0 + p := by
    have := carW_per hc hS p 0
    rw [show (0 : Int) + p = p by omega] at this
    exact this
  omega
end
/-! ### the counts -/
section
variable {p : Nat} {c : Int → Int} {S : Int → Bool}
/-- the number of places of b .. b + n - 1 whose came place is ahead of b -/
def nB (c : Int → Int) (b : Int) : Nat → Int
  | 0 => 0
  | n + 1 => nB c b n + (if c (b + n) < b then 1 else 0)
theorem nB_nxt (hp : 0 < p) (hd : Dense S p) (hl : ∀ y, c y ≤ y) (b : Int) (n : Nat) : nB (nxt p c S) b n = nB c b n + (if b ≤ wF p c S (b + n) then 1 else 0) := by
  induction n with
  | zero =>
    have := wF_lt hd hl b
    rw [show b + ((0 : Nat) : Int) = b by omega, if_neg (by omega)]
    rfl
  | succ n ih =>
    show nB (nxt p c S) b n + (if nxt p c S (b + n) < b then 1 else 0) = nB c b n + (if c (b + n) < b then 1 else 0) + (if b ≤ wF p c S (b + (n + 1 : Nat)) then 1 else 0)
    rw [ih, show b + ((n + 1 : Nat) : Int) = b + n + 1 by omega]
    rcases pair (c := c) hp hd (b + n) with ⟨e1, e2⟩ | ⟨e1, e2⟩
    · rw [e1, e2]
      split <;> split <;> split <;> omega
    · rw [e1, e2]
      split <;> split <;> omega
/-- the law's table: the longest fit of the first k entries into n places from b on -/
def lcsStep (S : Nat → Int → Bool) (x : Int) (prev : Nat → Int) : Nat → Int
  | 0 => 0
  | k + 1 => max (if S k x = true then max (prev (k + 1)) (prev k + 1) else prev (k + 1)) (lcsStep S x prev k)
def lcs (S : Nat → Int → Bool) (b : Int) : Nat → Nat → Int
  | 0 => fun _ => 0
  | n + 1 => lcsStep S (b + n) (lcs S b n)
/-- the came functions, entry by entry -/
def cF (p : Nat) (S : Nat → Int → Bool) : Nat → Int → Int
  | 0 => fun y => y
  | k + 1 => nxt p (cF p S k) (S k)
theorem good0 (p : Nat) (S : Nat → Int → Bool) : Good p (cF p S 0) := ⟨fun _ => rfl, fun _ => Int.le_refl _, fun _ _ h => h, fun x => ⟨x, rfl⟩⟩
theorem goodK {S : Nat → Int → Bool} (hp : 0 < p) : ∀ (k : Nat), (∀ j, j < k → Dense (S j) p ∧ ∀ y, S j (y + p) = S j y) → Good p (cF p S k)
  | 0, _ => good0 p S
  | k + 1, h => (goodK hp k fun j hj => h j (by omega)).nxt hp (h k (by omega)).1 (h k (by omega)).2
theorem backK {S : Nat → Int → Bool} : ∀ (k : Nat), (∀ j, j < k → Dense (S j) p) → Back (cF p S k) (k * p)
  | 0, _ => fun y => by
    show y - ((0 : Nat) : Int) * p ≤ y
    rw [show ((0 : Nat) : Int) * (p : Int) = 0 by rw [Int.natCast_zero, Int.zero_mul]]
    omega
  | k + 1, h => by
    have e : ((k + 1 : Nat) : Int) * (p : Int) = (k : Int) * p + p := by
      rw [Int.natCast_add, Int.add_mul]
      show (k : Int) * p + 1 * p = _
      rw [Int.one_mul]
    rw [e]
    exact (backK k fun j hj => h j (by omega)).nxt (h k (by omega))
theorem sumK {S : Nat → Int → Bool} (hp : 0 < p) : ∀ (k : Nat), (∀ j, j < k → Dense (S j) p ∧ ∀ y, S j (y + p) = S j y) → sumTo (cF p S k) p = sumTo (fun y => y) p - k * p
  | 0, _ => by
    show sumTo (fun y => y) p = _
    rw [show ((0 : Nat) : Int) * (p : Int) = 0 by rw [Int.natCast_zero, Int.zero_mul]]
    omega
  | k + 1, h => by
    have e : ((k + 1 : Nat) : Int) * (p : Int) = (k : Int) * p + p := by
      rw [Int.natCast_add, Int.add_mul]
      show (k : Int) * p + 1 * p = _
      rw [Int.one_mul]
    have ih := sumK hp k fun j hj => h j (by omega)
    have g := goodK hp k fun j hj => h j (by omega)
    show sumTo (nxt p (cF p S k) (S k)) p = _
    rw [sum_nxt_p hp (h k (by omega)).1 g.per (h k (by omega)).2, ih, e]
    omega
theorem nB0 (b : Int) (n : Nat) : nB (fun y => y) b n = 0 := by
  induction n with
  | zero => rfl
  | succ n ih =>
    show nB (fun y => y) b n + (if b + (n : Int) < b then 1 else 0) = 0
    rw [ih, if_neg (by omega)]
    rfl
/-- THE LAW'S TABLE IS THE PROGRAM'S COUNT -/
theorem lcs_eq {S : Nat → Int → Bool} (hp : 0 < p) (b : Int) (m : Nat) (h : ∀ j, j < m → Dense (S j) p ∧ ∀ y, S j (y + p) = S j y) : ∀ (n k : Nat), k ≤ m → lcs S b n k = nB (cF p S k) b n
  | 0, _, _ => rfl
  | n + 1, 0, _ => by
    show (0 : Int) = nB (fun y => y) b (n + 1)
    rw [nB0]
  | n + 1, k + 1, hk => by
    have h1 := lcs_eq hp b m h n (k + 1) hk
    have h2 := lcs_eq hp b m h n k (by omega)
    have h3 := lcs_eq hp b m h (n + 1) k (by omega)
    have g := goodK hp k fun j hj => h j (by omega)
    have hd := (h k (by omega)).1
    show max (if S k (b + n) = true then max (lcs S b n (k + 1)) (lcs S b n k + 1) else lcs S b n (k + 1)) (lcs S b (n + 1) k) = nB (nxt p (cF p S k) (S k)) b (n + 1)
    rw [h1, h2, h3, nB_nxt hp hd g.le b (n + 1)]
    have e1 : nB (cF p S (k + 1)) b n = nB (cF p S k) b n + (if b ≤ wF p (cF p S k) (S k) (b + n) then 1 else 0) := nB_nxt hp hd g.le b n
    have e2 : nB (cF p S k) b (n + 1) = nB (cF p S k) b n + (if cF p S k (b + n) < b then 1 else 0) := rfl
    rw [e1, e2, show b + ((n + 1 : Nat) : Int) = b + n + 1 by omega]
    cases hs : S k (b + n) with
    | true =>
      rw [if_pos rfl, wF_stand hp hs]
      split <;> split <;> split <;> omega
    | false =>
      rw [if_neg (by decide), wF_else hp hd hs]
      split <;> split <;> split <;> omega
/-! ### heights -/
/-- where x lands, told by its place: c y = x -/
theorem more_iff (g : Good p c) {x y : Int} (e : c y = x) (n : Nat) : nB c x (n + 1) > nB c (x + 1) n ↔ x + n + 1 ≤ y := by
  have hxy : x ≤ y := by rw [← e]; exact g.le y
  have key : ∀ n : Nat, nB c x (n + 1) = (if c x < x then 1 else 0) + nB c (x + 1) n - (if y ≠ x ∧ y < x + 1 + n then 1 else 0) := by
    intro n
    induction n with
    | zero =>
      show nB c x 0 + (if c (x + (0 : Nat)) < x then 1 else 0) = _
      rw [show x + ((0 : Nat) : Int) = x by omega, if_neg (show ¬ (y ≠ x ∧ y < x + 1 + ((0 : Nat) : Int)) by omega)]
      show (0 : Int) + _ = _ + 0 - 0
      omega
    | succ n ih =>
      show nB c x (n + 1) + (if c (x + (n + 1 : Nat)) < x then 1 else 0) = (if c x < x then 1 else 0) + (nB c (x + 1) n + (if c (x + 1 + n) < x + 1 then 1 else 0)) - (if y ≠ x ∧ y < x + 1 + (n + 1 : Nat) then 1 else 0)
      rw [ih, show x + ((n + 1 : Nat) : Int) = x + 1 + n by omega]
      by_cases hy : y = x + 1 + n
      · have ec : c (x + 1 + n) = x := by rw [← hy]; exact e
        rw [ec, if_neg (show ¬ x < x by omega), if_pos (show x < x + 1 by omega), if_neg (show ¬ (y ≠ x ∧ y < x + 1 + (n : Int)) by omega), if_pos (show y ≠ x ∧ y < x + 1 + ((n + 1 : Nat) : Int) by omega)]
        omega
      · have nc : c (x + 1 + n) ≠ x := fun z => hy (g.inj _ _ (e.trans z.symm))
        by_cases h1 : y ≠ x ∧ y < x + 1 + (n : Int)
        · rw [if_pos h1, if_pos (show y ≠ x ∧ y < x + 1 + ((n + 1 : Nat) : Int) by omega)]
          split <;> split <;> split <;> omega
        · rw [if_neg h1, if_neg (show ¬ (y ≠ x ∧ y < x + 1 + ((n + 1 : Nat) : Int)) by omega)]
          split <;> split <;> split <;> omega
  rw [key n]
  by_cases hx : y = x
  · have ec : ¬ c x < x := by rw [hx] at e; omega
    rw [if_neg ec, if_neg (by omega)]
    omega
  · have h1 : c x ≤ x := g.le x
    have h2 : c x ≠ x := fun z => hx (g.inj _ _ (e.trans z.symm))
    rw [if_pos (by omega)]
    split <;> omega
/-- how many of the first n counts are greater -/
def much (f : Nat → Bool) : Nat → Int
  | 0 => 0
  | n + 1 => if f n = true then much f n + 1 else much f n
theorem much_le {f : Nat → Bool} {h : Nat} (hf : ∀ j, f j = true ↔ j < h) : ∀ n, h ≤ n → much f n = h
  | 0, hn => by
    show (0 : Int) = h
    omega
  | n + 1, hn => by
    show (if f n = true then much f n + 1 else much f n) = h
    by_cases hq : h ≤ n
    · rw [if_neg (by rw [hf]; omega), much_le hf n hq]
    · have e : h = n + 1 := by omega
      have all : ∀ m, m ≤ n → much f m = m := by
        intro m
        induction m with
        | zero => intro _; rfl
        | succ m ih =>
          intro hm
          show (if f m = true then much f m + 1 else much f m) = ((m + 1 : Nat) : Int)
          rw [if_pos ((hf m).mpr (by omega)), ih (by omega)]
          omega
      rw [if_pos ((hf n).mpr (by omega)), all n (Nat.le_refl _)]
      omega
end
end Mth
end
section
set_option Elab.async false
set_option linter.all false
set_option maxRecDepth 100000
set_option maxHeartbeats 2000000
/-! match .. case 'text': a rule of my own over the layer. -/
namespace Dk
open PySem PySem.Spec PyProof.Rows L2
abbrev TMc := V → TS
structure PMc (X : Cx) (cs : List MatchCase) (t : TMc) : Prop where
  run : ∀ (pins : List (Addr × Obj)) (s : Shared) (σ : L2.St) (H : Hp) (D : Ends) (v : V) (u : Value) (b : Bool), Inv X pins σ H s → RelV v u → t v D σ H → wpAny (model X.prog X.w) X.A (matchCases cs X.env u b) (SP X pins D) X.xe s
section
variable {X : Cx} {body : List Stmt} {rest : List MatchCase} {tb : TS} {tr : TMc} {te : TE} {subj : Expr} {pos p2 p3 : Pos} {j : Nat} {x : Str}
def mNil : TMc := fun _ D σ H => D.nx σ H
theorem pm_nil : PMc X [] mNil := ⟨fun pins s σ H D v u b I r h => by
  rw [arm_matchCases_nil]
  exact wpAny_pure ⟨σ, H, I, h⟩⟩
def mCase (x : Str) (tb : TS) (tr : TMc) : TMc := fun v D σ H => ∃ z, v = .str z ∧ if z = x then tb D σ H else tr v D σ H
theorem pm_case (hb : PSs X body tb) (hr : PMc X rest tr) : PMc X (⟨.MatchValue (.Constant (.str x) j p2) p3, none, body⟩ :: rest) (mCase x tb tr) := by
  refine ⟨fun pins s σ H D v u b I r h => ?_⟩
  obtain ⟨z, rfl, h⟩ := h
  have r0 := r
  obtain ⟨t, rfl⟩ := r
  rw [arm_matchCases_cons]
  dsimp only
  refine wpAny_bind (wpAny_holding ?_)
  rw [arm_matchPattern_MatchValue]
  refine wpAny_bind (Calls.Constant_str (wpAny_bind (wpAny_standAt (wpAny_bind (eq_str (wpAny_bind (wpAny_truthy_bool ?_)))))))
  have I1 := I.tok (s.toks + 1)
  by_cases e : z = x
  · rw [if_pos e] at h
    rw [if_pos (show (z == x) = true by simpa using e)]
    refine wpAny_pure ?_
    refine wpAny_bind (wpAny_holding (assignInOrder_nil (wpAny_bind (wpAny_pure ?_))))
    rw [if_pos rfl]
    exact hb.run pins _ σ H D I1 h
  · rw [if_neg e] at h
    rw [if_neg (show ¬ (z == x) = true by simpa using e)]
    refine wpAny_pure ?_
    exact hr.run pins _ σ H D (.str z) _ false I1 r0 h
theorem ps_match {cs : List MatchCase} {tm : TMc} (he : PE X subj te) (hm : PMc X cs tm) : PS X (.Match subj cs pos) (fun D σ H => te σ H fun v H1 => tm v D σ H1) := by
  refine ⟨fun pins s σ H D I h => ?_⟩
  show wpAny _ _ (do standAt pos; let v ← eval subj X.env; matchCases cs X.env v true) _ _ _
  refine wpAny_bind (wpAny_standAt (wpAny_bind (thn (he.run pins s σ H _ I h) fun u s1 ⟨v, H1, I1, r1, q1⟩ => ?_)))
  exact hm.run pins s1 σ H1 D v u true I1 r1 q1
end
end Dk
end
section
set_option Elab.async false
set_option linter.all false
set_option maxRecDepth 100000
set_option maxHeartbeats 4000000
/-! with C(..): body, where the body may raise and the errors fly on: a rule of my own over the layer. -/
namespace Dk
open PySem PySem.Spec PyProof.Rows L2 L2H
/-- a def's promise that holds whatever is being handled; a pin stands by -/
structure FnQ (P : Program) (w : World) (K : PySem.W.Frag) (mg : Str → Option Value) (base : Heap) (k : Nat) (f : Addr) (fd : FuncData) (ps : List Str) (sp : Sp) : Prop where
  len : ∀ vs H Q E, sp vs H Q E → vs.length = ps.length
  run : ∀ (A : Around) (outer : List Env) (s : Shared) (H : Hp) (args : Args) (us : List Value) (vs : List V) (Q : VK) (E : XK) (p : Addr × Obj), RoomH k A → PinOk outer H s p → Env0 P w K mg base A outer s H → BindsTo s fd args (ps.zip us) → Vals vs us → sp vs H Q E →
    codeAny (model P w) A (.call (.ref f) args) (CR CX0 outer P w H s Q E) s
theorem fnq_of {P : Program} {w : World} {K : PySem.W.Frag} {mg : Str → Option Value} {base : Heap} {k : Nat} {f : Addr} {x qual : Str} {params : Arguments} {body : List Stmt} {scope : Scope} {dvs : List V} {kws : List (Str × V)} {fd : FuncData} {N ps : List Str} {sp : Sp}
    (F : FunD K x qual params body scope dvs kws f fd) (S : FnScope N ps scope) (len : ∀ vs H Q E, sp vs H Q E → vs.length = ps.length)
    (hbody : ∀ (cdv : Value) (A : Around) (outer : List Env) (s : Shared) (H : Hp) (vs : List V) (Q : VK) (E : XK) (p : Addr × Obj), RoomH k (A.deeper (envOfC qual scope s.heap.objs.size f cdv)) → sp vs H Q E →
      ∃ t, PSs (cxH CX0 P w K mg base N qual scope f cdv A outer s H E p).nox body t ∧ t { nx := fun _ H' => Q .non H', rt := Q } (L2.start N vs) H) : FnQ P w K mg base (k + 1) f fd ps sp := by
  obtain ⟨oc, od, dV, kV, doc, pm, an, cdv, ct, osl, rfl, lk, hcd, _, _⟩ := F.ex
  refine ⟨len, fun A outer s H args us vs Q E p hr hpin e0 hb r hsp => ?_⟩
  have KX : K.In s.heap := e0.mod.kin.keeps fun b o e => (e0.bs b o e).1
  have hkind : ∀ y ∈ ps.zip us, scope.names.lookup y.1 = some .local ∨ (scope.names.lookup y.1 = some .cell ∧ ((cellsFrom (s.heap.objs.size + 1) scope.names []).lookup y.1).isSome = true) := fun y hy =>
    (S.par y.1 (List.of_mem_zip (show (y.1, y.2) ∈ ps.zip us from hy)).1).elim .inl fun q => .inr ⟨q, PySem.W.cellsFrom_some _ _ _ (.inl q)⟩
  refine codeAny_call_function hr.depth (KX _ _ lk) rfl S.co S.gen rfl (PySem.W.codeRec_of KX hcd) (hb _ _ _ _ (wpAny_newFunctionEnv_cells S.kind hkind fun env he s1 x => ?_))
  subst he
  refine ⟨(e0.mod.nolimit.keeps fun b o e => (e0.bs b o e).1).keeps x.toInCall.keep, codeAny_func ?_⟩
  obtain ⟨t, ht, hq⟩ := hbody cdv A outer s H vs Q E p (hr.deeper _) hsp
  have I := inv_startH (CX := CX0) (E := E) S hpin e0 (len _ _ _ _ hsp) r x
  refine wpAny_mono (ht.nox.run [] s1 (L2.start N vs) H _ I hq) (fun fl s' hs => ?_) fun e s' hs => hs
  cases fl with
  | ret u =>
    obtain ⟨v, σ', H', J, rv, q⟩ := hs
    exact ⟨v, H', J.os, J.bare, J.base, J.hok, rv, q⟩
  | next =>
    obtain ⟨σ', H', J, q⟩ := hs
    exact ⟨V.non, H', J.os, J.bare, J.base, J.hok, rfl, q⟩
  | brk =>
    obtain ⟨_, _, _, q⟩ := hs
    exact q.elim
  | cont =>
    obtain ⟨_, _, _, q⟩ := hs
    exact q.elim
/-- what the body's errors meet: __exit__, then they fly on -/
def wWith (spX : Sp) (x : Addr) (Wout : WX) : WX := fun cls d σ H => ∃ Cc : Addr, cls = .ref Cc ∧ ∀ b t : V, spX [.ref x, .ref Cc, b, t] H (fun r H' => r = .non ∧ Wout cls d σ H') E0
/-- behind the block: __exit__ with three Nones -/
def endsX (spX : Sp) (x : Addr) (D : Ends) : Ends :=
  ⟨fun σ' H' => spX [.ref x, .non, .non, .non] H' (fun _ H'' => D.nx σ' H'') E0, fun u H' => spX [.ref x, .non, .non, .non] H' (fun _ H'' => D.rt u H'') E0,
   fun σ' H' => spX [.ref x, .non, .non, .non] H' (fun _ H'' => D.bk σ' H'') E0, fun σ' H' => spX [.ref x, .non, .non, .non] H' (fun _ H'' => D.ct σ' H'') E0⟩
def tWith (te : TE) (C : Addr) (spN spX : Sp) (tb : WX → TS) (Wout : WX) : TS := fun D σ H => te σ H fun v H1 => ∃ x dx fs, v = .ref x ∧ H1 x = some (.ins C dx fs) ∧
  spN [.ref x] H1 (fun _ H2 => tb (wWith spX x Wout) (endsX spX x D) σ H2) E0
/-- the class, its two methods -/
structure WithC (K : PySem.W.Frag) (C fe fx : Addr) : Prop where
  en : PySem.W.findIn K (.ref C) "__enter__" = some (some (.ref fe))
  fe : PySem.W.isFn K (.ref fe) = true
  ex : PySem.W.findIn K (.ref C) "__exit__" = some (some (.ref fx))
  fx : PySem.W.isFn K (.ref fx) = true
section
variable {X : Cx} {pins : List (Addr × Obj)} {σ : L2.St} {H H2 : Hp} {sI s3 s5 : Shared} {B : Heap} {a : Addr} {Z : Obj → Prop}
/-- a call was made while an error was handled: the state with the error's own objects left out again -/
theorem ground_after (hs : X.stack = X.env :: X.outer) (I : Inv X pins σ H sI) (nb : ∀ b o, sI.heap.get? b = some o → b ∉ frs X.stack → B.get? b = some o) (up : sI.heap.UpToSlots s3.heap) (fl : HandSPX.FlyingZ B X.stack a Z s3.heap) (na : H a = none)
    (os : s5.os = sI.os) (ag : AllBare s5.gens) (un : Un (frs X.stack) [] H H2 s3.heap s5.heap) (hok : HOk X.prog X.w H2 s5.heap) :
    ∃ (G B2 : Heap), Inv X pins σ H2 { s5 with heap := G } ∧ (∀ b o, G.get? b = some o → b ∉ frs X.stack → B2.get? b = some o) ∧ G.UpToSlots s5.heap ∧ HandSPX.FlyingZ B2 X.stack a Z s5.heap ∧ H2 a = none := by
  obtain ⟨stB, nBa, ff, oe, vs, T, oT, ts, ha, hz, hd, h1, nBT, hTe, hT, hdT, h3⟩ := fl
  -- what is tracked stands in the ground
  have trk : ∀ b o, H b = some o → ∃ u, B.get? b = some u := fun b o q => by
    obtain ⟨u, e⟩ := objOk_get (I.hok b o q)
    exact ⟨u, nb b u e fun hm => by rw [I.stkFree b hm] at q; cases q⟩
  have nHT : H T = none := by
    cases q : H T with
    | none => rfl
    | some o =>
      obtain ⟨u, e⟩ := trk T o q
      rw [nBT] at e; cases e
  have nofr : ∀ {b : Addr} {o : Obj} {fs : Array Value}, s3.heap.get? b = some o → o.data = .fields fs → b ∉ frs X.stack := fun {b o fs} e dd hm => by
    obtain ⟨_, o', e', hnf⟩ := ff.mem hm
    rw [e] at e'; cases e'
    exact hnf _ dd
  have fa := nofr ha hd
  have fT := nofr hT hdT
  have ha5 := un.keep a oe ha na fa (by simp)
  have hT5 := un.keep T oT hT nHT fT (by simp)
  obtain ⟨G, g1, g2⟩ := restrict s5.heap fun b => (B.get? b).isSome || (decide (b ∈ frs X.stack) || (s3.heap.get? b).isNone)
  have gB : ∀ b, (B.get? b).isSome = true → G.get? b = s5.heap.get? b := fun b q => g1 b (by rw [q, Bool.true_or])
  have gF : ∀ b, b ∈ frs X.stack → G.get? b = s5.heap.get? b := fun b q => g1 b (by rw [decide_eq_true q, Bool.true_or, Bool.or_true])
  have gN : ∀ b, s3.heap.get? b = none → G.get? b = s5.heap.get? b := fun b q => g1 b (by rw [q]; simp)
  have gs : ∀ b o, G.get? b = some o → s5.heap.get? b = some o := fun b o e => by
    cases q : ((B.get? b).isSome || (decide (b ∈ frs X.stack) || (s3.heap.get? b).isNone)) with
    | true => rw [← g1 b q]; exact e
    | false => rw [g2 b q] at e; cases e
  have drop : ∀ b o, s3.heap.get? b = some o → B.get? b = none → b ∉ frs X.stack → G.get? b = none := fun b o e n f => g2 b (by rw [n, e, decide_eq_false f]; rfl)
  -- what is tracked behind the call stands in G
  have trk2 : ∀ b o, H2 b = some o → G.get? b = s5.heap.get? b := fun b o q => by
    cases e : s3.heap.get? b with
    | none => exact gN b e
    | some u =>
      cases q1 : H b with
      | none =>
        rw [un.free b u e q1 (by simp)] at q; cases q
      | some o1 =>
        obtain ⟨v, ev⟩ := trk b o1 q1
        exact gB b (by rw [ev]; rfl)
  have hokG : HOk X.prog X.w H2 G := fun b o q => (hok b o q).stay (fun c v hc e => by
    rcases hc with hc | hc
    · rw [hc] at e ⊢
      rw [trk2 b o q]; exact e
    · rw [trk2 c _ hc]; exact e) (fun _ e => e) fun _ _ e => e
  have toB : ∀ b o, sI.heap.get? b = some o → b ∉ frs X.stack → s3.heap.get? b = some o := fun b o e f => stB b o (nb b o e f)
  have slot3 : ∀ b o, sI.heap.get? b = some o → b ∈ frs X.stack → ∃ sl, s3.heap.get? b = some { o with slots := sl } := fun b o e f => by
    obtain ⟨_, o', e', hnf⟩ := I.stack.mem f
    rw [e] at e'; cases e'
    exact up b o e hnf
  have slot5 : ∀ b o, sI.heap.get? b = some o → b ∈ frs X.stack → ∃ sl, s5.heap.get? b = some { o with slots := sl } := fun b o e f => by
    obtain ⟨sl, e3⟩ := slot3 b o e f
    obtain ⟨sl2, e5⟩ := un.slot b _ e3 (I.stkFree b f) f (by simp)
    exact ⟨sl2, e5⟩
  have U : Un (frs X.stack) [] H H2 sI.heap G := {
    keep := fun b o e n f _ => by
      rw [gB b (by rw [nb b o e f]; rfl)]
      exact un.keep b o (toB b o e f) n f (by simp)
    slot := fun b o e n f _ => by
      rw [gF b f]
      exact slot5 b o e f
    free := fun b o e n _ => by
      by_cases f : b ∈ frs X.stack
      · obtain ⟨sl, e3⟩ := slot3 b o e f
        exact un.free b _ e3 n (by simp)
      · exact un.free b o (toB b o e f) n (by simp)
    there := fun b o e _ => by
      by_cases f : b ∈ frs X.stack
      · obtain ⟨sl, e5⟩ := slot5 b o e f
        exact ⟨_, by rw [gF b f]; exact e5⟩
      · obtain ⟨o', e5⟩ := un.there b o (toB b o e f) (by simp)
        exact ⟨o', by rw [gB b (by rw [nb b o e f]; rfl)]; exact e5⟩
    tups := un.tups
    frzs := un.frzs
    tbls := un.tbls }
  have J : Inv X pins σ H2 { s5 with heap := G } := I.call' (s' := { s5 with heap := G }) (ch := []) os U hokG ag (fun b z => absurd z (by simp))
  have nG : ∀ b, (∃ o, s3.heap.get? b = some o) → B.get? b = none → b ∉ frs X.stack → (PySem.W.hideAll G (frs X.stack)).get? b = none := fun b ⟨o, e⟩ n f => by
    cases q : (PySem.W.hideAll G (frs X.stack)).get? b with
    | none => rfl
    | some u =>
      have z := PySem.W.of_hideAll _ q
      rw [drop b o e n f] at z; cases z
  refine ⟨G, PySem.W.hideAll G (frs X.stack), J, fun b o e hb => PySem.W.hideAll_get _ e hb, Heap.UpToSlots.of_keeps gs, ⟨fun b o e => gs b o (PySem.W.of_hideAll _ e), nG a ⟨_, ha⟩ nBa fa, ?_, oe, vs, T, oT, ts, ha5, hz, hd, h1, nG T ⟨_, hT⟩ nBT fT, hTe, hT5, hdT, h3⟩, un.free a oe ha na (by simp)⟩
  exact Heap.FunFrames.of_keeps (fun b o e _ => ⟨o, gs b o e, rfl⟩) (funFrames_none J.stack fun b hb => PySem.W.hideAll_none _ hb)
end
/-- what stands behind the body's error, once the frame is noted -/
def errK (pos : Pos) (env : Env) (fx x : Addr) (e : Value) : Sem Flow := do
  setFlight e none
  standAt pos
  holding [e] do
    let t ← typeOf e
    let tb ← tracebackOf e
    let r ← withItem.marked e (Code.call (Value.ref fx) { pos := [Value.ref x] ++ [t, e, tb] })
    let r ← pure r
    match r with
    | Value.none => do
      let swallow ← pure false
      if swallow = true then do
        rule "with.exit-swallows"
        setFlight e none
        pure Flow.next
      else PySem.passOn "with" e env
    | Value.bool b => do
      let swallow ← pure b
      if swallow = true then do
        rule "with.exit-swallows"
        setFlight e none
        pure Flow.next
      else PySem.passOn "with" e env
    | _ => do
      let v ← withItem.marked e (Code.call (Value.type "bool") { pos := [r] })
      let swallow ← pure (v == Value.bool true)
      if swallow = true then do
        rule "with.exit-swallows"
        setFlight e none
        pure Flow.next
      else PySem.passOn "with" e env
section
variable {X : Cx} {ctx : Expr} {te : TE} {C fe fx : Addr} {k : Nat} {fdE fdX : FuncData} {spN spX : Sp} {body : List Stmt} {tb : WX → TS} {Wout : WX} {pos : Pos}
theorem ps_with (T : WithC X.K C fe fx) (hC : ∃ o, X.K.lookup C = some o ∧ ∀ v, o.data ≠ .cell v) (hs : X.stack = X.env :: X.outer) (hf : X.env.frame = some X.env.locals) (he : PE X ctx te)
    (FE : FnOk X.prog X.w X.K X.mg X.base CX0 k fe fdE ["self"] spN) (hr : Room k X.A) (bE : Binds X.K fdE ["self"] []) (FX : FnQ X.prog X.w X.K X.mg X.base k fx fdX ["self", "kind", "value", "trace"] spX) (bX : Binds X.K fdX ["self", "kind", "value", "trace"] []) (tk : L2.Takes X Wout)
    (hb : ∀ (W : WX) (pn : List (Addr × Obj)) (xe : Value → Shared → Prop), L2.Takes (X.tr pn xe) W → PassesOwn (model X.prog X.w) X.A X.env xe → (∀ hd : Option Value, PassesOwnAt (model X.prog X.w) (X.A.mark hd) X.A X.env xe) → PSs (X.tr pn xe) body (tb W)) :
    PS X (.With [⟨ctx, none⟩] body pos) (tWith te C spN spX tb Wout) := by
  refine ⟨fun pins s σ H D I h => ?_⟩
  rw [arm_exec_With]
  refine wpAny_bind (wpAny_standAt ?_)
  rw [arm_withItems_cons, arm_withItems_nil]
  unfold withItem
  refine wpAny_bind (thn (he.run pins s σ H _ I h) fun v s1 ⟨v1, H1, I1, r1, x, dx, fs, ex, ea, q⟩ => ?_)
  subst ex
  obtain rfl : v = Value.ref x := r1
  obtain ⟨mA, O, _⟩ := ins_get I1.hok ea
  obtain ⟨od, J, _⟩ := O.look
  have XK := I1.kIn
  obtain ⟨cd, hcd, ae⟩ := PySem.W.kw_along T.en
  obtain ⟨cd', hcd', ax⟩ := PySem.W.kw_along T.ex
  cases hcd.symm.trans hcd'
  have L1 : PySem.W.Looks (model X.prog X.w) s1.heap (specialOnItsLine (.ref x) "__enter__") (some (.ref fe), cd.mro) := PySem.W.kw_special XK J hcd ae
  have L2' : PySem.W.Looks (model X.prog X.w) s1.heap (specialOnItsLine (.ref x) "__exit__") (some (.ref fx), cd.mro) := PySem.W.kw_special XK J hcd ax
  have L3 : PySem.W.Looks (model X.prog X.w) s1.heap (bindSpecial (.ref fe) (.ref x)) (.ref fe, [.ref x]) := PySem.W.bind_fn XK _ (beq_iff_eq.mp T.fe)
  have L4 : PySem.W.Looks (model X.prog X.w) s1.heap (bindSpecial (.ref fx) (.ref x)) (.ref fx, [.ref x]) := PySem.W.bind_fn XK _ (beq_iff_eq.mp T.fx)
  have L5 : PySem.W.Looks (model X.prog X.w) s1.heap (aMethodOfAnotherBuiltinTypeStops (.ref fe) cd.mro) () := PySem.W.Looks.of_pure rfl
  have L6 : PySem.W.Looks (model X.prog X.w) s1.heap (aMethodOfAnotherBuiltinTypeStops (.ref fx) cd.mro) () := PySem.W.Looks.of_pure rfl
  refine wpAny_bind (wpAny_standAt ?_)
  simp only [Bool.false_eq_true, if_false]
  obtain ⟨hp, g, d, tt, os⟩ := s1
  kw_lk
  have rE : Vals [V.ref x] [Value.ref x] := .cons rfl .nil
  refine wpAny_mono (run_fn (E := E0) FE hr bE .nil pass0 I1 rE q) (fun v2 s2 ⟨w2, H2, I2, _, q2⟩ => ?_) fun _ _ z => z
  refine wpAny_bind (wpAny_pure (wpAny_bind (wpAny_attempt (PySem.W.kw_held ?_))))
  have ok := I.ok
  have hfr : X.A.frames = some (X.env :: X.outer) := by rw [ok.frames, hs]
  -- a pin for the calm call: the class's own object
  obtain ⟨oC, lC, nC⟩ := hC
  have bX4 : ∀ (s : Shared) (us : List Value), X.K.In s.heap → us.length = 4 → BindsTo s fdX ⟨us, []⟩ ((["self", "kind", "value", "trace"] : List Str).zip us) := fun s us k l => by
    have z := bX s us k (by rw [List.append_nil]; exact l)
    rw [List.append_nil] at z
    exact z
  have calmEnd : ∀ (σ' : L2.St) (H' : Hp) (s' : Shared) (G : Hp → Prop) (Q : Shared → Prop), Inv X pins σ' H' s' → spX [.ref x, .non, .non, .non] H' (fun _ H'' => G H'') E0 → (∀ H'' s'', Inv X pins σ' H'' s'' → G H'' → Q s'') →
      wpAny (model X.prog X.w) X.A (call (.ref fx) [.ref x, .none, .none, .none]) (fun _ s'' => Q s'') X.xe s' := fun σ' H' s' G Q I' h' hQ => by
    have ro : Vals [V.ref x, .non, .non, .non] [Value.ref x, .none, .none, .none] := .cons rfl (.cons rfl (.cons rfl (.cons rfl .nil)))
    have kC := I'.kIn C oC lC
    have nfr : ∀ b, X.base.get? b = some oC → b ∉ frs X.stack := fun b e hm => (List.mem_cons.mp (I'.stkSub b hm)).elim (fun z => by
      have h1 := Heap.lt_size e
      have h2 := I'.ok.above
      have h3 := I'.ok.bsz
      rw [z] at h1
      exact absurd (Nat.lt_of_lt_of_le h1 (Nat.le_trans h3 h2)) (Nat.lt_irrefl _)) (I'.ok.nofr e)
    have bC := I'.mod.kin C oC lC
    have pk : PinOk X.stack H' s' (C, oC) := ⟨kC, (I'.bs C oC bC).2, nfr C bC, nC⟩
    refine wpAny_call (codeAny_mono (FX.run X.A X.stack s' H' ⟨[.ref x, .none, .none, .none], []⟩ _ _ (fun _ H'' => G H'') E0 (C, oC) (roomH_of hr) pk I'.env0 (bX4 _ _ I'.kIn rfl) ro h') fun r s'' hq => ?_)
    cases r with
    | error e => exact False.elim hq
    | ok fl =>
      cases fl with
      | ret u =>
        obtain ⟨v', H'', I'', _, q'⟩ := I'.after hq
        exact hQ H'' s'' I'' q'
      | next => exact False.elim hq
      | brk => exact False.elim hq
      | cont => exact False.elim hq
  refine wpAny_mono ((hb (wWith spX x Wout) (X.pn ++ pins) (fun e s₁ => wpAny (model X.prog X.w) X.A (noteFrame e X.env) (fun _ s₂ => wpAny (model X.prog X.w) X.A (errK ctx.pos X.env fx x e) (SP X pins D) X.xe s₂) X.xe s₁) (fun u s' xx => ?_) PassesOwn.looking (fun _ => PassesOwnAt.looking)).run [] s2 σ H2 (endsX spX x D) (I2.toTry _) q2)
    (fun f s3 hsp => ?_) (fun e s3 z => wpAny_bind z)
  · obtain ⟨a, B, sI, pins', σ', H', cls, d3, rfl, J', nb, up, sky, na, osI, ag, Cc, ecls, hx⟩ := xx
    have JI : Inv X pins σ' H' sI := J'.ofTry ok
    have sky' : L2.Sky B (X.env :: X.outer) a (Zc cls d3) X.env.locals s'.heap := by rw [← hs]; exact sky
    show wpAny (model X.prog X.w) X.A (noteFrame (.ref a) X.env) (fun _ s₂ => wpAny (model X.prog X.w) X.A (errK ctx.pos X.env fx x (.ref a)) (SP X pins D) X.xe s₂) X.xe s'
    refine wpAny_mono (L2.Sky.land (E₁ := X.xe) Zc.steady hfr hf sky' fun h3 fl3 up3 => ?_) (fun _ s2 z => wpAny_bind z) fun _ _ z => z
    have J3 : Inv X pins σ' H' { s' with heap := h3 } := JI.landed nb fl3.1 (up.trans up3) osI ag
    have fl3' : HandSPX.FlyingZ B X.stack a (Zc cls d3) h3 := by rw [hs]; exact fl3
    obtain ⟨stB, nBa, ff, oe, vs, Tb, oT, ts, ha, hz, hd, h1, nBT, hTe, hT, hdT, h3f⟩ := id fl3
    have nfr : a ∉ frs (X.env :: X.outer) := fun hm => by
      obtain ⟨_, o', e', hnf⟩ := ff.mem hm
      rw [ha] at e'; cases e'
      exact hnf _ hd
    have nL : a ≠ X.env.locals := fun z => nfr (List.mem_filterMap.mpr ⟨X.env, List.mem_cons_self, by rw [hf, z]⟩)
    have nF : a ∉ X.fs := fun hm => by
      obtain ⟨e, he', q'⟩ := List.mem_filterMap.mp hm
      exact nfr (List.mem_filterMap.mpr ⟨e, List.mem_cons_of_mem _ he', q'⟩)
    have S3 := J3.suite ha hd na nL nF
    refine wpAny_bind (wpAny_standAt (wpAny_holding (wpAny_bind (wpAny_typeOf_ref ha ?_))))
    rw [hz.1, ecls]
    have h1s : 1 < ts.size := by
      have := (Array.getElem?_eq_some_iff.mp h3f).1
      omega
    -- what the call of __exit__ leaves
    have go : ∀ (t : V) (tv : Value), RelV t tv → wpAny (model X.prog X.w) X.A (do
        let r ← withItem.marked (.ref a) (Code.call (Value.ref fx) { pos := [Value.ref x] ++ [.ref Cc, .ref a, tv] })
        let r ← pure r
        match r with
        | Value.none => do
          let swallow ← pure false
          if swallow = true then do
            rule "with.exit-swallows"
            setFlight (.ref a) none
            pure Flow.next
          else PySem.passOn "with" (.ref a) X.env
        | Value.bool b => do
          let swallow ← pure b
          if swallow = true then do
            rule "with.exit-swallows"
            setFlight (.ref a) none
            pure Flow.next
          else PySem.passOn "with" (.ref a) X.env
        | _ => do
          let v ← withItem.marked (.ref a) (Code.call (Value.type "bool") { pos := [r] })
          let swallow ← pure (v == Value.bool true)
          if swallow = true then do
            rule "with.exit-swallows"
            setFlight (.ref a) none
            pure Flow.next
          else PySem.passOn "with" (.ref a) X.env) (SP X pins D) X.xe { s' with heap := h3 } := fun t tv rt => by
      have ro : Vals [V.ref x, .ref Cc, .ref a, t] [Value.ref x, .ref Cc, .ref a, tv] := .cons rfl (.cons rfl (.cons rfl (.cons rt .nil)))
      have pk : PinOk X.stack H' { s' with heap := h3 } (a, oe) := ⟨ha, na, by rw [hs]; exact nfr, fun v z => by
        have z' : oe.data = .cell v := z
        rw [hd] at z'; cases z'⟩
      have rm : RoomH k (X.A.mark (some (.ref a))) := ⟨hr.dp, hr.un⟩
      unfold withItem.marked
      refine wpAny_bind (wpAny_bind (wpAny_run (codeAny_mono (FX.run (X.A.mark (some (.ref a))) X.stack { s' with heap := h3 } H' ⟨[.ref x, .ref Cc, .ref a, tv], []⟩ _ _ (fun r H'' => r = .non ∧ Wout cls d3 σ' H'') E0 (a, oe) rm pk S3.env0 (bX4 _ _ S3.kIn rfl) ro (hx (.ref a) t)) fun r s5 hq => ?_) (by intro z; cases z)))
      cases r with
      | error e => exact False.elim hq
      | ok fl =>
        cases fl with
        | ret u =>
          obtain ⟨v5, H5, os5, ag5, un5, hok5, rv5, ev5, w5⟩ := hq
          subst ev5
          obtain rfl : u = Value.none := rv5
          obtain ⟨G, B2, JG, nb2, up2, fl5, na5⟩ := ground_after (s3 := { s' with heap := h3 }) hs JI nb (up.trans up3) fl3' na (os5.trans osI) ag5 un5 hok5
          refine wpAny_pure (wpAny_bind (wpAny_pure ?_))
          dsimp only
          refine wpAny_bind (wpAny_pure ?_)
          rw [if_neg Bool.false_ne_true]
          obtain ⟨_, _, _, oe5, vs5, T5, oT5, ts5, ha5, hz5, hd5, h15, _⟩ := id fl5
          unfold PySem.passOn
          refine wpAny_bind (wpAny_field ha5 hd5 h15 ?_)
          rw [if_neg (show ¬ ((Value.ref T5 == Value.none) = true) from by simp)]
          have fin : wpAny (model X.prog X.w) X.A (setFlight (.ref a) X.env.frame) (fun _ s6 => wpAny (model X.prog X.w) X.A (throw (.ref a) : Sem Flow) (SP X pins D) X.xe s6) X.xe s5 := by
            rw [hf]
            exact HandSPX.setFlight_upZ fl5 fun h6 hh6 up6 => wpAny_throw (tk _ _ ⟨a, B2, { s5 with heap := G }, pins, σ', H5, cls, d3, rfl, JG, nb2, up2.trans up6, .inr (.inr hh6), na5, rfl, ag5, w5⟩)
          first
            | exact wpAny_bind (wpAny_pure (wpAny_bind fin))
            | exact wpAny_bind fin
        | next => exact False.elim hq
        | brk => exact False.elim hq
        | cont => exact False.elim hq
    unfold tracebackOf
    refine wpAny_bind (wpAny_bind (wpAny_field ha hd h1 ?_))
    dsimp only
    refine wpAny_bind (wpAny_field hT hdT (x := ts[1]) (by simp [h1s]) ?_)
    by_cases en : (ts[1] == Value.none) = true
    · rw [if_pos en]
      exact wpAny_pure (go .non .none rfl)
    · rw [if_neg en]
      exact wpAny_pure (go (.ref Tb) (.ref Tb) rfl)
  · refine wpAny_bind (wpAny_standAt ?_)
    cases f with
    | next =>
      obtain ⟨σ', H', I', q'⟩ := hsp
      exact wpAny_bind (wpAny_holding (calmEnd σ' H' s3 _ _ (I'.ofTry ok) q' fun H'' s'' I'' g'' => wpAny_pure ⟨σ', H'', I'', g''⟩))
    | brk =>
      obtain ⟨σ', H', I', q'⟩ := hsp
      exact wpAny_bind (wpAny_holding (calmEnd σ' H' s3 _ _ (I'.ofTry ok) q' fun H'' s'' I'' g'' => wpAny_pure ⟨σ', H'', I'', g''⟩))
    | cont =>
      obtain ⟨σ', H', I', q'⟩ := hsp
      exact wpAny_bind (wpAny_holding (calmEnd σ' H' s3 _ _ (I'.ofTry ok) q' fun H'' s'' I'' g'' => wpAny_pure ⟨σ', H'', I'', g''⟩))
    | ret u =>
      obtain ⟨v', σ', H', I', r', q'⟩ := hsp
      exact wpAny_bind (wpAny_holding (calmEnd σ' H' s3 _ _ (I'.ofTry ok) q' fun H'' s'' I'' g'' => wpAny_pure ⟨v', σ', H'', I'', r', g''⟩))
end
end Dk
end
section
set_option Elab.async false
set_option linter.all false
set_option maxRecDepth 100000
set_option maxHeartbeats 4000000
/-! raise X(..) from Y(..) where nothing is handled; raise X(..) from e in the suite of «as e»; an own error with __init__ whose context is None. Rules of my own over the layer. -/
namespace Dk
open PySem PySem.Spec PyProof.Rows L2 L2H HotX
/-- the heap behind «from b» -/
def fromB (h : Heap) (a b : Addr) : Heap := (h.update a (Obj.mapFields (·.setIfInBounds 3 (.ref b)))).update a (Obj.mapFields (·.setIfInBounds 4 (.bool true)))
theorem fromB_at {h : Heap} {a b : Addr} {oe : Obj} {vs : Array Value} (ha : h.get? a = some oe) (hd : oe.data = .fields vs) :
    (fromB h a b).get? a = some ((oe.mapFields (·.setIfInBounds 3 (.ref b))).mapFields (·.setIfInBounds 4 (.bool true))) ∧ ((oe.mapFields (·.setIfInBounds 3 (.ref b))).mapFields (·.setIfInBounds 4 (.bool true))).data = .fields ((vs.setIfInBounds 3 (.ref b)).setIfInBounds 4 (.bool true)) := by
  have d3 := Obj.data_mapFields hd (·.setIfInBounds 3 (.ref b))
  have a3 := Heap.get?_update_self (Obj.mapFields (·.setIfInBounds 3 (.ref b))) ha (Obj.isFreed_of_fields d3)
  have d4 := Obj.data_mapFields d3 (·.setIfInBounds 4 (.bool true))
  exact ⟨Heap.get?_update_self _ a3 (Obj.isFreed_of_fields d4), d4⟩
theorem fromB_other {h : Heap} {a b c : Addr} (hne : a ≠ c) : (fromB h a b).get? c = h.get? c := by
  unfold fromB
  rw [Heap.get?_update_other _ _ hne, Heap.get?_update_other _ _ hne]
section
variable {prog : Program} {w : World} {A : Around} {E : Value → Shared → Prop} {env : Env} {s : Shared} {Q : Flow → Shared → Prop}
theorem not_type {s : Shared} {a : Addr} {oe : Obj} {vs : Array Value} {E : Value → Shared → Prop} {Q : Bool → Shared → Prop} (ha : s.heap.get? a = some oe) (hd : oe.data = .fields vs) (q : Q false s) : wpAny (model prog w) A (isType (.ref a)) Q E s := by
  simp only [isType, loadHead]
  refine wpAny_bind (wpAny_loadPart ha ?_)
  rw [hd]; exact wpAny_pure q
/-- what the error and its cause are, behind both expressions -/
structure FromAt (prog : Program) (w : World) (s : Shared) (a b : Addr) (cls : Value) (oe : Obj) (vs : Array Value) : Prop where
  ha : s.heap.get? a = some oe
  hc : oe.cls = cls
  hd : oe.data = .fields vs
  h1 : vs[1]? = some .none
  hi : 4 < vs.size
  sub : PySem.W.Looks (model prog w) s.heap (isSubtype cls (.type "BaseException")) true
  ty : PySem.W.Looks (model prog w) (fromB s.heap a b) (typeOf cls) (.type "type")
  hb : ∃ ob vb cb, s.heap.get? b = some ob ∧ ob.cls = cb ∧ ob.data = .fields vb ∧ PySem.W.Looks (model prog w) s.heap (isSubtype cb (.type "BaseException")) true
theorem exc_from {s : Shared} {e : Addr} {oe : Obj} {vs : Array Value} {cls : Value} {m : String} {E : Value → Shared → Prop} {Q : Value → Shared → Prop} (he : s.heap.get? e = some oe) (hc : oe.cls = cls) (hd : oe.data = .fields vs)
    (L : PySem.W.Looks (model prog w) s.heap (isSubtype cls (.type "BaseException")) true) (q : Q (.ref e) s) : wpAny (model prog w) A (excFromValue (.ref e) m) Q E s := by
  have LT : PySem.W.Looks (model prog w) s.heap (typeOf (.ref e)) cls := fun A Q E s k q => wpAny_typeOf_ref (k _ _ he) (by rw [hc]; exact q)
  have LI : PySem.W.Looks (model prog w) s.heap (isInstance (.ref e) (.type "BaseException")) true := LT.andThen L
  unfold excFromValue isExcClass
  refine wpAny_bind (wpAny_bind (not_type he hd ?_))
  simp only [Bool.false_eq_true, if_false]
  refine wpAny_pure ?_
  simp only [Bool.false_eq_true, if_false]
  refine wpAny_bind (LI.here ?_)
  simp only [if_true]
  exact wpAny_pure q
/-- raise x from c: K is what raiseNew does at the end -/
theorem raise_from {x c : Sem Value} (h : wpAny (model prog w) A x (fun v s1 => wpAny (model prog w) A c (fun cv s2 => ∃ a b cls oe vs, v = .ref a ∧ cv = .ref b ∧ FromAt prog w s2 a b cls oe vs ∧
      wpAny (model prog w) A (raiseNew (.ref a) : Sem Flow) Q E { s2 with heap := fromB s2.heap a b }) E s1) E s) : wpAny (model prog w) A (raiseStmt env (some x) (some c)) Q E s := by
  unfold raiseStmt
  dsimp only
  refine wpAny_bind (wpAny_mono h (fun v s1 h1 => ?_) fun _ _ z => z)
  refine wpAny_bind (wpAny_holding ?_)
  refine wpAny_mono h1 (fun cv s2 h2 => ?_) fun _ _ z => z
  obtain ⟨a, b, cls, oe, vs, rfl, rfl, F, hK⟩ := h2
  obtain ⟨ob, vb, cb, hb1, hb2, hb3, Lb⟩ := F.hb
  refine wpAny_bind (wpAny_pure ?_)
  dsimp only
  refine wpAny_bind (wpAny_holding (exc_from F.ha F.hc F.hd F.sub ?_))
  rw [if_neg (show ¬ ((Value.ref b == Value.none) = true) from by simp)]
  refine wpAny_bind (wpAny_holding (exc_from hb1 hb2 hb3 Lb ?_))
  have d3 := Obj.data_mapFields F.hd (·.setIfInBounds 3 (.ref b))
  have a3 := Heap.get?_update_self (Obj.mapFields (·.setIfInBounds 3 (.ref b))) F.ha (Obj.isFreed_of_fields d3)
  obtain ⟨a4, d4⟩ := fromB_at (b := b) F.ha F.hd
  have hi := F.hi
  have s3 : 3 < vs.size := by omega
  have s4 : 4 < (vs.setIfInBounds 3 (Value.ref b)).size := by rw [set_size]; exact hi
  have c4 : ((oe.mapFields (·.setIfInBounds 3 (.ref b))).mapFields (·.setIfInBounds 4 (.bool true))).cls = cls := by rw [Obj.cls_mapFields, Obj.cls_mapFields]; exact F.hc
  have h14 : ((vs.setIfInBounds 3 (Value.ref b)).setIfInBounds 4 (Value.bool true))[1]? = some Value.none := set_other (by decide) (set_other (by decide) F.h1)
  have LT : PySem.W.Looks (model prog w) (fromB s2.heap a b) (typeOf (.ref a)) cls := fun A Q E s k q => wpAny_typeOf_ref (k _ _ a4) (by rw [c4]; exact q)
  refine wpAny_bind (wpAny_setField F.ha F.hd s3 (wpAny_bind (wpAny_setField a3 d3 s4 ?_)))
  show wpAny (model prog w) A _ Q E { s2 with heap := fromB s2.heap a b }
  refine wpAny_bind (not_type (s := { s2 with heap := fromB s2.heap a b }) a4 d4 ?_)
  rw [if_neg Bool.false_ne_true]
  unfold raisedInstance
  refine wpAny_bind (wpAny_bind (LT.here (wpAny_bind (F.ty.here ?_))))
  rw [if_pos (beq_self_eq_true _)]
  refine wpAny_pure ?_
  unfold setFlight
  refine wpAny_bind (wpAny_bind (wpAny_field (s := { s2 with heap := fromB s2.heap a b }) a4 d4 h14 ?_))
  rw [if_neg (by decide)]
  exact wpAny_pure hK
end

section
variable {X : Cx} {pins : List (Addr × Obj)} {σ : L2.St} {H : Hp} {s : Shared}
/-- an object of the written part as a pin -/
theorem pin_k {C : Addr} {oC : Obj} (I : Inv X pins σ H s) (lC : X.K.lookup C = some oC) (nC : ∀ v, oC.data ≠ .cell v) : PinOk X.stack H s (C, oC) := by
  have bC := I.mod.kin C oC lC
  refine ⟨I.kIn C oC lC, (I.bs C oC bC).2, fun hm => (List.mem_cons.mp (I.stkSub C hm)).elim (fun z => ?_) (I.ok.nofr bC), nC⟩
  have h1 := Heap.lt_size bC
  have h2 := I.ok.above
  have h3 := I.ok.bsz
  rw [z] at h1
  exact absurd (Nat.lt_of_lt_of_le h1 (Nat.le_trans h3 h2)) (Nat.lt_irrefl _)
/-- an error's own object, which is not ours, is left out -/
theorem drop_one {a : Addr} (I : Inv X pins σ H s) (na : H a = none) (n0 : X.s_0.heap.get? a = none) (nl : a ≠ X.env.locals) (nc : ∀ x c, X.env.cells.lookup x = some c → c ≠ a) (np : ∀ p ∈ X.pn ++ pins, p.1 ≠ a) :
    ∃ G : Heap, (∀ b, b ≠ a → G.get? b = s.heap.get? b) ∧ G.get? a = none ∧ Inv X pins σ H { s with heap := G } := by
  obtain ⟨G, g1, g2⟩ := restrict s.heap fun b => decide (b ≠ a)
  have gk : ∀ b, b ≠ a → G.get? b = s.heap.get? b := fun b hb => g1 b (decide_eq_true hb)
  have ge : G.get? a = none := g2 a (by simp)
  have n0' : ∀ {b : Addr} {o : Obj}, X.s_0.heap.get? b = some o → b ≠ a := fun {b o} e z => by rw [z, n0] at e; cases e
  have nH : ∀ {b : Addr} {u : HO}, H b = some u → b ≠ a := fun {b u} e z => by rw [z, na] at e; cases e
  obtain ⟨m, hn, hl⟩ := I.loc
  refine ⟨G, gk, ge, ⟨I.ok, I.os, I.bare, ⟨fun b o e n hb hx => ?_, fun b o e n hb hx => ?_, I.base.free, fun b o e hx => ?_, I.base.tups, I.base.frzs, I.base.tbls⟩, ⟨m, ?_, fun i y v e1 e2 e3 => ?_⟩, fun y c e => ?_, I.free, I.freeC, fun p hp => ?_, fun b u e => ?_, I.len⟩⟩
  · exact (gk b (n0' e)).trans (I.base.keep b o e n hb hx)
  · obtain ⟨sl, z⟩ := I.base.slot b o e n hb hx
    exact ⟨sl, (gk b (n0' e)).trans z⟩
  · obtain ⟨o', z⟩ := I.base.there b o e hx
    exact ⟨o', (gk b (n0' e)).trans z⟩
  · obtain ⟨o, es, ep, e, r⟩ := hn
    exact ⟨o, es, ep, (gk _ (Ne.symm nl)).trans e, r⟩
  · obtain ⟨u, r, q⟩ := hl i y v e1 e2 e3
    refine ⟨u, r, ?_⟩
    rcases q with q | ⟨k, c, e, o, z, d⟩
    · exact .inl q
    · exact .inr ⟨k, c, e, o, (gk c (nc y c e)).trans z, d⟩
  · obtain ⟨v, o, z, d⟩ := I.cell y c e
    exact ⟨v, o, (gk c (nc y c e)).trans z, d⟩
  · obtain ⟨e, r⟩ := I.pin p hp
    exact ⟨(gk p.1 (np p hp)).trans e, r⟩
  · refine (I.hok b u e).stay (fun c v hc q => (gk c ?_).trans q) (fun _ q => q) fun _ _ q => q
    rcases hc with z | z
    · rw [z]; exact nH e
    · exact nH z
/-- a made error stands by: the state with it, the error pinned -/
theorem made_pin {s1 : Shared} {a : Addr} {oe : Obj} {vs : Array Value} (J : Inv X pins σ H s) (k : ∀ b o, s.heap.get? b = some o → s1.heap.get? b = some o) (hne : s.heap.get? a = none) (ha : s1.heap.get? a = some oe) (hd : oe.data = .fields vs) (na : H a = none) (os : s1.os = s.os) (ag : AllBare s1.gens) :
    Inv X ((a, oe) :: pins) σ H s1 ∧ a ≠ X.env.locals ∧ (∀ x c, X.env.cells.lookup x = some c → c ≠ a) ∧ (∀ p ∈ X.pn ++ pins, p.1 ≠ a) := by
  have I1 : Inv X pins σ H s1 := J.call' (ch := []) os (Un.kept k) (J.hok.kept k) ag (fun b z => absurd z (by simp))
  have nl : a ≠ X.env.locals := fun z => by
    obtain ⟨m, ⟨o, _, _, e, _⟩, _⟩ := J.loc
    rw [← z, hne] at e; cases e
  have nc : ∀ x c, X.env.cells.lookup x = some c → c ≠ a := fun x c e z => by
    obtain ⟨v, o, q, _⟩ := J.cell x c e
    rw [z, hne] at q; cases q
  have np : ∀ p ∈ X.pn ++ pins, p.1 ≠ a := fun p hp z => by
    have q := (J.pin p hp).1
    rw [z, hne] at q; cases q
  have nf : a ∉ X.fs := fun hm => by
    obtain ⟨_, o, q, _⟩ := J.funs.mem hm
    rw [hne] at q; cases q
  refine ⟨I1.pins_of fun p hp => ?_, nl, nc, np⟩
  rcases List.mem_cons.mp hp with rfl | hp
  · exact ⟨ha, na, nl, nf, fun v z => by
      have z' : oe.data = .cell v := z
      rw [hd] at z'; cases z'⟩
  · exact I1.pin p (List.mem_append_right _ hp)
end
/-- what an error's __init__(self, f) promises: self.f = f -/
def spEx (K : PySem.W.Frag) (C : Addr) (f : Str) : Sp := fun vs H Q _ => ∃ (a : Addr) (v : V), vs = [.ref a, v] ∧ H a = some (exo a C none) ∧ ∀ dx, H dx = none → dx ≠ a → Q .non (upd (upd H dx (exd dx [(f, v)])) a (exo a C (some dx)))
/-- C(e): a new error whose dict is at d -/
def tRz (C : Addr) (f : Str) (ta : TA) : L2.St → Hp → XK → Prop := fun σ H Q => ta σ H fun vs H1 => ∃ v, vs = [v] ∧ ∀ d, H1 d = none → Q (.ref C) (some d) (upd H1 d (.xd [(f, v)]))
section
variable {X : Cx} {C fI : Addr} {k : Nat} {fd : FuncData} {x f : Str} {e : Expr} {ta : TA} {p pos : Pos}
theorem pmk5_own (T : OexC X.K C) (iC : PySem.W.findIn X.K (.ref C) "__init__" = some (some (.ref fI))) (tI : PySem.W.typeIn X.K (.ref fI) = some (.type "function")) (FX : FnQ X.prog X.w X.K X.mg X.base k fI fd ["self", f] (spEx X.K C f)) (bX : Binds X.K fd ["self", f] [])
    (hr : RoomH (k + 1) X.A) (hg : Gl X x) (hm : X.mg x = some (.ref C)) (ha : PA X [e] ta)
    (hdb : (x == ("__debug__" : Str)) = false := by decide) (he : starEach [e] X.env = (false, eval e X.env) :: starEach [] X.env := by rfl) (hpl : (backTo pos (starEach [] X.env)).any (·.1) = false := by rfl) :
    PMk5 X (.Call (.Name x p) [e] [] pos) (tRz C f ta) := by
  intro pins s σ H Q I h
  obtain ⟨nm, q, N, bs, bm, sn, sub, ab, col, dd, k0, k1, k2, k3, k5, hC, hbm⟩ := T.cls
  refine wpAny_Call_Name_kw (ld_glob I hg hm ?_ hdb)
  refine PySem.W.callWith_K (h₀ := X.base) I.ok.mod.kin T.kC (thn (ha.run pos pins s σ H _ I h) fun us s1 ⟨vs, H1, I1, r1, v, ev, q1⟩ => ⟨I1.kIn, ?_⟩) he hpl
  subst ev
  cases r1 with
  | @cons _ u _ un rv rn =>
    cases rn
    show wpAny _ _ (call (.ref C) [u]) _ _ _
    obtain ⟨hp, g, dr, tk, os⟩ := s1
    have hn : H1 (hp.objs.size + 1) = none := I1.hok.fresh (Nat.le_succ _)
    have kk : ∀ b o, hp.get? b = some o → ((hp.push (PySem.W.kdv_tup [u])).push (PySem.HandSPX.excO C hp.objs.size)).get? b = some o := fun b o e => Heap.get?_push_of_some _ (Heap.get?_push_of_some _ e)
    have hget : ((hp.push (PySem.W.kdv_tup [u])).push (PySem.HandSPX.excO C hp.objs.size)).get? (hp.objs.size + 1) = some (PySem.HandSPX.excO C hp.objs.size) := by heap_get
    have I2 : Inv X pins σ (upd H1 (hp.objs.size + 1) (exo (hp.objs.size + 1) C none)) ⟨(hp.push (PySem.W.kdv_tup [u])).push (PySem.HandSPX.excO C hp.objs.size), g, dr, tk, os⟩ := I1.laid (t' := tk) kk (Nat.le_succ _) (exo_ok hget)
    have r2 : Vals [V.ref (hp.objs.size + 1), v] [Value.ref (hp.objs.size + 1), u] := .cons rfl (.cons rv .nil)
    have b2 := bX _ [Value.ref (hp.objs.size + 1), u] I2.kIn rfl
    rw [List.append_nil] at b2
    have hsp : spEx X.K C f [V.ref (hp.objs.size + 1), v] (upd H1 (hp.objs.size + 1) (exo (hp.objs.size + 1) C none)) (fun v2 H2 => v2 = .non ∧ ∃ d : Addr, H2 (hp.objs.size + 1) = some (exo (hp.objs.size + 1) C (some d)) ∧ H2 d = some (exd d [(f, v)]) ∧ H1 d = none ∧ upd (del H2 (hp.objs.size + 1)) d (.xd [(f, v)]) = upd H1 d (.xd [(f, v)])) (fun _ _ _ => False) := by
      refine ⟨_, v, rfl, upd_same, fun dx nd ne => ⟨rfl, dx, upd_same, by rw [upd_ne ne, upd_same], by rw [upd_ne ne] at nd; exact nd, ?_⟩⟩
      funext b
      by_cases h1 : b = dx
      · rw [h1, upd_same, upd_same]
      · rw [upd_ne h1, upd_ne h1]
        by_cases h2 : b = hp.objs.size + 1
        · rw [h2, del_same, hn]
        · rw [del_ne h2, upd_ne h2, upd_ne h1, upd_ne h2]
    refine wpAny_call (PySem.HandSPX.call_own F.excBase_ValueError (fun Y => PySem.HandSPX.refsVE_contains Y bm hbm) (I1.kIn _ _ hC) (PySem.W.looks_findIn I1.kIn iC) (fun self => PySem.W.bind_fn I1.kIn self tI) (by rw [sizeLine_eq]; show 1 ≤ _; decide)
      (codeAny_mono (FX.run _ X.stack _ _ ⟨[Value.ref (hp.objs.size + 1), u], []⟩ [Value.ref (hp.objs.size + 1), u] _ _ (fun _ _ _ => False) _ (hr.make C [u] []) (pin_k I2 hC (fun _ z => by cases z)) (I2.env0.make C [u] []) b2 r2 hsp) fun r s' hq' => ?_))
    cases r with
    | error er => exact False.elim hq'
    | ok fl =>
      cases fl with
      | ret w2 =>
        obtain ⟨v3, H2, os2, bare2, un2, hok2, rv3, ev, d, ea, ed, hd1, eH⟩ := hq'
        subst ev
        obtain ⟨h2, g2, d2, t2, os'⟩ := s'
        obtain ⟨t0, G, J, kG, ge, hoe, na⟩ := mk_end0 (d2 := d2) (t2 := t2) I1 (Nat.le_succ _) kk un2 hok2 os2 bare2 ea ed hd1
        rw [eH] at J na
        refine ⟨rv3, ⟨hp.objs.size + 1, _, _, ⟨G, g2, d2, t2, os'⟩, _, .ref C, some d, rfl, J, kG, ge, hoe, ⟨rfl, rfl, fun vs hv => ?_⟩, rfl, rfl, na, rfl, bare2, raises_own T.exC T.tyC, q1 d hd1⟩, fun a oe vs ea2 hg2 hd2 => ?_⟩
        · cases hv
          rfl
        · cases ea2
          have hg3 : h2.get? (hp.objs.size + 1) = some oe := hg2
          rw [hoe] at hg3
          cases hg3
          cases hd2
          show (4 : Nat) < 6
          decide
      | next => exact False.elim hq'
      | brk => exact False.elim hq'
      | cont => exact False.elim hq'
/-- raise C(e) from D(e'), where nothing is handled -/
theorem ps_raiseFrom {W : WX} {e2 : Expr} {t t2 : L2.St → Hp → XK → Prop} {pos2 : Pos} (hc : X.calm = true) (hex : X.ex = []) (tk : L2N.Takes X W) (hx : PMk5 X e t) (hy : PMk5 X e2 t2) :
    PS X (.Raise (some e) (some e2) pos2) (fun _ σ H => t σ H fun cls d H' => t2 σ H' fun _ _ H2 => W cls d σ H2) := by
  refine ⟨fun pins s σ H D I h => ?_⟩
  show wpAny _ _ (do standAt pos2; raiseStmt X.env (some (do let v ← eval e X.env; standAt pos2; pure v)) (some (do let v ← eval e2 X.env; standAt pos2; pure v))) _ _ _
  refine wpAny_bind (wpAny_standAt (raise_from ?_))
  refine wpAny_bind (wpAny_mono (hx pins s σ H _ I h) (fun u s1 hu => wpAny_bind (wpAny_standAt (wpAny_pure ?_))) fun _ _ z => z)
  obtain ⟨⟨a, oe, vs, sI, H', cls, d, rfl, J, k, hne, ha, hz, hd, h1, na, os, ag, r, q⟩, h5⟩ := hu
  have hi : 4 < vs.size := h5 a oe vs rfl ha hd
  obtain ⟨I1, nl, nc, np⟩ := made_pin J k hne ha hd na os ag
  refine wpAny_bind (wpAny_mono (hy _ s1 σ H' _ I1 q) (fun u2 s2 hu2 => wpAny_bind (wpAny_standAt (wpAny_pure ?_))) fun _ _ z => z)
  obtain ⟨⟨b, ob, vb, sJ, H2, cls2, d2, rfl, J2, k2, hne2, hb, hzb, hdb2, hb1, nb, os2, ag2, rb, q2⟩, hb5⟩ := hu2
  obtain ⟨ha2, na2, _⟩ := J2.pin (a, oe) (List.mem_append_right _ List.mem_cons_self)
  have n0 : X.s_0.heap.get? a = none := by
    cases q0 : X.s_0.heap.get? a with
    | none => rfl
    | some o =>
      obtain ⟨o', z⟩ := J.base.there a o q0 (by rw [hex]; simp)
      rw [hne] at z; cases z
  have J3 : Inv X pins σ H2 sJ := J2.pins_of fun p hp => J2.pin p (List.mem_append_right _ (List.mem_cons_of_mem _ hp))
  obtain ⟨G, gk, ge, JG⟩ := drop_one J3 na2 n0 nl nc np
  have ha3 := k2 _ _ ha2
  obtain ⟨ha4, hd4⟩ := fromB_at (b := b) ha3 hd
  have kf : ∀ c u, G.get? c = some u → (fromB s2.heap a b).get? c = some u := fun c u z => by
    have nca : a ≠ c := fun y => by rw [← y, ge] at z; cases z
    rw [fromB_other nca]
    exact k2 c u ((gk c (Ne.symm nca)).symm.trans z)
  obtain ⟨r1, _⟩ := r (model X.prog X.w) s2.heap (J2.kIn.keeps k2)
  obtain ⟨_, r2⟩ := r (model X.prog X.w) (fromB s2.heap a b) (JG.kIn.keeps kf)
  obtain ⟨r3, _⟩ := rb (model X.prog X.w) s2.heap (J2.kIn.keeps k2)
  refine ⟨a, b, cls, oe, vs, rfl, rfl, ⟨ha3, hz.1, hd, h1, hi, r1, r2, ⟨ob, vb, cls2, hb, hzb.1, hdb2, r3⟩⟩, ?_⟩
  unfold raiseNew
  refine wpAny_bind (wpAny_handled ?_)
  rw [I.ok.hd hc]
  have fin : X.xe (.ref a) { s2 with heap := fromB s2.heap a b } := tk _ _ (L2N.XE.new (s' := { s2 with heap := fromB s2.heap a b }) JG kf ge ha4
    ⟨by rw [Obj.cls_mapFields, Obj.cls_mapFields]; exact hz.1, by rw [HandSPX.dict_mapFields, HandSPX.dict_mapFields]; exact hz.2.1, fun vs' e' => by
      rw [hd4] at e'
      cases e'
      exact set_other (by decide) (set_other (by decide) (hz.2.2 vs hd))⟩ hd4 (set_other (by decide) (set_other (by decide) h1)) na2 os2 ag2 q2)
  first
    | exact wpAny_throw fin
    | exact wpAny_bind (wpAny_pure (wpAny_throw fin))
/-- raise C(e) from e', e' the error that is being handled -/
theorem ps_raiseFromH {W : WX} {e2 : Expr} {t : L2.St → Hp → XK → Prop} {t2 : TE} {pos2 : Pos} {pn : Addr × Obj} (hex : X.ex = []) (hot : Hot1 X.A pn) (hpn : pn ∈ X.pn) (rb : Raises X pn.2.cls) (tk : L2.Takes X W) (hx : PMk5 X e t) (hy : PE X e2 t2) :
    PS X (.Raise (some e) (some e2) pos2) (fun _ σ H => t σ H fun cls d H' => t2 σ H' fun v H2 => v = .ref pn.1 ∧ W cls d σ H2) := by
  refine ⟨fun pins s σ H D I h => ?_⟩
  show wpAny _ _ (do standAt pos2; raiseStmt X.env (some (do let v ← eval e X.env; standAt pos2; pure v)) (some (do let v ← eval e2 X.env; standAt pos2; pure v))) _ _ _
  refine wpAny_bind (wpAny_standAt (raise_from ?_))
  refine wpAny_bind (wpAny_mono (hx pins s σ H _ I h) (fun u s1 hu => wpAny_bind (wpAny_standAt (wpAny_pure ?_))) fun _ _ z => z)
  obtain ⟨⟨a, oe, vs, sI, H', cls, d, rfl, J, k, hne, ha, hz, hd, h1, na, os, ag, r, q⟩, h5⟩ := hu
  have hi : 4 < vs.size := h5 a oe vs rfl ha hd
  obtain ⟨I1, nl, nc, np⟩ := made_pin J k hne ha hd na os ag
  refine wpAny_bind (wpAny_mono (hy.run _ s1 σ H' _ I1 q) (fun u2 s2 hu2 => wpAny_bind (wpAny_standAt (wpAny_pure ?_))) fun _ _ z => z)
  obtain ⟨v2, H2, J2, rv2, ev2, w2⟩ := hu2
  subst ev2
  obtain rfl : u2 = Value.ref pn.1 := rv2
  obtain ⟨ha3, na2, _⟩ := J2.pin (a, oe) (List.mem_append_right _ List.mem_cons_self)
  have n0 : X.s_0.heap.get? a = none := by
    cases q0 : X.s_0.heap.get? a with
    | none => rfl
    | some o =>
      obtain ⟨o', z⟩ := J.base.there a o q0 (by rw [hex]; simp)
      rw [hne] at z; cases z
  have J3 : Inv X pins σ H2 s2 := J2.pins_of fun p hp => J2.pin p (List.mem_append_right _ (List.mem_cons_of_mem _ hp))
  obtain ⟨G, gk, ge, JG⟩ := drop_one J3 na2 n0 nl nc np
  have P1 := (J3.pin pn (List.mem_append_left _ hpn)).1
  have nap : pn.1 ≠ a := np pn (List.mem_append_left _ hpn)
  obtain ⟨ha4, hd4⟩ := fromB_at (b := pn.1) ha3 hd
  have kf : ∀ c u, G.get? c = some u → (fromB s2.heap a pn.1).get? c = some u := fun c u z => by
    have nca : a ≠ c := fun y => by rw [← y, ge] at z; cases z
    rw [fromB_other nca]
    exact (gk c (Ne.symm nca)).symm.trans z
  obtain ⟨hh, vp, ep, cp⟩ := hot
  obtain ⟨r1, _⟩ := r (model X.prog X.w) s2.heap J3.kIn
  obtain ⟨_, r2⟩ := r (model X.prog X.w) (fromB s2.heap a pn.1) (JG.kIn.keeps kf)
  obtain ⟨r3, _⟩ := rb (model X.prog X.w) s2.heap J3.kIn
  refine ⟨a, pn.1, cls, oe, vs, rfl, rfl, ⟨ha3, hz.1, hd, h1, hi, r1, r2, ⟨pn.2, vp, pn.2.cls, P1, rfl, ep, r3⟩⟩, ?_⟩
  have hot4 : HotAt X.A pn.1 (fromB s2.heap a pn.1) := ⟨hh, pn.2, vp, by rw [fromB_other (Ne.symm nap)]; exact P1, ep, cp⟩
  refine raiseNew_hot (s := { s2 with heap := fromB s2.heap a pn.1 }) hot4 nap ha4 hd4 (by rw [set_size, set_size]; omega) (tk _ _ ?_)
  refine L2.XE.new (s' := { s2 with heap := (fromB s2.heap a pn.1).update a (Obj.mapFields (·.setIfInBounds 2 (.ref pn.1))) }) JG (fun c u z => ?_) ge (Heap.get?_update_self _ ha4 (Obj.isFreed_of_fields (Obj.data_mapFields hd4 _)))
    ⟨by rw [Obj.cls_mapFields, Obj.cls_mapFields, Obj.cls_mapFields]; exact hz.1, by rw [HandSPX.dict_mapFields, HandSPX.dict_mapFields, HandSPX.dict_mapFields]; exact hz.2.1⟩ (Obj.data_mapFields hd4 _) (set_other (by decide) (set_other (by decide) (set_other (by decide) h1))) na2 rfl J3.bare w2
  have nca : a ≠ c := fun y => by rw [← y, ge] at z; cases z
  show ((fromB s2.heap a pn.1).update a (Obj.mapFields (·.setIfInBounds 2 (.ref pn.1)))).get? c = some u
  rw [Heap.get?_update_other _ _ nca]
  exact kf c u z
end
end Dk
end
section
set_option Elab.async false
set_option linter.all false
set_option maxRecDepth 100000
set_option maxHeartbeats 4000000
/-! zip of a tuple and a list: a rule of my own over the library's WalksT.zipD2. -/
namespace Dk
open PySem PySem.Spec PyProof.Rows L2
/-- the tuple at a and the list at b, item by item, in new pairs -/
def ItM (K : PySem.W.Frag) (a b : Addr) : It where
  go i H := ∃ xs ys x y, SqT K H a xs ∧ SqL K H b ys ∧ xs[i]? = some x ∧ ys[i]? = some y
  yld i H v H' := ∃ T x y, v = .ref T ∧ H T = none ∧ H' = upd H T (.tup [x, y]) ∧ (∀ xs, SqT K H a xs → xs[i]? = some x) ∧ ∀ ys, SqL K H b ys → ys[i]? = some y
  stop i H := ∃ xs ys, SqT K H a xs ∧ SqL K H b ys ∧ xs.length = i ∧ ys.length = i
/-- where the zip's own five records stand -/
structure At5 (N a b : Addr) : Prop where
  a : a < N
  b : b < N
theorem At5.sep {N a b : Addr} (h : At5 N a b) : ZipSep2 (N + 4) (N + 2) (N + 3) N (N + 1) (N :: [a]) ((N + 1) :: [b]) :=
  zip_sep2 (fun c hc => by rw [List.mem_singleton.mp hc]; exact h.a) (fun c hc => by rw [List.mem_singleton.mp hc]; exact h.b)
def tnM (N a b : Addr) (i : Nat) (h : Heap) : Prop := IsZip h (N + 4) (N + 2) (N + 3) .none ∧ IsTupOf2 h (N + 2) (.ref N) (.ref (N + 1)) ∧ (∃ x y, IsTupOf2 h (N + 3) x y) ∧ h.IsTupleIter N a i ∧ h.IsListIter (N + 1) b i
abbrev fp5 (N : Addr) : List Addr := [N + 4, N + 2, N + 3, N, N + 1]
theorem fp5_le {N c : Addr} (h : c ∈ fp5 N) : N ≤ c := by
  simp only [List.mem_cons, List.mem_nil_iff, or_false] at h
  rcases h with z | z | z | z | z <;> (rw [z]; first | exact Nat.le_refl _ | exact Nat.le_add_right _ _)
theorem wr5 {N c : Addr} (hc : c ∉ fp5 N) : c ∉ [N + 4, N + 3, N, N + 1] := fun m => hc (by
  simp only [List.mem_cons, List.mem_nil_iff, or_false] at m ⊢
  rcases m with q | q | q | q
  · exact .inl q
  · exact .inr (.inr (.inl q))
  · exact .inr (.inr (.inr (.inl q)))
  · exact .inr (.inr (.inr (.inr q))))
theorem turnM {P : Program} {w : World} {K : PySem.W.Frag} {elts : List Expr} {kk : Nat} {tpos : Pos} {N a b : Addr} (h5 : At5 N a b) : Turn P w K (.Tuple elts kk tpos) (ItM K a b) (fp5 N) (N + 4) (tnM N a b) where
  mem := List.mem_cons_self ..
  obj := fun i h st c hc => by
    obtain ⟨z1, z2, ⟨x, y, z3⟩, ⟨o4, e4, _, d4⟩, ⟨o5, e5, _, d5⟩⟩ := st
    simp only [List.mem_cons, List.mem_nil_iff, or_false] at hc
    rcases hc with rfl | rfl | rfl | rfl | rfl
    · exact ⟨_, z1, fun v q => nomatch q⟩
    · exact ⟨_, z2, fun v q => nomatch q⟩
    · exact ⟨_, z3, fun v q => nomatch q⟩
    · exact ⟨o4, e4, fun v q => by rw [d4] at q; cases q⟩
    · exact ⟨o5, e5, fun v q => by rw [d5] at q; cases q⟩
  keep := fun i h h' st k => by
    obtain ⟨z1, z2, ⟨x, y, z3⟩, z4, z5⟩ := st
    exact ⟨k _ (by simp) _ z1, k _ (by simp) _ z2, ⟨x, y, k _ (by simp) _ z3⟩, z4.at fun o q => k _ (by simp) o q, z5.at fun o q => k _ (by simp) o q⟩
  item := by
    intro X hP hw hK hc i pins s σ H E I hf st hg
    subst hP hw hK
    obtain ⟨xs, ys, x, y, qx, qy, hx, hy⟩ := hg
    obtain ⟨its, rv, p, _⟩ := I.tuple qx
    obtain ⟨its2, rv2, p2, _⟩ := I.list qy
    obtain ⟨u, hu, ru⟩ := rv.get hx
    obtain ⟨u2, hu2, ru2⟩ := rv2.get hy
    obtain ⟨z1, z2, z3, z4, z5⟩ := st
    have hh := I.ok.hd hc
    have l1 := (List.getElem?_eq_some_iff.mp hu).1
    have l2 := (List.getElem?_eq_some_iff.mp hu2).1
    have Wk := WalksT.zipD2 (prog := X.prog) (w := X.w) (A := X.A) h5.sep (Draws.tuple (A := X.A.in1) hh N a (Nat.ne_of_lt h5.a) its.toArray) (Draws.list (A := X.A.in1) hh (N + 1) b (Nat.ne_of_lt (Nat.lt_succ_of_lt h5.b)) its2.toArray)
    refine Wk.item i s _ E (by simp; omega) ⟨z1, z2, z3, ⟨z4, p⟩, ⟨z5, p2.isList⟩⟩ fun T vals h' tk hv hT hTt hmid hk => ?_
    obtain ⟨w1, w2, e1, e2, rfl⟩ := hv
    refine ⟨.ref T, rfl, Wk.go elts kk tpos i T { s with heap := h', toks := tk } _ E hmid fun h'' hst hk2 => ?_⟩
    have eu : w1 = u := by
      have h : its[i]? = some w1 := by simpa using e1
      rw [hu] at h
      exact (Option.some.inj h).symm
    have eu2 : w2 = u2 := by
      have h : its2[i]? = some w2 := by simpa using e2
      rw [hu2] at h
      exact (Option.some.inj h).symm
    subst eu eu2
    have ap := Wk.apart i T h' hmid
    obtain ⟨o, ho, hoc, n, hod⟩ := hTt
    have new : ObjOk X.prog X.w (upd H T (.tup [x, y])) h'' T (.tup [x, y]) := ⟨by show 2 ≤ sizeLine; decide, [w1, w2], .cons ru (.cons ru2 .nil), ⟨o, hk2 T o ap ho, hoc, n, hod⟩⟩
    have wr5 : ∀ c, c ∉ fp5 N → c ∉ [N + 4, N + 3, N, N + 1] := fun c => wr5
    have I1 : Inv X pins σ (upd H T (.tup [x, y])) { s with heap := h'', toks := tk } := I.turnedNew (t' := tk) (ch := fp5 N) (fun c oc hc q => hk2 c oc (wr5 c hc) (hk c oc (wr5 c hc) q)) hf hT new
    obtain ⟨y1, y2, y3, y4, y5⟩ := hst
    refine ⟨.ref T, _, I1, rfl, ⟨T, x, y, rfl, I.hok.fresh hT, rfl, fun l hl => by rw [I.tuple_inj hl qx]; exact hx, fun l hl => by rw [I.list_inj hl qy]; exact hy⟩, ⟨y1, y2, y3, y4.1, y5.1⟩, fun c hcm => ?_⟩
    have nc : c ≠ T := fun z => by
      have hlt : ∀ {q : Addr} {oq : Obj}, s.heap.get? q = some oq → q < T := fun e => Nat.lt_of_lt_of_le (Heap.lt_size e) hT
      obtain ⟨_, _, e3⟩ := z3
      obtain ⟨_, e4, _⟩ := z4
      obtain ⟨_, e5, _⟩ := z5
      have g1 := hlt z1
      have g2 := hlt z2
      have g3 := hlt e3
      have g4 := hlt e4
      have g5 := hlt e5
      simp only [List.mem_cons, List.mem_nil_iff, or_false] at hcm
      rw [z] at hcm
      rcases hcm with q | q | q | q | q
      · rw [q] at g1; exact Nat.lt_irrefl _ g1
      · rw [q] at g2; exact Nat.lt_irrefl _ g2
      · rw [q] at g3; exact Nat.lt_irrefl _ g3
      · rw [q] at g4; exact Nat.lt_irrefl _ g4
      · rw [q] at g5; exact Nat.lt_irrefl _ g5
    rw [upd_ne nc]
    exact (hf c hcm).1
  done := by
    intro X hP hw hK hc i pins s σ H E I hf st hg
    subst hP hw hK
    obtain ⟨xs, ys, qx, qy, hend, hend2⟩ := hg
    obtain ⟨its, rv, p, _⟩ := I.tuple qx
    obtain ⟨its2, rv2, p2, _⟩ := I.list qy
    obtain ⟨z1, z2, z3, z4, z5⟩ := st
    have hh := I.ok.hd hc
    have l1 := rv.length
    have l2 := rv2.length
    have Wk := WalksT.zipD2 (prog := X.prog) (w := X.w) (A := X.A) h5.sep (Draws.tuple (A := X.A.in1) hh N a (Nat.ne_of_lt h5.a) its.toArray) (Draws.list (A := X.A.in1) hh (N + 1) b (Nat.ne_of_lt (Nat.lt_succ_of_lt h5.b)) its2.toArray)
    have e : min its.toArray.size its2.toArray.size = i := by simp; omega
    refine Wk.done s _ E (by rw [e]; exact ⟨z1, z2, z3, ⟨z4, p⟩, ⟨z5, p2.isList⟩⟩) fun h' tk hk => ⟨rfl, I.turnedL (t' := tk) (ch := fp5 N) (fun c o hc q => hk c o (wr5 hc) q) hf⟩
  self := fun A i s Q E st h => wpAny_pyIter_zip st.1 h
def iZipM (K : PySem.W.Frag) (ta : TA) : TI := fun σ H R => ta σ H fun vs H1 => ∃ a b xs ys, vs = [.ref a, .ref b] ∧ SqT K H1 a xs ∧ SqL K H1 b ys ∧ R (ItM K a b) H1
/-- zip(t, l), t a tuple, l a list -/
theorem pi_zipM {X : Cx} {e e2 : Expr} {ta : TA} {p pos tpos : Pos} {elts : List Expr} {kk : Nat} (hg : Gl X "zip") (hm : X.mg "zip" = none) (ha : PA X [e, e2] ta)
    (hs : starEach [e, e2] X.env = (false, eval e X.env) :: starEach [e2] X.env := by rfl) (hpl : (backTo pos (starEach [e2] X.env)).any (·.1) = false := by rfl) :
    PI X (.Tuple elts kk tpos) (.Call (.Name "zip" p) [e, e2] [] pos) (iZipM X.K ta) := by
  refine ⟨fun pins s σ H R I h => ?_⟩
  refine Call_ (ld_blt I hg hm PyProof.Rows.boot_zip (PyProof.Rows.callWith_type1 (thn (ha.run pos pins s σ H _ I h) fun us s1 ⟨vs, H1, I1, r1, q1⟩ => ?_) hs hpl))
  obtain ⟨a, b, xs, ys, rfl, qx, qy, q⟩ := q1
  obtain ⟨u1, u2, rfl, ra, rb⟩ := vals2 r1
  cases (show u1 = Value.ref a from ra)
  cases (show u2 = Value.ref b from rb)
  obtain ⟨its, rv, p1, _⟩ := I1.tuple qx
  obtain ⟨its2, rv2, p2, _⟩ := I1.list qy
  obtain ⟨o1, ho1, _⟩ := id p1
  refine zip_begins2 (begins_tuple a its.toArray) (begins_list b its2.toArray) p1 p2.isList fun h' z1 z2 z3 z4 z5 _ hk => wpAny_pyIter_zip z1 ?_
  have I2 : Inv X pins σ H1 { s1 with heap := h' } := I1.kept (t' := s1.toks) hk
  refine ⟨s1.heap.objs.size + 4, fp5 s1.heap.objs.size, _, _, H1, rfl, I2, turnM ⟨Heap.lt_size ho1, p2.lt⟩, ⟨z1, z2, ⟨_, _, z3⟩, ⟨_, z4, rfl, rfl⟩, ⟨_, z5, rfl, rfl⟩⟩, fun c hcm => ?_, q⟩
  exact I1.fpOk (fp5_le hcm) (I1.hok.fresh (fp5_le hcm))
theorem for_zipM {K : PySem.W.Frag} {a b : Addr} {xs ys : List V} {g : TG} {tb : TS} {D : Ends} {σ : L2.St} {H : Hp} (hl : xs.length = ys.length) (Pv : Nat → L2.St → Hp → Prop) (h0 : Pv 0 σ H) (hq : ∀ i σ H, Pv i σ H → SqT K H a xs ∧ SqL K H b ys)
    (hs : ∀ (i : Nat) (x y : V) (σ : L2.St) (H : Hp), xs[i]? = some x → ys[i]? = some y → Pv i σ H → ∀ T, H T = none → g (.ref T) σ (upd H T (.tup [x, y])) fun σ2 H2 => tb { D with nx := Pv (i + 1), ct := Pv (i + 1), bk := D.nx } σ2 H2) (hd : ∀ σ H, Pv xs.length σ H → D.nx σ H) :
    ∃ W : Nat → Nat → L2.St → Hp → Prop, (∃ m, W 0 m σ H) ∧ ∀ i m σ H, W i m σ H →
      ((ItM K a b).stop i H ∧ D.nx σ H) ∨ ((ItM K a b).go i H ∧ ∃ N : L2.St → Hp → Prop, (∀ σ' H', N σ' H' → ∃ m', m' < m ∧ W (i + 1) m' σ' H') ∧ ∀ v H', (ItM K a b).yld i H v H' → g v σ H' fun σ2 H2 => tb { D with nx := N, ct := N, bk := D.nx } σ2 H2) := by
  refine ⟨fun i m σ H => m = xs.length - i ∧ i ≤ xs.length ∧ Pv i σ H, ⟨xs.length, rfl, Nat.zero_le _, h0⟩, ?_⟩
  rintro i m σ H ⟨rfl, hi, p⟩
  obtain ⟨qx, qy⟩ := hq i σ H p
  by_cases hlt : i < xs.length
  · have hx : xs[i]? = some xs[i] := List.getElem?_eq_getElem hlt
    have hy : ys[i]? = some (ys[i]'(by omega)) := List.getElem?_eq_getElem (by omega)
    refine .inr ⟨⟨xs, ys, _, _, qx, qy, hx, hy⟩, Pv (i + 1), fun σ' H' p' => ⟨xs.length - (i + 1), by omega, rfl, hlt, p'⟩, fun v H' y => ?_⟩
    obtain ⟨T, x', y', rfl, hT, rfl, f1, f2⟩ := y
    exact hs i x' y' σ H (f1 xs qx) (f2 ys qy) p T hT
  · have e : i = xs.length := by omega
    subst e
    exact .inl ⟨⟨xs, ys, qx, qy, rfl, hl.symm⟩, hd σ H p⟩
end Dk
end
section
set_option Elab.async false
set_option linter.all false
set_option maxRecDepth 100000
set_option maxHeartbeats 4000000
/-! Small rules of my own. -/
namespace Dk
open PySem PySem.Spec PyProof.Rows L2
section
variable {X : Cx} {x : Str} {pos : Pos}
/-- a module's whole number, text -/
theorem pe_gI {i : Int} (hm : ∃ t, X.mg x = some (.int i t)) (hg : Gl X x := by rfl) (hd : (x == ("__debug__" : Str)) = false := by decide) : PE X (.Name x pos) (tC (.int i)) := by
  obtain ⟨t, h⟩ := hm
  exact pe_glob hg h ⟨t, rfl⟩ hd
theorem pe_gS {z : Str} (hm : ∃ t, X.mg x = some (.str z t)) (hg : Gl X x := by rfl) (hd : (x == ("__debug__" : Str)) = false := by decide) : PE X (.Name x pos) (tC (.str z)) := by
  obtain ⟨t, h⟩ := hm
  exact pe_glob hg h ⟨t, rfl⟩ hd
theorem pe_gR {a : Addr} (hm : X.mg x = some (.ref a)) (hg : Gl X x := by rfl) (hd : (x == ("__debug__" : Str)) = false := by decide) : PE X (.Name x pos) (tC (.ref a)) := pe_glob hg hm rfl hd
end
section
variable {X : Cx} {CX : CXT} {k : Nat} {f C : Addr} {fd : FuncData} {ps : List Str} {sp : Sp} {E : L2.St → XK} {m : Str} {apos pos : Pos} {o : Expr} {ta : TE}
def tMethS0 (C : Addr) (m : Str) (sp : Sp) (E : L2.St → XK) (ta : TE) : TE := fun σ H Q => ta σ H fun x H1 => ∃ a dx fs, x = .ref a ∧ H1 a = some (.ins C dx fs) ∧ fs.lookup m = none ∧ sp [.ref a] H1 Q (E σ)
/-- o.m(), where what is raised depends on the slots -/
theorem pe_meth0S {pl : Sem Bool} (he : PE X o ta) (c : Cls X.K C) (hm : Meth X.K C m f) (F : FnOk X.prog X.w X.K X.mg X.base CX k f fd ps sp) (hr : Room k X.A) (hb : Binds X.K fd ps []) (hx : ∀ σ, PassesAt CX X σ (E σ))
    (ht : eval (.Call (.Attribute o m apos) [] [] pos) X.env = (do
      let ov ← eval o X.env
      standAt apos.atName
      let (f, first) ← holding [ov] (getMethod ov m pl)
      callWith pos f first (backTo pos (starEach [] X.env)) (backToKw pos (keywordEach [] X.env))) := by rfl) :
    PE X (.Call (.Attribute o m apos) [] [] pos) (tMethS0 C m sp E ta) := by
  refine ⟨fun pins s σ H Q I h => ?_⟩
  refine PySem.W.methodCall_KW (pl := pl) (thn (he.run pins s σ H _ I h) fun u s1 ⟨x, H1, I1, rx, a, dx, fs, ex, ea, l, q⟩ => ?_) ht
  subst ex
  obtain rfl : u = Value.ref a := rx
  refine getmeth_ok I1 ea c hm l ?_
  exact PySem.W.callWith_K0 (first := [.ref a]) I1.kIn hm.kp (run_fnS (us := [.ref a]) (vs := [.ref a]) F hr hb (hx σ) I1 (.cons rfl .nil) q)
end
section
variable {X : Cx} {C : Addr} {bmB : List Value} {B newId initId : String}
/-- X() -/
theorem pmk_own0 {x : Str} {p pos : Pos} (F : ExcBaseFacts B newId initId bmB) (q : PySem.W.excIn X.K C bmB newId = true) (gC : X.mg x = some (.ref C)) (kC : PySem.W.keepIn X.K (.ref C) = true) (r : Raises X (.ref C)) (hg : Gl X x := by rfl)
    (hdb : (x == ("__debug__" : Str)) = false := by decide) : L2N.PMk X (.Call (.Name x p) [] [] pos) (fun _ H Q => Q (.ref C) none H) := by
  intro pins s σ H Q I h
  refine wpAny_Call_Name_kw (ld_glob I hg gC ?_ hdb)
  refine PySem.W.callWith_K0 (first := []) I.kIn kC ?_
  obtain ⟨bm, N, nm, qn, bs, hdct, sn, sub, ab, col, dd, k0, k1, k2, k3, k5, mN, hC, hN, hni, T⟩ := exc_obj I.kIn q
  refine wpAny_call_exc_subT F T hC hN hni (fun h' e hm => ?_) (by show 0 ≤ sizeLine; exact Nat.zero_le _)
  exact L2N.mk_of I hm r h (I.hok.gone hm.new)
end
end Dk
end
section
set_option Elab.async false
set_option linter.all false
set_option maxRecDepth 100000
set_option maxHeartbeats 400000
/-! own[i] = v: a rule of my own. -/
namespace Dk
open PySem PySem.Spec PyProof.Rows L2
section
variable {X : Cx} {CX : CXT} {k : Nat} {f C : Addr} {fd : FuncData} {ps : List Str} {sp : Sp} {E : XK}
def rSetOwn (C : Addr) (sp : Sp) (E : XK) : TSet := fun o i v H Q => ∃ a dx fs, o = .ref a ∧ H a = some (.ins C dx fs) ∧ sp [.ref a, i, v] H (fun _ H' => Q H') E
theorem set_own (hm : Meth X.K C "__setitem__" f) (hq : PySem.W.noSeq X.K C = true) (F : FnOk X.prog X.w X.K X.mg X.base CX k f fd ps sp) (hr : Room k X.A) (hb : Binds X.K fd ps []) (hx : Passes CX X E) : PSet X (rSetOwn C sp E) := by
  intro pins s σ H o i v ov iv u Q I ro ri rv h
  obtain ⟨a, dx, fs, rfl, ea, q⟩ := h
  obtain rfl : ov = Value.ref a := ro
  obtain ⟨mA, O, _⟩ := ins_get I.hok ea
  obtain ⟨od, J, _⟩ := O.look
  obtain ⟨m, F0⟩ := I.fr
  refine PySem.W.ksp_setItem F0 I.ok.mod.kin J hq hm.at_ hm.fn ?_
  refine wpAny_mono (run_fn (dvs := []) (ds := []) (vs := [.ref a, i, v]) F hr hb .nil hx I (.cons rfl (.cons ri (.cons rv .nil))) q) (fun v2 s2 ⟨w2, H2, I2, _, q2⟩ => ⟨H2, I2, q2⟩) fun _ _ z => z
end
end Dk
end
section
set_option Elab.async false
set_option linter.all false
set_option maxRecDepth 100000
set_option maxHeartbeats 4000000
/-! try .. except X as n, where the suite raises: a rule of my own over the layer. -/
namespace Dk
open PySem PySem.Spec PyProof.Rows L2 L2H HotX
theorem takes_zn {X : Cx} {W : WX} (tk : L2.Takes X W) : L2N.Takes X W := fun u s' ⟨a, B, sI, pins, σ, H, cls, d, e, I, nb, up, sky, na, os, ag, w⟩ =>
  tk u s' ⟨a, B, sI, pins, σ, H, cls, d, e, I, nb, up, (by
    rcases sky with ⟨hB, hn, hl, oe, vs, he, hz, hd, h1⟩ | fl | hh
    · exact .inl ⟨hB, hn, hl, oe, vs, he, hz.zc, hd, h1⟩
    · exact .inr (.inl (flyingZ_imp (fun _ z => z.zc) fl))
    · exact .inr (.inr ⟨hh.1, hh.2.1, hh.2.2.1, tracedZ_imp (fun _ z => z.zc) hh.2.2.2⟩)), na, os, ag, w⟩
section
variable {h h' base : Heap} {e L : Addr} {Z : Obj → Prop} {fl : Value} {m m' : Str → Option Value} {l : List Env}
theorem traced_same (x : HandSPX.TracedZ h base e Z fl) (hn : h.Ns L m) (hs : Heap.SameBut L h h') : HandSPX.TracedZ h' base e Z fl := by
  obtain ⟨oe, vs, T, oT, ts, he, hz, hd, h1, hnT, hTe, hT, hdT, h3⟩ := x
  obtain ⟨oL, es, ep, hoL, hdL, _⟩ := hn
  have neE : e ≠ L := fun q => by
    rw [q, hoL] at he
    have z := Option.some.inj he
    rw [← z, hdL] at hd
    cases hd
  have neT : T ≠ L := fun q => by
    rw [q, hoL] at hT
    have z := Option.some.inj hT
    rw [← z, hdL] at hdT
    cases hdT
  exact ⟨oe, vs, T, oT, ts, (hs.2 e neE).trans he, hz, hd, h1, hnT, hTe, (hs.2 T neT).trans hT, hdT, h3⟩
theorem held_same {env : Env} {outer : List Env} (hh : HandSPX.HeldZ base (env :: outer) e Z L h) (hf : env.frame = some L) (hn : h.Ns L m) (hn' : h'.Ns L m') (hs : Heap.SameBut L h h') : HandSPX.HeldZ base (env :: outer) e Z L h' := by
  obtain ⟨b1, b0, f1, t1⟩ := hh
  have hbL : base.get? L = none := by
    obtain ⟨_, ⟨L', _, hf', hb', _⟩, _⟩ := f1
    rw [hf] at hf'
    rw [Option.some.inj hf']
    exact hb'
  exact ⟨fun b o hb => (hs.2 b fun q => by rw [q, hbL] at hb; cases hb).trans (b1 b o hb), b0, Heap.FunFrames.sameBut hs hn' f1, traced_same t1 hn hs⟩
end
section
variable {X : Cx} {pins : List (Addr × Obj)} {σ : L2.St} {H : Hp} {s : Shared}
/-- the state with what is not ours left out -/
theorem drop_set {p : Addr → Bool} (I : Inv X pins σ H s) (hex : X.ex = []) (n0 : ∀ b o, X.s_0.heap.get? b = some o → p b = true) (nH : ∀ b u, H b = some u → p b = true) (nl : p X.env.locals = true)
    (nc : ∀ x c, X.env.cells.lookup x = some c → p c = true) (np : ∀ q ∈ X.pn ++ pins, p q.1 = true) :
    ∃ G : Heap, (∀ b, p b = true → G.get? b = s.heap.get? b) ∧ (∀ b, p b = false → G.get? b = none) ∧ Inv X pins σ H { s with heap := G } := by
  obtain ⟨G, gk, ge⟩ := restrict s.heap p
  obtain ⟨m, hn, hl⟩ := I.loc
  refine ⟨G, gk, ge, ⟨I.ok, I.os, I.bare, ⟨fun b o e n hb hx => ?_, fun b o e n hb hx => ?_, I.base.free, fun b o e hx => ?_, I.base.tups, I.base.frzs, I.base.tbls⟩, ⟨m, ?_, fun i y v e1 e2 e3 => ?_⟩, fun y c e => ?_, I.free, I.freeC, fun q hq => ?_, fun b u e => ?_, I.len⟩⟩
  · exact (gk b (n0 b o e)).trans (I.base.keep b o e n hb hx)
  · obtain ⟨sl, z⟩ := I.base.slot b o e n hb hx
    exact ⟨sl, (gk b (n0 b o e)).trans z⟩
  · obtain ⟨o', z⟩ := I.base.there b o e hx
    exact ⟨o', (gk b (n0 b o e)).trans z⟩
  · obtain ⟨o, es, ep, e, r⟩ := hn
    exact ⟨o, es, ep, (gk _ nl).trans e, r⟩
  · obtain ⟨u, r, q⟩ := hl i y v e1 e2 e3
    refine ⟨u, r, ?_⟩
    rcases q with q | ⟨k, c, e, o, z, d⟩
    · exact .inl q
    · exact .inr ⟨k, c, e, o, (gk c (nc y c e)).trans z, d⟩
  · obtain ⟨v, o, z, d⟩ := I.cell y c e
    exact ⟨v, o, (gk c (nc y c e)).trans z, d⟩
  · obtain ⟨e, r⟩ := I.pin q hq
    exact ⟨(gk q.1 (np q hq)).trans e, r⟩
  · refine (I.hok b u e).stay (fun c v hc q => (gk c ?_).trans q) (fun _ q => q) fun _ _ q => q
    rcases hc with z | z
    · rw [z]; exact nH b u e
    · exact nH c _ z
end
/-- what 'except x as n' (n in slot i) wishes where the suite may raise -/
def wAsX (K : PySem.W.Frag) (c : Value) (i : Nat) (Good : Value → Prop) (ts : Addr → Value → Option Addr → TS) (Wout : WX) (D : Ends) : WX := fun cls d σ H =>
  ∃ b, PySem.W.exmOne K cls c = some b ∧ (b = true → Good cls ∧ ∀ a, H a = none → ts a cls d { nx := fun σ' H' => D.nx (σ'.set i none) H', rt := D.rt, bk := fun σ' H' => D.bk (σ'.set i none) H', ct := fun σ' H' => D.ct (σ'.set i none) H' } (σ.set i (some (.ref a))) H) ∧
    (b = false → Wout cls d σ H)
/-- what the suite lets out: the name is gone -/
def wGone (i : Nat) (W : WX) : WX := fun cls d σ H => W cls d (σ.set i none) H
/-- the suite's errors: noted, the name goes, passed on -/
def xeAs (X : Cx) (a : Addr) (n : Str) (pos : Pos) : Value → Shared → Prop := fun x s₃ =>
  wpAny (model X.prog X.w) (X.A.mark (some (.ref a))) (noteFrame x X.env) (fun _ s₃' =>
    wpAny (model X.prog X.w) (X.A.mark (some (.ref a))) (do bindName X.env n .none; unbindBehindTheSuite X.env n pos)
      (fun _ s₄ => wpAny (model X.prog X.w) (X.A.mark (some (.ref a))) (passOn "try.except-as" x X.env : Sem Flow) (fun _ _ => False) (notedBy (model X.prog X.w) (X.A.mark (some (.ref a))) X.env (cameBackBy (model X.prog X.w) X.A X.env X.xe)) s₄)
      (fun y s₄ => wpAny (model X.prog X.w) (X.A.mark (some (.ref a))) (setFlight x none) (fun _ s₅ => (notedBy (model X.prog X.w) (X.A.mark (some (.ref a))) X.env (cameBackBy (model X.prog X.w) X.A X.env X.xe)) y s₅) (notedBy (model X.prog X.w) (X.A.mark (some (.ref a))) X.env (cameBackBy (model X.prog X.w) X.A X.env X.xe)) s₄) s₃')
    (notedBy (model X.prog X.w) (X.A.mark (some (.ref a))) X.env (cameBackBy (model X.prog X.w) X.A X.env X.xe)) s₃
abbrev suiteY (X : Cx) (a : Addr) (n : Str) (pos : Pos) (pn : List (Addr × Obj)) : Cx := { X with A := X.A.mark (some (.ref a)), calm := false, pn := pn, xe := xeAs X a n pos }
section
variable {X : Cx} {pins : List (Addr × Obj)} {σ : L2.St} {H : Hp} {s : Shared} {a : Addr} {n : Str} {pos : Pos}
theorem suiteY_of {pn pn' : List (Addr × Obj)} (I : Inv (X.suite a pn) pn' σ H s) : Inv (suiteY X a n pos pn) pn' σ H s := Inv.unwish (X := suiteY X a n pos pn) (E := fun _ _ => False) I
theorem unsuiteY {q : Addr × Obj} {pn' : List (Addr × Obj)} (I : Inv (suiteY X a n pos (q :: (X.pn ++ pins))) pn' σ H s) (ok : X.Ok) : Inv X pins σ H s :=
  Inv.unsuite (X := X) (a := a) (q := q) (pn' := pn') (show Inv (X.suite a (q :: (X.pn ++ pins))) pn' σ H s from I.wish fun _ _ => False) ok
theorem takesY {Wout : WX} {i : Nat} {q : Addr × Obj} (ok : X.Ok) (hs : X.stack = X.env :: X.outer) (hf : X.env.frame = some X.env.locals) (hex : X.ex = []) (hN : X.N.Nodup) (hi : X.N[i]? = some n) (hln : X.env.kindOf n = some .local)
    (hpa : ∀ hd : Option Value, PassesOwnAt (model X.prog X.w) (X.A.mark hd) X.A X.env X.xe) (tk : L2.Takes X Wout) : L2.Takes (suiteY X a n pos (q :: (X.pn ++ pins))) (wGone i Wout) := by
  intro u s' x
  obtain ⟨a2, B2, sI, pn2, σ2, H2, cls, d, rfl, I2, nb, up, sky, na, os, ag, w⟩ := x
  have I : Inv X pins σ2 H2 sI := unsuiteY I2 ok
  have hfr : (X.A.mark (some (.ref a))).frames = some (X.env :: X.outer) := by
    show X.A.frames = _
    rw [ok.frames, hs]
  have sky' : L2.Sky B2 (X.env :: X.outer) a2 (Zc cls d) X.env.locals s'.heap := by rw [← hs]; exact sky
  have hcls : (X.env.scope.kind == .class || (X.env.scope.kind == .module && X.env.locals != X.env.globals)) = false := by rw [I.ok.kind]; rfl
  show wpAny (model X.prog X.w) (X.A.mark (some (.ref a))) (noteFrame (.ref a2) X.env) _ _ s'
  have fin : ∀ h1, HandSPX.HeldZ B2 (X.env :: X.outer) a2 (Zc cls d) X.env.locals h1 → s'.heap.UpToSlots h1 →
      wpAny (model X.prog X.w) (X.A.mark (some (.ref a))) (do bindName X.env n .none; unbindBehindTheSuite X.env n pos)
        (fun _ s₄ => wpAny (model X.prog X.w) (X.A.mark (some (.ref a))) (passOn "try.except-as" (.ref a2) X.env : Sem Flow) (fun _ _ => False) (notedBy (model X.prog X.w) (X.A.mark (some (.ref a))) X.env (cameBackBy (model X.prog X.w) X.A X.env X.xe)) s₄)
        (fun y s₄ => wpAny (model X.prog X.w) (X.A.mark (some (.ref a))) (setFlight (.ref a2) none) (fun _ s₅ => (notedBy (model X.prog X.w) (X.A.mark (some (.ref a))) X.env (cameBackBy (model X.prog X.w) X.A X.env X.xe)) y s₅) (notedBy (model X.prog X.w) (X.A.mark (some (.ref a))) X.env (cameBackBy (model X.prog X.w) X.A X.env X.xe)) s₄) { s' with heap := h1 } := fun h1 hh up1 => by
    have J : Inv X pins σ2 H2 { s' with heap := h1 } := I.landed nb hh.1 (up.trans up1) os ag
    obtain ⟨m1, hn1, _⟩ := id J.loc
    -- the names go, told of the state with the error in it
    have go : wpAny (model X.prog X.w) (X.A.mark (some (.ref a))) (do bindName X.env n .none; unbindBehindTheSuite X.env n pos) (fun _ s4 => Inv X pins (σ2.set i none) H2 s4 ∧ ∃ h' m', s4 = { s' with heap := h', toks := s4.toks } ∧ h'.Ns X.env.locals m' ∧ Heap.SameBut X.env.locals h1 h') (fun _ _ => False) { s' with heap := h1 } := by
      have e1 : wpAny (model X.prog X.w) (X.A.mark (some (.ref a))) (do bindName X.env n .none; unbindBehindTheSuite X.env n pos) (fun _ s4 => ∃ h' m', s4 = { s' with heap := h', toks := s'.toks + 1 } ∧ h'.Ns X.env.locals m' ∧ Heap.SameBut X.env.locals h1 h' ∧ ∀ y, m' y = if y = n then m' n else m1 y) (fun _ _ => False) { s' with heap := h1 } := by
        refine wpAny_nameGoes_keeps hln hn1 hcls fun h' v hn' hs' => ⟨h', _, rfl, hn', hs', fun y => ?_⟩
        by_cases hy : y = n
        · rw [if_pos hy, if_pos hy, if_pos rfl]
        · rw [if_neg hy, if_neg hy]
      refine wpAny_mono e1 (fun _ s4 ⟨h', m', e, hn', hs', hm⟩ => ?_) fun _ _ z => z
      subst e
      refine ⟨?_, h', m', rfl, hn', hs'⟩
      obtain ⟨m, hn, hlk⟩ := id J.loc
      obtain ⟨oL, _, _, hoL, _⟩ := id hn
      have neL : ∀ b o, X.s_0.heap.get? b = some o → b ≠ X.env.locals := fun b o e => Nat.ne_of_lt (Nat.lt_of_lt_of_le (Heap.lt_size e) J.ok.above)
      have mm : ∀ y, m1 y = m y := fun y => by
        obtain ⟨o1, es1, ep1, g1, d1, k1, q1⟩ := hn1
        obtain ⟨o2, es2, ep2, g2, d2, k2, q2⟩ := hn
        have z := Option.some.inj (g1.symm.trans g2)
        subst z
        have z2 := d1.symm.trans d2
        cases z2
        rw [← q1 y, ← q2 y]
      refine ⟨J.ok, J.os, J.bare, ⟨fun b o e nn hb hx => ?_, fun b o e nn hb hx => ?_, J.base.free, fun b o e hx => ?_, J.base.tups, J.base.frzs, J.base.tbls⟩, ⟨_, hn', fun j y v' e1 e2 e3 => ?_⟩, fun y c e => ?_, J.free, J.freeC, fun p hp => ?_, fun b ob e => ?_, by simpa using J.len⟩
      · exact (hs'.2 b (neL b o e)).trans (J.base.keep b o e nn hb hx)
      · obtain ⟨sl, e1⟩ := J.base.slot b o e nn hb hx
        exact ⟨sl, (hs'.2 b (neL b o e)).trans e1⟩
      · obtain ⟨o', e1⟩ := J.base.there b o e hx
        exact ⟨o', (hs'.2 b (neL b o e)).trans e1⟩
      · by_cases hj : j = i
        · subst hj
          by_cases hlt : j < σ2.length
          · rw [List.getElem?_set_self hlt] at e2; cases e2
          · rw [List.getElem?_eq_none (by simpa using hlt)] at e2; cases e2
        · rw [List.getElem?_set_ne (Ne.symm hj)] at e2
          obtain ⟨u', r', q⟩ := hlk j y v' e1 e2 e3
          refine ⟨u', r', ?_⟩
          rcases q with ⟨k, e⟩ | ⟨k, c, e, z⟩
          · have ny : y ≠ n := fun e => hj (nodup_ix hN e1 (e ▸ hi))
            refine .inl ⟨k, ?_⟩
            rw [hm y, if_neg ny, mm y]
            exact e
          · exact .inr ⟨k, c, e, z.sameBut hs' (J.cne y c e)⟩
      · obtain ⟨w', z⟩ := J.cell y c e
        exact ⟨w', z.sameBut hs' (J.cne y c e)⟩
      · obtain ⟨e, nn, ne, nf, dd⟩ := J.pin p hp
        exact ⟨(hs'.2 p.1 ne).trans e, nn, ne, nf, dd⟩
      · refine (J.hok b ob e).stay (fun c w' hc q => (hs'.2 c ?_).trans q) (fun _ q => q) fun _ _ q => q
        intro z
        subst z
        rcases hc with hc | hc
        · rw [← hc, J.free] at e; cases e
        · rw [J.free] at hc; cases hc
    refine wpAny_mono go (fun _ s4 hs4 => ?_) fun _ _ z => z.elim
    obtain ⟨J4, h', m', e4, hn', hs'⟩ := hs4
    have hh' : HandSPX.HeldZ B2 (X.env :: X.outer) a2 (Zc cls d) X.env.locals h' := held_same hh hf hn1 hn' hs'
    -- the state without the error
    have pI : ∀ b o, sI.heap.get? b = some o → (sI.heap.get? b).isSome = true := fun b o e => by rw [e]; rfl
    obtain ⟨G, gk, ge, JG⟩ := drop_set (p := fun b => (sI.heap.get? b).isSome) J4 hex (fun b o e => by
        obtain ⟨o', z⟩ := I.base.there b o e (by rw [hex]; simp)
        exact pI b o' z) (fun b u' e => by
        obtain ⟨o', z⟩ := objOk_get (I.hok b u' e)
        exact pI b o' z) (by
        obtain ⟨_, ⟨o, _, _, e, _⟩, _⟩ := I.loc
        exact pI _ o e) (fun y c e => by
        obtain ⟨_, o, z, _⟩ := I.cell y c e
        exact pI c o z) (fun p hp => pI p.1 p.2 (I.pin p hp).1)
    have h4 : s4.heap = h' := by rw [e4]
    have gs : ∀ b o, G.get? b = some o → h'.get? b = some o ∧ (sI.heap.get? b).isSome = true := fun b o e => by
      cases z : (sI.heap.get? b).isSome with
      | true =>
        have := gk b z
        rw [h4] at this
        exact ⟨this ▸ e, rfl⟩
      | false => rw [ge b z] at e; cases e
    have nbG : ∀ b o, G.get? b = some o → b ∉ frs X.stack → B2.get? b = some o := fun b o e hb => by
      obtain ⟨e1, e2⟩ := gs b o e
      obtain ⟨o', z⟩ := Option.isSome_iff_exists.mp e2
      have q := nb b o' z hb
      have q2 := hh'.1 b o' q
      rw [e1] at q2
      cases q2
      exact q
    obtain ⟨oe, vs, T, oT, ts, he, hz, hd, h1', r⟩ := hh'.2.2.2
    rw [← h4] at he
    unfold PySem.passOn
    refine wpAny_bind (wpAny_field he hd h1' ?_)
    rw [if_neg (show ¬ ((Value.ref T == Value.none) = true) from by simp)]
    have fin2 : wpAny (model X.prog X.w) (X.A.mark (some (.ref a))) (setFlight (.ref a2) X.env.frame) (fun _ s5 => wpAny (model X.prog X.w) (X.A.mark (some (.ref a))) (throw (.ref a2) : Sem Flow) (fun _ _ => False) (notedBy (model X.prog X.w) (X.A.mark (some (.ref a))) X.env (cameBackBy (model X.prog X.w) X.A X.env X.xe)) s5) (notedBy (model X.prog X.w) (X.A.mark (some (.ref a))) X.env (cameBackBy (model X.prog X.w) X.A X.env X.xe)) s4 := by
      rw [hf]
      refine HandSPX.setFlight_onZ (base := B2) (l := X.env :: X.outer) (Z := Zc cls d) (by rw [h4]; exact hh') fun h5 hh5 up5 => wpAny_throw (hpa _ _ _ (tk _ _ ?_))
      refine ⟨a2, B2, { s4 with heap := G }, pins, σ2.set i none, H2, cls, d, rfl, JG, nbG, ?_, .inr (.inr (by rw [hs]; exact hh5)), na, rfl, J4.bare, w⟩
      refine Heap.UpToSlots.trans (Heap.UpToSlots.of_keeps fun b o e => ?_) up5
      rw [h4]
      exact (gs b o e).1
    first
      | exact wpAny_bind (wpAny_pure (wpAny_bind fin2))
      | exact wpAny_bind fin2
  rcases sky' with ⟨hB, hnn, hl, oe, vs, he, hz, hd, h1⟩ | fl | hh
  · exact HandSPX.look_newZ Zc.steady hfr hl hf he hB hnn hd h1 hz fin
  · exact HandSPX.looks_onZ Zc.steady hfr hf fl fin
  · exact HandSPX.againZ hf hh.2.2.2 (fin s'.heap hh (Heap.UpToSlots.refl _))
end
section
variable {X : Cx} {x n : Str} {c : Value} {i : Nat} {body suite : List Stmt} {b₀ : Stmt} {np pos pos' : Pos} {tb : WX → TS} {ts : Addr → Value → Option Addr → TS} {Wout : WX} {Good : Value → Prop}
theorem ps_try_asX (hs : X.stack = X.env :: X.outer) (hf : X.env.frame = some X.env.locals) (hex : X.ex = []) (hN : X.N.Nodup) (hi : X.N[i]? = some n) (hln : X.env.kindOf n = some .local) (hc : Names X x c)
    (hpa : ∀ hd : Option Value, PassesOwnAt (model X.prog X.w) (X.A.mark hd) X.A X.env X.xe) (tk : L2.Takes X Wout)
    (hb : ∀ (W : WX) (pn : List (Addr × Obj)) (xe : Value → Shared → Prop), L2N.Takes (X.tr pn xe) W → PassesOwn (model X.prog X.w) X.A X.env xe → PSs (X.tr pn xe) body (tb W))
    (hsu : ∀ (a : Addr) (oe : Obj) (cls : Value) (d : Option Addr) (pn : List (Addr × Obj)), L2N.Zn cls d oe → Good cls → L2.Takes (suiteY X a n pos' ((a, oe) :: pn)) (wGone i Wout) → Hot1 (suiteY X a n pos' ((a, oe) :: pn)).A (a, oe) →
      PSs (suiteY X a n pos' ((a, oe) :: pn)) (b₀ :: suite) (ts a cls d)) :
    PS X (.Try body [.ExceptHandler (some (.Name x np)) (some n) (b₀ :: suite) pos'] [] [] pos) (fun D σ H => tb (wAsX X.K c i Good ts Wout D) D σ H) := by
  refine ⟨fun pins s σ H D I h => ?_⟩
  have ok := I.ok
  have hfr : X.A.frames = some (X.env :: X.outer) := by rw [ok.frames, hs]
  have hloc : Loc X.env.scope n := .inl hln
  refine wpAny_Try_except ?_
  refine wpAny_mono ((hb (wAsX X.K c i Good ts Wout D) (X.pn ++ pins) (fun e s₁ => wpAny (model X.prog X.w) X.A (noteFrame e X.env) (fun _ s₂ => wpAny (model X.prog X.w) X.A (setFlight e none) (fun _ s₃ =>
    wpAny (model X.prog X.w) X.A (handleBy e X.env [.ExceptHandler (some (.Name x np)) (some n) (b₀ :: suite) pos']) (SP X pins D) X.xe s₃) X.xe s₂) X.xe s₁) (fun u s' xx => ?_) PassesOwn.looking).run [] s σ H D (I.toTry _) h) (fun f s1 hsp => ?_) (fun e s1 he => he)
  · obtain ⟨a, B, sI, pins', σ', H', cls, d, rfl, J', nb, up, sky, na, os, ag, b, hb1, hyes, hno⟩ := xx
    have J : Inv X pins σ' H' sI := J'.ofTry ok
    have sky' : Sky B (X.env :: X.outer) a (L2N.Zn cls d) X.env.locals s'.heap := by rw [← hs]; exact sky
    show wpAny (model X.prog X.w) X.A (noteFrame (.ref a) X.env) _ _ _
    refine L2N.Sky.land L2N.Zn.steady hfr hf sky' fun h3 fl3 up3 => ?_
    have J3 : Inv X pins σ' H' { s' with heap := h3 } := J.landed nb fl3.1 (up.trans up3) os ag
    obtain ⟨oe3, vs3, he3, hz3, hd3⟩ := fl3.there
    have notFr : ∀ {h : Heap} {o : Obj} {vs : Array Value}, h.FunFrames B (X.env :: X.outer) → h.get? a = some o → o.data = .fields vs → a ∉ frs (X.env :: X.outer) := fun {h o vs} ff e dd hm => by
      obtain ⟨_, o', e', hnf⟩ := ff.mem hm
      rw [e] at e'; cases e'
      exact hnf _ dd
    have nfr := notFr fl3.2.2.1 he3 hd3
    have nL : a ≠ X.env.locals := fun z => nfr (List.mem_filterMap.mpr ⟨X.env, List.mem_cons_self, by rw [hf, z]⟩)
    have nF : a ∉ X.fs := fun hm => by
      obtain ⟨e, he, q⟩ := List.mem_filterMap.mp hm
      exact nfr (List.mem_filterMap.mpr ⟨e, List.mem_cons_of_mem _ he, q⟩)
    have S3 := J3.suite he3 hd3 na nL nF
    refine wpAny_handleBy_cons (codeAny_handlers_test ?_) (by intro q; cases q)
    have LT : PySem.W.Looks (model X.prog X.w) h3 (typeOf (.ref a)) cls := fun A Q E s k q => wpAny_typeOf_ref (k _ _ he3) (by rw [hz3.1]; exact q)
    have LM := PySem.W.exm_one (M := model X.prog X.w) (J3.kIn) LT hb1
    have test : ∀ {Q : Value → Shared → Prop} {E : Value → Shared → Prop}, Q c { s' with heap := h3 } → wpAny (model X.prog X.w) (X.A.mark (some (.ref a))) (eval (.Name x np) X.env) Q E { s' with heap := h3 } := fun {Q E} q => by
      obtain ⟨hg, hdbg, hm | ⟨hm, hv, hnn⟩⟩ := hc
      · exact ld_glob (X := X.suite a ((a, oe3) :: (X.pn ++ pins))) S3 hg hm q hdbg
      · exact ld_blt (X := X.suite a ((a, oe3) :: (X.pn ++ pins))) S3 hg hm hv q hnn hdbg
    refine test (LM.here ?_)
    cases b with
    | true =>
      refine codeAny_handlers_suite_as ?_
      refine HandSPX.lands_againZ fl3 fun h4 fl4 up4 => ?_
      have J4 : Inv X pins σ' H' { s' with heap := h4 } := J.landed nb fl4.1 ((up.trans up3).trans up4) os ag
      obtain ⟨oe4, vs4, he4, hz4, hd4⟩ := fl4.there
      have S4 := J4.suite he4 hd4 na nL nF
      obtain ⟨hg4, hy4⟩ := hyes rfl
      have tkS := takesY (pos := pos') (a := a) (q := (a, oe4)) (pins := pins) ok hs hf hex hN hi hln hpa tk
      refine store_ok (X := suiteY X a n pos' ((a, oe4) :: (X.pn ++ pins))) (v := .ref a) (suiteY_of S4) hN hi hloc rfl (fun s5 S5 => ?_) (.inr hln)
      refine wpAny_mono ((hsu a oe4 cls d (X.pn ++ pins) hz4 hg4 tkS ⟨rfl, vs4, hd4, hz4.2.2 vs4 hd4⟩).run [] s5 _ H' _ S5 (hy4 a na)) (fun f s6 hsp => ?_) (fun e6 s6 z => z)
      have end_ : ∀ {σ6 : L2.St} {H6 : Hp} {Q : Shared → Prop}, Inv (suiteY X a n pos' ((a, oe4) :: (X.pn ++ pins))) [] σ6 H6 s6 → (∀ s7, Inv X pins (σ6.set i none) H6 s7 → Q s7) →
          wpAny (model X.prog X.w) X.A (do bindName X.env n .none; unbindBehindTheSuite X.env n pos') (fun _ s7 => Q s7) X.xe s6 := fun {σ6 H6 Q} S6 hq => gone_ok (unsuiteY S6 ok) hN hi hln hq
      cases f with
      | next =>
        obtain ⟨σ6, H6, S6, q6⟩ := hsp
        exact end_ S6 fun s7 J7 => ⟨_, _, J7, q6⟩
      | brk =>
        obtain ⟨σ6, H6, S6, q6⟩ := hsp
        exact end_ S6 fun s7 J7 => ⟨_, _, J7, q6⟩
      | cont =>
        obtain ⟨σ6, H6, S6, q6⟩ := hsp
        exact end_ S6 fun s7 J7 => ⟨_, _, J7, q6⟩
      | ret u =>
        obtain ⟨v6, σ6, H6, S6, r6, q6⟩ := hsp
        exact end_ S6 fun s7 J7 => ⟨_, _, _, J7, r6, q6⟩
    | false =>
      show wpAny _ X.A (handleBy (.ref a) X.env []) _ _ _
      refine wpAny_handleBy_nil ?_
      have fl3' : HandSPX.FlyingZ B (X.env :: X.outer) a (Zc cls d) h3 := flyingZ_imp (fun _ z => z.zc) fl3
      obtain ⟨k1, k2, k3, oe, vs, T, oT, ts', he, hz, hd, h1, hr⟩ := id fl3
      unfold PySem.passOn
      refine wpAny_bind (wpAny_field he hd h1 ?_)
      rw [if_neg (show ¬ ((Value.ref T == Value.none) = true) from by simp)]
      have fin : wpAny (model X.prog X.w) X.A (setFlight (.ref a) X.env.frame) (fun _ s4 => wpAny (model X.prog X.w) X.A (throw (.ref a) : Sem Flow) (SP X pins D) X.xe s4) X.xe { s' with heap := h3 } := by
        rw [hf]
        refine HandSPX.setFlight_upZ fl3' fun h4 hh4 up4 => wpAny_throw (tk _ _ ?_)
        exact ⟨a, B, sI, pins, σ', H', cls, d, rfl, J, nb, (up.trans up3).trans up4, .inr (.inr (by rw [hs]; exact hh4)), na, os, ag, hno rfl⟩
      first
        | exact wpAny_bind (wpAny_pure (wpAny_bind fin))
        | exact wpAny_bind fin
  · cases f with
    | next =>
      obtain ⟨σ', H', J', q⟩ := hsp
      exact wpAny_execs_nil ⟨σ', H', J'.ofTry ok, q⟩
    | brk =>
      obtain ⟨σ', H', J', q⟩ := hsp
      exact ⟨σ', H', J'.ofTry ok, q⟩
    | cont =>
      obtain ⟨σ', H', J', q⟩ := hsp
      exact ⟨σ', H', J'.ofTry ok, q⟩
    | ret u =>
      obtain ⟨v, σ', H', J', r, q⟩ := hsp
      exact ⟨v, σ', H', J'.ofTry ok, r, q⟩
end
end Dk
end
section
set_option Elab.async false
set_option linter.all false
set_option maxRecDepth 100000
set_option maxHeartbeats 4000000
/-! for i, x in enumerate(o), o an instance whose __iter__ gives a list's iterator: a rule of my own. -/
namespace Dk
open PySem PySem.Spec PyProof.Rows L2
/-- a def's promise that may speak of the size of the heap at the call -/
structure FnN (P : Program) (w : World) (K : PySem.W.Frag) (mg : Str → Option Value) (base : Heap) (k : Nat) (f : Addr) (fd : FuncData) (ps : List Str) (sp : Nat → Sp) : Prop where
  len : ∀ n vs H Q E, sp n vs H Q E → vs.length = ps.length
  run : ∀ (A : Around) (outer : List Env) (s : Shared) (H : Hp) (args : Args) (us : List Value) (vs : List V) (Q : VK) (E : XK), Room k A → Env0 P w K mg base A outer s H → BindsTo s fd args (ps.zip us) → Vals vs us → sp s.heap.objs.size vs H Q E →
    codeAny (model P w) A (.call (.ref f) args) (CR CX0 outer P w H s Q E) s
theorem fnn_of {P : Program} {w : World} {K : PySem.W.Frag} {mg : Str → Option Value} {base : Heap} {k : Nat} {f : Addr} {x qual : Str} {params : Arguments} {body : List Stmt} {scope : Scope} {dvs : List V} {kws : List (Str × V)} {fd : FuncData} {N ps : List Str} {sp : Nat → Sp}
    (F : FunD K x qual params body scope dvs kws f fd) (S : FnScope N ps scope) (len : ∀ n vs H Q E, sp n vs H Q E → vs.length = ps.length)
    (hbody : ∀ (cdv : Value) (A : Around) (outer : List Env) (s : Shared) (H : Hp) (vs : List V) (Q : VK) (E : XK), Room k (A.deeper (envOfC qual scope s.heap.objs.size f cdv)) → sp s.heap.objs.size vs H Q E →
      ∃ t, PSs (cxOf CX0 P w K mg base N qual scope f cdv A outer s H E).nox body t ∧ t { nx := fun _ H' => Q .non H', rt := Q } (L2.start N vs) H) : FnN P w K mg base (k + 1) f fd ps sp := by
  obtain ⟨oc, od, dV, kV, doc, pm, an, cdv, ct, osl, rfl, lk, hcd, _, _⟩ := F.ex
  refine ⟨len, fun A outer s H args us vs Q E hr e0 hb r hsp => ?_⟩
  have KX : K.In s.heap := e0.mod.kin.keeps fun b o e => (e0.bs b o e).1
  have hkind : ∀ y ∈ ps.zip us, scope.names.lookup y.1 = some .local ∨ (scope.names.lookup y.1 = some .cell ∧ ((cellsFrom (s.heap.objs.size + 1) scope.names []).lookup y.1).isSome = true) := fun y hy =>
    (S.par y.1 (List.of_mem_zip (show (y.1, y.2) ∈ ps.zip us from hy)).1).elim .inl fun q => .inr ⟨q, PySem.W.cellsFrom_some _ _ _ (.inl q)⟩
  refine codeAny_call_function hr.depth (KX _ _ lk) rfl S.co S.gen rfl (PySem.W.codeRec_of KX hcd) (hb _ _ _ _ (wpAny_newFunctionEnv_cells S.kind hkind fun env he s1 x => ?_))
  subst he
  refine ⟨(e0.mod.nolimit.keeps fun b o e => (e0.bs b o e).1).keeps x.toInCall.keep, codeAny_func ?_⟩
  obtain ⟨t, ht, hq⟩ := hbody cdv A outer s H vs Q E (hr.deeper _) hsp
  have I := inv_start (CX := CX0) (E := E) S hr.hd e0 (len _ _ _ _ _ hsp) r x
  refine wpAny_mono (ht.nox.run [] s1 (L2.start N vs) H _ I hq) (fun fl s' hs => ?_) fun e s' hs => hs
  cases fl with
  | ret u =>
    obtain ⟨v, σ', H', J, rv, q⟩ := hs
    exact ⟨v, H', J.os, J.bare, J.base, J.hok, rv, q⟩
  | next =>
    obtain ⟨σ', H', J, q⟩ := hs
    exact ⟨V.non, H', J.os, J.bare, J.base, J.hok, rfl, q⟩
  | brk =>
    obtain ⟨_, _, _, q⟩ := hs
    exact q.elim
  | cont =>
    obtain ⟨_, _, _, q⟩ := hs
    exact q.elim
section
variable {prog : Program} {w : World}
set_option maxHeartbeats 8000000 in
theorem meets_enum1 (v : Value) : MeetsIn prog w (Builtin.«enumerate.__new__» ⟨[.type "enumerate", v], []⟩) (fun A R s => wpAny (model prog w) A.in1 (pyIter v) (fun it s' => R (.ok (.ret (.ref s'.heap.objs.size))) { s' with heap := s'.heap.push { cls := .type "enumerate", data := .fields #[.none, .bool false, it, rawInt 0, .none, .none] } }) (fun e s' => R (.error e) s') s) :=
  .of_wp fun A R s h => by
    obtain ⟨hp, g, d, tk, os⟩ := s
    have hsub := sub_enumerate
    have q1 : ∀ {Q : Value → Shared → Prop}, (∀ it s', R (.ok (.ret (.ref s'.heap.objs.size))) { s' with heap := s'.heap.push { cls := .type "enumerate", data := .fields #[.none, .bool false, it, rawInt 0, .none, .none] } } → Q it s') → wpAny (model prog w) A.in1 (pyIter v) Q (fun e s' => R (.error e) s') ⟨hp, g, d, tk, os⟩ := fun q => wpAny_mono h (fun it s' z => q it s' z) fun _ _ z => z
    wp_walk
    refine wpAny_stack_any fun st => wpAny_pure ?_
    split
    · rename_i c _ _ _ _ _
      cases (c == Value.type "enumerate")
      · wp_walk using q1
        intro it s' hq
        wp_walk
        exact ⟨_, rfl, hq⟩
      · wp_walk using q1
        intro it s' hq
        wp_walk
        exact ⟨_, rfl, hq⟩
    · wp_walk using q1
      intro it s' hq
      wp_walk
      exact ⟨_, rfl, hq⟩
end
/-- enumerate(o): o.__iter__() runs, its list's iterator is walked -/
def iEnumO (C : Addr) (K : PySem.W.Frag) (sp : Nat → Sp) (ta : TA) : TI := fun σ H R => ta σ H fun vs H1 => ∃ a dx fs, vs = [.ref a] ∧ H1 a = some (.ins C dx fs) ∧
  ∀ n, sp n [.ref a] H1 (fun r H2 => ∃ it l : Addr, r = .ref it ∧ n ≤ it ∧ H2 it = some (ItO l it 0) ∧ R (Ite K l) (ItX.dropH H2 it)) E0
section
variable {X : Cx} {C f : Addr} {k : Nat} {fd : FuncData} {sp : Nat → Sp} {e : Expr} {ta : TA} {p pos tpos : Pos} {elts : List Expr} {kk : Nat} {q : Str}
theorem pi_enumOwn (hgl : Gl X "enumerate") (hm : X.mg "enumerate" = none) (M : Meth X.K C "__iter__" f) (FN : FnN X.prog X.w X.K X.mg X.base k f fd [q] sp) (hr : Room (k + 2) X.A) (bI : Binds X.K fd [q] []) (ha : PA X [e] ta) (hs : starEach [e] X.env = [(false, eval e X.env)] := by rfl) :
    PI X (.Tuple elts kk tpos) (.Call (.Name "enumerate" p) [e] [] pos) (iEnumO C X.K sp ta) := by
  refine ⟨fun pins s σ H R I h => ?_⟩
  refine Call_ (ld_blt I hgl hm boot_enumerate (PyProof.Rows.callWith_type1 (thn (ha.run pos pins s σ H _ I h) fun us s1 ⟨vs, H1, I1, r1, q1⟩ => ?_) hs rfl))
  obtain ⟨a, dx, fs, ev, ea, q1⟩ := q1
  subst ev
  cases r1 with
  | cons r rr =>
    cases rr
    cases r
    obtain ⟨mA, O, _⟩ := ins_get I1.hok ea
    obtain ⟨od, J, _⟩ := O.look
    obtain ⟨m, hF⟩ := I1.fr
    have sb : Sub X k X.A.in1.in1 := Sub.in1 (Sub.in1 (⟨hr, rfl⟩ : Sub X (k + 2) X.A))
    have e0 : Env0 X.prog X.w X.K X.mg X.base X.A.in1.in1 X.stack s1 H1 := by
      have e := I1.env0
      exact ⟨by rw [sb.fr]; exact e.frames, e.mod, e.bs, e.bsz, e.funs, e.frf, e.hok, e.bare⟩
    have hsp := q1 s1.heap.objs.size
    have r2 : Vals [V.ref a] [Value.ref a] := .cons rfl .nil
    refine PySem.callType_newIn PySem.F.called_enumerate (by decide) (PySem.F.typeCall_enumerate_1 _) (PySem.F.newCall_enumerate_1 _) (fun obj => PySem.F.args_object_init_2 obj _) PySem.F.entry_enumerate_new (meets_enum1 _) ?_
    refine PySem.W.owit_iter hF I1.ok.mod.kin J M.at_ M.fn ?_
    refine wpAny_call (codeAny_mono (FN.run X.A.in1.in1 X.stack s1 H1 ⟨[.ref a], []⟩ [.ref a] [.ref a] _ E0 sb.room e0 (by
      have := bI s1 [.ref a] I1.kIn (by simp)
      simpa using this) r2 hsp) fun r s' hq => ?_)
    cases r with
    | error e => exact False.elim hq
    | ok fl =>
      cases fl with
      | next => exact False.elim hq
      | brk => exact False.elim hq
      | cont => exact False.elim hq
      | ret u =>
        obtain ⟨v, H2, I2, rv, it, l, ev, hn, hit, hq2⟩ := I1.after hq
        subst ev
        cases rv
        have hx := itO_get I2 hit
        have hT : s'.TypeIs (.ref it) "list_iterator" := ⟨_, hx, rfl⟩
        have I3 := ItX.inv_drop I2 hit
        have I4 := I3.kept (h' := s'.heap.push { cls := .type "enumerate", data := .fields #[.none, .bool false, .ref it, rawInt 0, .none, .none] }) (t' := s'.toks) (fun b o e => Heap.get?_push_of_some _ e)
        have he : IsEnum (s'.heap.push { cls := .type "enumerate", data := .fields #[.none, .bool false, .ref it, rawInt 0, .none, .none] }) s'.heap.objs.size it 0 .none := Heap.get?_push_size _ rfl
        refine wpAny_specialOf (name := Str.ofString "__next__") hT slot_listiter_next.lookup ?_
        refine ⟨⟨_, he, rfl⟩, ?_⟩
        refine wpAny_pyIter_enum he ?_
        refine ⟨s'.heap.objs.size, [s'.heap.objs.size, it], _, _, ItX.dropH H2 it, rfl, I4, turn_enum l s'.heap.objs.size it, ⟨⟨.none, he⟩, ⟨_, Heap.get?_push_of_some _ hx, rfl, rfl⟩, Nat.ne_of_gt (Heap.lt_size hx)⟩, fun b hb => ?_, hq2⟩
        have e' : b = s'.heap.objs.size ∨ b = it := by simpa using hb
        rcases e' with z | z
        · rw [z]
          exact I3.fpOk (Nat.le_refl _) (I3.hok.fresh (Nat.le_refl _))
        · rw [z]
          exact ItX.inv_fp I2 hit (Nat.le_trans I1.sz hn)
end
end Dk
end
section
set_option Elab.async false
set_option linter.all false
set_option maxRecDepth 100000
set_option maxHeartbeats 4000000
/-! What the walks share: heaps that grow, lists, the world. -/
namespace Dk
open PySem PySem.Spec PyProof.Rows L2 Evl
/-! ### heaps -/
theorem ex_at {H H' : Hp} {a : Addr} {o : HO} (e : Ex H H') (h : H a = some o) : H' a = some o := e a o h
theorem go_name {i : Nat} {v : V} {σ : L2.St} {H : Hp} {Q : L2.St → Hp → Prop} (h : Q (σ.set i (some v)) H) : gName i v σ H Q := h
section
variable {σ : L2.St} {H : Hp} {Q : VK} {te tf : TE} {ta tr : TA} {D : Ends} {t u : TS} {g : TG} {c c2 : TT}
theorem go_var {i : Nat} {v : V} (h : σ[i]? = some (some v)) (q : Q v H) : tVar i σ H Q := ⟨v, h, q⟩
theorem go_rI0 {f : Int → Int → V} {i j : Int} (q : Q (f i j) H) : rI0 f (.int i) (.int j) H Q := ⟨i, j, rfl, rfl, q⟩
theorem go_rU {f : Int → V} {i : Int} (q : Q (f i) H) : rU f (.int i) H Q := ⟨i, rfl, q⟩
theorem go_rI {C : Int → Int → Prop} {f : Int → Int → V} {i j : Int} (c : C i j) (q : Q (f i j) H) : rI C f (.int i) (.int j) H Q := ⟨i, j, rfl, rfl, c, q⟩
theorem go_rEq {x y : V} (h : scal x y = true) (q : Q (.bl (decide (x = y))) H) : rEq x y H Q := ⟨h, q⟩
theorem go_rNe {x y : V} (h : scal x y = true) (q : Q (.bl (!decide (x = y))) H) : rNe x y H Q := ⟨h, q⟩
theorem go_isN {x : V} (q : Q (.bl (decide (x = .non))) H) : (V.non = .non ∧ Q (.bl (decide (x = .non))) H) := ⟨rfl, q⟩
theorem go_bl {b : Bool} {Q : Bool → Hp → Prop} (q : Q b H) : ∃ k, V.bl b = .bl k ∧ Q k H := ⟨b, rfl, q⟩
theorem go_lenL {K : Fr} {p : Addr} {xs : List V} (h : SqL K H p xs) (q : Q (.int xs.length) H) : ∃ x n, [V.ref p] = [x] ∧ LenV K x H n ∧ Q (.int (n : Nat)) H := ⟨_, _, rfl, .inl ⟨_, h, rfl⟩, q⟩
theorem go_lenT {K : Fr} {p : Addr} {xs : List V} (h : SqT K H p xs) (q : Q (.int xs.length) H) : ∃ x n, [V.ref p] = [x] ∧ LenV K x H n ∧ Q (.int (n : Nat)) H := ⟨_, _, rfl, .inr ⟨_, h, rfl⟩, q⟩
theorem go_lenS {K : Fr} {z : List Nat} (h : z.length ≤ 100000) (q : Q (.int z.length) H) : ∃ x n, [V.str (SX.S z)] = [x] ∧ LenV K x H n ∧ Q (.int (n : Nat)) H := ⟨_, _, rfl, ⟨by rw [SX.S_len]; exact sz_of h, rfl⟩, by rw [SX.S_len]; exact q⟩
theorem go_app {K : Fr} {p : Addr} {xs : List V} {A : Prop} (h : SqL K H p xs) (q : A) : tyV K "list" (.ref p) H ∧ A := ⟨.inl ⟨rfl, _, h⟩, q⟩
theorem go_tyS {K : Fr} {z : Str} {A : Prop} (q : A) : tyV K "str" (.str z) H ∧ A := ⟨rfl, q⟩
theorem go_ixL {K : Fr} {p : Addr} {xs : List V} {i : Int} {v : V} (h : SqL K H p xs) (e : atI xs i = some v) (q : Q v H) : rIxL K (.ref p) (.int i) H Q := ⟨p, xs, i, v, rfl, rfl, h, e, q⟩
theorem go_ixT {K : Fr} {p : Addr} {xs : List V} {i : Int} {v : V} (h : SqT K H p xs) (e : atI xs i = some v) (q : Q v H) : rIxT K (.ref p) (.int i) H Q := ⟨p, xs, i, v, rfl, rfl, h, e, q⟩
theorem go_ixS {z : List Nat} {i : Int} {c : Nat} (h : z.length ≤ 100000) (e : atI z i = some c) (q : Q (.str (SX.S [c])) H) : rIxS (.str (SX.S z)) (.int i) H Q := ⟨_, _, c, rfl, rfl, by rw [SX.S_len]; exact sz_of h, e, q⟩
theorem go_inL {K : Fr} {p : Addr} {xs : List V} {x : V} {neg : Bool} (h : SqL K H p xs) (hx : flatV x = true) (hf : xs.all flatV = true) (q : Q (.bl (if neg then !inV x xs else inV x xs)) H) : rIn K neg x (.ref p) H Q := ⟨p, xs, rfl, .inl h, hx, hf, q⟩
theorem go_rapp {p : Addr} {xs : List V} {v : V} (h : H p = some (.lst xs)) (l : xs.length < 100000) (q : Q .non (upd H p (.lst (xs ++ [v])))) : rAppend (.ref p) [v] H Q := ⟨p, xs, v, rfl, rfl, h, sz_lt l, q⟩
theorem go_cat {p r : Addr} {xs ys : List V} (h : H p = some (.lst xs)) (h2 : H r = some (.lst ys)) (l : xs.length + ys.length ≤ 100000) (q : ∀ t, H t = none → Q (.ref t) (upd H t (.lst (xs ++ ys)))) : rCat (.ref p) (.ref r) H Q := ⟨p, r, xs, ys, rfl, rfl, h, h2, sz_of l, q⟩
theorem go_slL {K : Fr} {p : Addr} {xs : List V} {lo hi : Option Int} (h : SqL K H p xs) (q : ∀ t, H t = none → Q (.ref t) (upd H t (.lst (cutV xs lo hi)))) : rSlL K (.ref p) lo hi H Q := ⟨p, xs, rfl, h, q⟩
theorem go_gsub {ts : TSet} {v : V} {Q : L2.St → Hp → Prop} (h : te σ H fun o H1 => tf σ H1 fun i H2 => ts o i v H2 fun H3 => Q σ H3) : gSub te tf ts v σ H Q := h
theorem go_gtup {K : Fr} {n : Nat} {t : TGs} {p : Addr} {xs : List V} {Q : L2.St → Hp → Prop} (h : SqT K H p xs) (hn : xs.length = n) (q : t xs σ H Q) : gTup K n t (.ref p) σ H Q := ⟨p, xs, rfl, h, hn, q⟩
theorem go_gcons {v : V} {r : List V} {t : TG} {u : TGs} {Q : L2.St → Hp → Prop} (q : t v σ H fun σ' H' => u r σ' H' Q) : gCons t u (v :: r) σ H Q := ⟨v, r, rfl, q⟩
theorem go_gnil {Q : L2.St → Hp → Prop} (q : Q σ H) : gNil [] σ H Q := ⟨rfl, q⟩
theorem go_setL {p : Addr} {xs : List V} {k : Int} {j : Nat} {v : V} {Q : Hp → Prop} (h : H p = some (.lst xs)) (e : ixN xs.length k = some j) (q : Q (upd H p (.lst (xs.set j v)))) : rSetL (.ref p) (.int k) v H Q := ⟨p, xs, k, j, rfl, rfl, h, e, q⟩
theorem go_prop {C : Addr} {sp : Sp} {dvs : List V} {E : XK} (h : te σ H fun x H1 => ∃ a dx fs, x = .ref a ∧ H1 a = some (.ins C dx fs) ∧ sp (.ref a :: dvs) H1 Q E) : tProp C sp dvs E te σ H Q := h
theorem go_meth {C : Addr} {m : Str} {sp : Sp} {dvs : List V} {E : XK} (h : te σ H fun x H1 => ∃ a dx fs, x = .ref a ∧ H1 a = some (.ins C dx fs) ∧ fs.lookup m = none ∧ ta σ H1 fun vs H2 => sp (x :: (vs ++ dvs)) H2 Q E) : tMeth C m sp dvs E te ta σ H Q := h
theorem go_rz {C : Addr} {f : Str} {Q : XK} (h : ta σ H fun vs H1 => ∃ v, vs = [v] ∧ ∀ d, H1 d = none → Q (.ref C) (some d) (upd H1 d (.xd [(f, v)]))) : tRz C f ta σ H Q := h
theorem go_make {C : Addr} {sp : Sp} {dvs : List V} {E : XK} (h : ta σ H fun vs H1 => ∀ x dx, H1 x = none → H1 dx = none → dx ≠ x → sp (.ref x :: (vs ++ dvs)) (upd (upd H1 dx (.own x)) x (.ins C dx [])) (fun v H2 => v = .non ∧ Q (.ref x) H2) E) : tMake C sp dvs E ta σ H Q := h
theorem go_sfld {K : Fr} {f : Str} (h : tf σ H fun y H1 => te σ H1 fun x H2 => ∃ a C dx fs, x = .ref a ∧ H2 a = some (.ins C dx fs) ∧ Cls K C ∧ NoAttr K C f ∧ fs.length < 1000 ∧ D.nx σ (upd H2 a (.ins C dx (putF f y fs)))) : sFld K te tf f D σ H := h
theorem go_sl {r : V → Option Int → Option Int → Hp → VK → Prop} {tl th : TO} (h : te σ H fun x H1 => tl σ H1 fun l H2 => th σ H2 fun u H3 => r x l u H3 Q) : L2.tSl r te tl th σ H Q := h
theorem go_andV (h : te σ H fun x H1 => ∃ c, x = .bl c ∧ if c = true then tf σ H1 Q else Q (.bl false) H1) : tAndV te tf σ H Q := h
theorem go_orV (h : te σ H fun x H1 => ∃ c, x = .bl c ∧ if c = true then Q (.bl true) H1 else tf σ H1 Q) : tOrV te tf σ H Q := h
theorem go_notV (h : te σ H fun x H1 => ∃ c, x = .bl c ∧ Q (.bl (!c)) H1) : tNotV te σ H Q := h
theorem go_lrg {te : L2.St → Hp → (Int → Int → Hp → Prop) → Prop} (h : te σ H fun a b H1 => RgOk a b ∧ ∀ q, H1 q = none → Q (.ref q) (upd H1 q (.lst (rgV a b)))) : tLstRg te σ H Q := h
theorem go_rg1 {Q : Int → Int → Hp → Prop} (h : te σ H fun x H1 => ∃ n, x = .int n ∧ Q 0 n H1) : tRg1 te σ H Q := h
theorem go_chain {r r' : R2} {tg : TE} (h : te σ H fun x H1 => tf σ H1 fun y H2 => r x y H2 fun z H3 => ∃ k, z = .bl k ∧ (if k = true then tg σ H3 fun w' H4 => r' y w' H4 Q else Q (.bl false) H3)) : tChain r r' te tf tg σ H Q := h
theorem go_cval {K : Fr} {f : Str} (h : te σ H fun x H1 => ∃ C mc v u, x = .ref C ∧ ClX.CRead K C mc ∧ ClX.CVal K C mc f v u ∧ Q v H1) : ClX.tCVal K te f σ H Q := h
theorem go_for {wi : TI} (h : wi σ H fun J H1 => ∃ W : Nat → Nat → L2.St → Hp → Prop, (∃ m, W 0 m σ H1) ∧ ∀ i m σ H, W i m σ H → (J.stop i H ∧ D.nx σ H) ∨ (J.go i H ∧ ∃ N : L2.St → Hp → Prop, (∀ σ' H', N σ' H' → ∃ m', m' < m ∧ W (i + 1) m' σ' H') ∧ ∀ x H', J.yld i H x H' → g x σ H' fun σ2 H2 => t { D with nx := N, ct := N, bk := D.nx } σ2 H2)) : tFor wi g t D σ H := h
theorem go_rng1 {R : It → Hp → Prop} (h : ta σ H fun vs H1 => ∃ j : Int, vs = [.int j] ∧ -(2 ^ 62) ≤ j ∧ j < 2 ^ 62 ∧ R (Itr 0 j.toNat) H1) : iRng1 ta σ H R := h
theorem go_rng2 {R : It → Hp → Prop} (h : ta σ H fun vs H1 => ∃ i j : Int, vs = [.int i, .int j] ∧ (-(2 ^ 62) ≤ i ∧ i < 2 ^ 62 ∧ -(2 ^ 62) ≤ j ∧ j < 2 ^ 62) ∧ R (Itr i (j - i).toNat) H1) : iRng2 ta σ H R := h
theorem go_rng3 {R : It → Hp → Prop} (h : ta σ H fun vs H1 => ∃ (i j c : Int) (n : Nat), vs = [.int i, .int j, .int c] ∧ RgC i j c n ∧ R (Itc i c n) H1) : iRng3 ta σ H R := h
theorem go_iS {R : It → Hp → Prop} (h : te σ H fun v H1 => ∃ x, v = .str x ∧ R (Its x) H1) : iStr te σ H R := h
theorem go_iL {K : Fr} {R : It → Hp → Prop} (h : te σ H fun v H1 => ∃ a, v = .ref a ∧ (∃ xs, SqL K H1 a xs) ∧ R (Itl K a) H1) : iList K te σ H R := h
theorem go_iZ {K : Fr} {R : It → Hp → Prop} (h : ta σ H fun vs H1 => ∃ a b xs ys, vs = [.ref a, .ref b] ∧ SqT K H1 a xs ∧ SqL K H1 b ys ∧ R (ItM K a b) H1) : iZipM K ta σ H R := h
theorem go_iE {K : Fr} {R : It → Hp → Prop} (h : ta σ H fun vs H1 => ∃ a xs, vs = [.ref a] ∧ SqL K H1 a xs ∧ R (Ite K a) H1) : iEnum K ta σ H R := h
theorem go_seq (h : t { D with nx := u D } σ H) : tSeq t u D σ H := h
theorem go_asg (h : te σ H fun x H1 => g x σ H1 D.nx) : tAsg te g D σ H := h
theorem go_ret (h : te σ H D.rt) : tRet te D σ H := h
theorem go_retN (h : D.rt .non H) : tRetN D σ H := h
theorem go_next (h : D.nx σ H) : tNext D σ H := h
theorem go_drop (h : te σ H fun _ H1 => D.nx σ H1) : tDrop te D σ H := h
theorem go_ifs (h : c σ H fun b H1 => if b = true then t D σ H1 else u D σ H1) : tIfS c t u D σ H := h
theorem go_cons {Q : List V → Hp → Prop} (h : te σ H fun x H1 => tr σ H1 fun xs H2 => Q (x :: xs) H2) : tCons te tr σ H Q := h
theorem go_nil {Q : List V → Hp → Prop} (h : Q [] H) : tNil σ H Q := h
theorem go_cb {r : List V → Hp → VK → Prop} (h : ta σ H fun vs H1 => r vs H1 Q) : tCB r ta σ H Q := h
theorem go_op {r : R2} (h : te σ H fun x H1 => tf σ H1 fun y H2 => r x y H2 Q) : tOp r te tf σ H Q := h
theorem go_un {r : V → Hp → VK → Prop} (h : te σ H fun x H1 => r x H1 Q) : tUn r te σ H Q := h
theorem go_c {v : V} (h : Q v H) : tC v σ H Q := h
theorem go_test {Q : Bool → Hp → Prop} (h : te σ H fun x H' => ∃ k, x = .bl k ∧ Q k H') : tTest te σ H Q := h
theorem go_b {Q : Bool → Hp → Prop} (h : te σ H fun x H' => ∃ k, x = .bl k ∧ Q k H') : tB te σ H Q := h
theorem go_and {Q : Bool → Hp → Prop} (h : c σ H fun b H1 => if b = true then c2 σ H1 Q else Q false H1) : tAnd c c2 σ H Q := h
theorem go_or {Q : Bool → Hp → Prop} (h : c σ H fun b H1 => if b = true then Q true H1 else c2 σ H1 Q) : tOr c c2 σ H Q := h
theorem go_not {Q : Bool → Hp → Prop} (h : c σ H fun b H1 => Q (!b) H1) : tNot c σ H Q := h
theorem go_if (h : c σ H fun b H1 => if b = true then te σ H1 Q else tf σ H1 Q) : tIf c te tf σ H Q := h
theorem go_call {sp : Sp} {dvs : List V} {E : XK} (h : ta σ H fun vs H1 => sp (vs ++ dvs) H1 Q E) : tCall sp dvs E ta σ H Q := h
theorem go_bm {K : Fr} {T : String} {r : V → List V → Hp → VK → Prop} (h : te σ H fun x H1 => tyV K T x H1 ∧ ta σ H1 fun xs H2 => r x xs H2 Q) : tBM K T r te ta σ H Q := h
theorem go_fld {K : Fr} {f : Str} (h : te σ H fun x H1 => ∃ a C dx fs v, x = .ref a ∧ H1 a = some (.ins C dx fs) ∧ Cls K C ∧ NoAttr K C f ∧ fs.lookup f = some v ∧ Q v H1) : tFld K te f σ H Q := h
theorem go_lst (h : ta σ H fun xs H1 => xs.length ≤ sizeLine ∧ ∀ p, H1 p = none → Q (.ref p) (upd H1 p (.lst xs))) : tLst ta σ H Q := h
theorem go_tup (h : ta σ H fun xs H1 => xs.length ≤ sizeLine ∧ ∀ p, H1 p = none → Q (.ref p) (upd H1 p (.tup xs))) : tTup ta σ H Q := h
theorem go_part {t : TE} {Q : Option Int → Hp → Prop} (h : t σ H fun x H1 => ∃ i, x = .int i ∧ Q (some i) H1) : tPart t σ H Q := h
theorem go_nop {Q : Option Int → Hp → Prop} (h : Q none H) : tNoPart σ H Q := h
end
theorem iteNF {A B : Prop} (h : A) : if (!false) = true then A else B := h
theorem iteNT {A B : Prop} (h : B) : if (!true) = true then A else B := h
theorem iteYes {c A B : Prop} [Decidable c] (hc : c) (h : A) : if decide c = true then A else B := by
  rw [decide_eq_true hc]
  exact h
theorem iteNo {c A B : Prop} [Decidable c] (hc : ¬ c) (h : B) : if decide c = true then A else B := by
  rw [decide_eq_false hc]
  exact h
theorem iteNNo {c A B : Prop} [Decidable c] (hc : ¬ c) (h : A) : if (!decide c) = true then A else B := by
  rw [decide_eq_false hc]
  exact h
theorem exr {H H1 H2 : Hp} (b : Ex H1 H2) (a : Ex H H1) : Ex H H2 := a.trans b
theorem exN {H : Hp} {p : Addr} {o : HO} {H' : Hp} (h : H p = none) (e : upd H p o = H') : Ex H H' := e ▸ Ex.new h
theorem atN {H : Hp} {p : Addr} {o : HO} {H' : Hp} (e : upd H p o = H') : H' p = some o := e ▸ upd_same
/-- H without the objects of a list -/
def hid (S : List Addr) (H : Hp) : Hp := fun a => if a ∈ S then none else H a
theorem hid_at {S : List Addr} {H : Hp} {a : Addr} {o : HO} (h : hid S H a = some o) : a ∉ S ∧ H a = some o := by
  unfold hid at h
  split at h
  · cases h
  · rename_i n
    exact ⟨n, h⟩
theorem hid_in {S : List Addr} {H : Hp} {a : Addr} (h : a ∈ S) : hid S H a = none := if_pos h
theorem hid_out {S : List Addr} {H : Hp} {a : Addr} (h : a ∉ S) : hid S H a = H a := if_neg h
theorem hid_ex {S : List Addr} {H : Hp} : Ex (hid S H) H := fun _ _ e => (hid_at e).2
/-- all but the objects of S stand as before -/
def Frm (S : List Addr) (H H' : Hp) : Prop := ∀ a o, a ∉ S → H a = some o → H' a = some o
theorem Frm.refl (S : List Addr) (H : Hp) : Frm S H H := fun _ _ _ e => e
theorem Frm.trans {S : List Addr} {H H1 H2 : Hp} (a : Frm S H H1) (b : Frm S H1 H2) : Frm S H H2 := fun x o n e => b x o n (a x o n e)
theorem Ex.frm {S : List Addr} {H H' : Hp} (e : Ex H H') : Frm S H H' := fun a o _ h => e a o h
theorem Frm.mono {S S' : List Addr} {H H' : Hp} (f : Frm S H H') (h : ∀ a ∈ S, a ∈ S') : Frm S' H H' := fun a o n e => f a o (fun m => n (h a m)) e
theorem Frm.hid {S : List Addr} {H H' : Hp} (f : Frm S H H') : Ex (hid S H) (hid S H') := fun a o e => by
  obtain ⟨n, e⟩ := hid_at e
  rw [hid_out n]
  exact f a o n e
theorem frm_upd {S : List Addr} {H : Hp} {p : Addr} {o : HO} (h : p ∈ S) : Frm S H (upd H p o) := fun a u n e => by
  rw [upd_ne (fun z => n (by rw [z]; exact h))]
  exact e
theorem frm_nil {H H' : Hp} (f : Frm [] H H') : Ex H H' := fun a o e => f a o (fun z => nomatch z) e
theorem Frm.upd {S : List Addr} {H H' : Hp} {p : Addr} {o : HO} (f : Frm S H H') (h : p ∈ S ∨ H p = none) : Frm S H (upd H' p o) := fun a u n e => by
  have np : a ≠ p := fun z => by
    rcases h with h | h
    · exact n (z ▸ h)
    · rw [z, h] at e
      cases e
  rw [upd_ne np]
  exact f a u n e
/-! ### lists of numbers -/
/-- the first p values of a function on the line -/
def cl (p : Nat) (c : Int → Int) : List V := (List.range p).map fun i : Nat => V.int (c (i : Int))
theorem cl_len (p : Nat) (c : Int → Int) : (cl p c).length = p := by
  unfold cl
  rw [List.length_map, List.length_range]
theorem cl_at {p i : Nat} {c : Int → Int} (h : i < p) : (cl p c)[i]? = some (.int (c (i : Int))) := by
  unfold cl
  rw [List.getElem?_map, List.getElem?_range h] <;> rfl
theorem cl_atN {p i : Nat} {c : Int → Int} (h : i < p) : atI (cl p c) (i : Int) = some (.int (c (i : Int))) := atI_nat (cl_at h)
theorem cl_atI {p : Nat} {c : Int → Int} {i : Int} (h0 : 0 ≤ i) (h : i < p) : atI (cl p c) i = some (.int (c i)) := by
  obtain ⟨n, rfl⟩ := Int.eq_ofNat_of_zero_le h0
  exact atI_nat (cl_at (by omega))
theorem cl_succ (p : Nat) (c : Int → Int) : cl (p + 1) c = cl p c ++ [.int (c p)] := by
  unfold cl
  rw [List.range_succ, List.map_append] <;> rfl
theorem fm_eq {y : Int} {p : Nat} (hp : 0 < p) : y.fmod (p : Int) = y % (p : Int) := Int.fmod_eq_emod_of_nonneg _ (by omega)
theorem per_mul {p : Nat} {c : Int → Int} (hc : ∀ y, c (y + p) = c y + p) (y : Int) : ∀ k : Nat, c (y + k * p) = c y + k * p
  | 0 => by simp
  | k + 1 => by
    have e : y + ((k + 1 : Nat) : Int) * p = (y + k * p) + p := by
      rw [Int.natCast_add, Int.add_mul]
      omega
    rw [e, hc, per_mul hc y k, Int.natCast_add, Int.add_mul]
    omega
theorem per_int {p : Nat} {c : Int → Int} (hc : ∀ y, c (y + p) = c y + p) (y k : Int) : c (y + k * p) = c y + k * p := by
  rcases Int.le_total 0 k with h | h
  · obtain ⟨n, rfl⟩ := Int.eq_ofNat_of_zero_le h
    exact per_mul hc y n
  · obtain ⟨n, e⟩ := Int.eq_ofNat_of_zero_le (show 0 ≤ -k by omega)
    have e1 : k = -(n : Int) := by omega
    have h1 := per_mul hc (y + k * p) n
    have e2 : y + k * p + n * p = y := by rw [e1, Int.neg_mul]; omega
    rw [e2] at h1
    rw [h1, e1, Int.neg_mul]
    omega
theorem per_mod {p : Nat} {c : Int → Int} (hc : ∀ y, c (y + p) = c y + p) (y : Int) : c (y % p) + y - y % p = c y := by
  have h := per_int hc (y % p) (y / p)
  have e : y % p + y / p * p = y := by
    have := Int.emod_add_mul_ediv y p
    rw [Int.mul_comm] at this
    exact this
  rw [e] at h
  have e2 : y / p * p = y - y % p := by omega
  omega
theorem perB_mod {p : Nat} {S : Int → Bool} (hS : ∀ y, S (y + p) = S y) (y : Int) : S (y % p) = S y := by
  have hn : ∀ (z : Int) (k : Nat), S (z + k * p) = S z := fun z k => by
    induction k with
    | zero => simp
    | succ k ih =>
      have e : z + ((k + 1 : Nat) : Int) * p = (z + k * p) + p := by
        rw [Int.natCast_add, Int.add_mul]
        omega
      rw [e, hS, ih]
  have e : y % p + y / p * p = y := by
    have := Int.emod_add_mul_ediv y p
    rw [Int.mul_comm] at this
    exact this
  rcases Int.le_total 0 (y / p) with h | h
  · obtain ⟨n, hn'⟩ := Int.eq_ofNat_of_zero_le h
    have := hn (y % p) n
    rw [← hn', e] at this
    exact this.symm
  · obtain ⟨n, hn'⟩ := Int.eq_ofNat_of_zero_le (show 0 ≤ -(y / p) by omega)
    have h2 := hn y n
    have e2 : y + (n : Int) * p = y % p := by
      rw [← hn', Int.neg_mul]
      omega
    rw [e2] at h2
    exact h2
/-- the stands of one entry, as numbers -/
def sl (p : Nat) (S : Int → Bool) : List V := ((List.range p).filter fun i : Nat => S (i : Int)).map fun i : Nat => V.int (i : Int)
theorem any_map {α β : Type} (f : α → β) (g : β → Bool) : ∀ l : List α, (l.map f).any g = l.any fun x => g (f x)
  | [] => rfl
  | a :: l => by rw [List.map_cons, List.any_cons, List.any_cons, any_map f g l]
theorem sl_in {p : Nat} {S : Int → Bool} (hp : 0 < p) (hS : ∀ y, S (y + p) = S y) (y : Int) : inV (.int (y % p)) (sl p S) = S y := by
  have h0 := Int.emod_nonneg y (show (p : Int) ≠ 0 by omega)
  have h1 := Int.emod_lt_of_pos y (show (0 : Int) < p by omega)
  obtain ⟨n, hn⟩ := Int.eq_ofNat_of_zero_le h0
  have e : S (n : Int) = S y := by
    have := perB_mod hS y
    rw [hn] at this
    exact this
  rw [hn]
  rw [hn] at h1
  unfold inV sl
  rw [any_map]
  cases h : S y with
  | true =>
    rw [List.any_eq_true]
    exact ⟨n, List.mem_filter.mpr ⟨List.mem_range.mpr (by omega), by rw [e, h]⟩, beq_self_eq_true (n : Int)⟩
  | false =>
    rw [List.any_eq_false]
    intro m hm hq
    have em : (m : Int) = n := eq_of_beq (show ((m : Int) == (n : Int)) = true from hq)
    have := (List.mem_filter.mp hm).2
    rw [em, e, h] at this
    cases this
theorem sl_inN {p : Nat} {S : Int → Bool} (hp : 0 < p) (hS : ∀ y, S (y + p) = S y) {i : Nat} (hi : i < p) : inV (.int (i : Int)) (sl p S) = S (i : Int) := by
  have h := sl_in hp hS (i : Int)
  rw [Int.emod_eq_of_lt (by omega) (by omega)] at h
  exact h
theorem sl_flat (p : Nat) (S : Int → Bool) : (sl p S).all flatV = true := by
  unfold sl
  rw [List.all_eq_true]
  intro x hx
  obtain ⟨i, _, rfl⟩ := List.mem_map.mp hx
  rfl
/-! ### walks -/
theorem et_yes {σ : L2.St} {H : Hp} : EvT tYes σ H true := fun H1 _ Q q => q H1 (Ex.refl H1)
theorem given_all (n : Nat) (v : Nat → V) : given n (fun _ => true) v = (List.range n).map v := by
  unfold given
  rw [List.filter_eq_self.mpr fun _ _ => rfl]
/-- an iterator gives n things, it i at turn i, and leaves all as it is -/
def Gives (J : It) (n : Nat) (it : Nat → V) (H : Hp) : Prop := ∀ i, (i < n → J.go i H ∧ ∀ x H', J.yld i H x H' → H' = H ∧ x = it i) ∧ (n ≤ i → J.stop i H)
theorem gives_list {K : Fr} {H : Hp} {a : Addr} {xs : List V} (h : SqL K H a xs) : Gives (Itl K a) xs.length (fun i => xs.getD i .non) H := fun i =>
  ⟨fun hi => ⟨⟨xs, xs[i], h, by simp [hi]⟩, fun x H' y => ⟨y.1, by have e := y.2 xs h; simp [List.getD, e]⟩⟩, fun hi => ⟨xs, h, hi⟩⟩
theorem gives_tup {K : Fr} {H : Hp} {a : Addr} {xs : List V} (h : SqT K H a xs) : Gives (Itt K a) xs.length (fun i => xs.getD i .non) H := fun i =>
  ⟨fun hi => ⟨⟨xs, xs[i], h, by simp [hi]⟩, fun x H' y => ⟨y.1, by have e := y.2 xs h; simp [List.getD, e]⟩⟩, fun hi => ⟨xs, h, hi⟩⟩
theorem gives_range {H : Hp} {lo : Int} {n : Nat} : Gives (Itr lo n) n (fun i => .int (lo + i)) H := fun i => ⟨fun hi => ⟨hi, fun x H' y => y⟩, fun hi => hi⟩
theorem gives_str {H : Hp} {cs : List Nat} : Gives (Its (SX.S cs)) cs.length (fun i => .str (SX.S [cs.getD i 0])) H := fun i =>
  ⟨fun hi => ⟨by show i < cs.toArray.size; simpa using hi, fun x H' ⟨e, c, hc, hx⟩ => ⟨e, by
    have hc' : cs[i]? = some c := by simpa using hc
    rw [hx]
    simp [List.getD, hc']⟩⟩, fun hi => by show cs.toArray.size ≤ i; simpa using hi⟩
section
variable {J : It} {n : Nat} {it : Nat → V} {σ : L2.St} {H H0 : Hp} {t : TT} {te : TE} {j : Nat} {vs : List Nat} {Q : VK} {wi : TI}
/-- a comprehension over it -/
theorem el_lcJ (f : Nat → Bool) (v : Nat → V) (hwi : ∀ H1, Ex H H1 → ∀ R : It → Hp → Prop, (∀ H2, Ex H1 H2 → R J H2) → wi σ H1 R) (hJ : ∀ H', Ex H H' → Gives J n it H') (hn : n ≤ 40000) (hw : ∀ x, wipe ((wipe σ vs).set j (some x)) vs = wipe σ vs)
    (ht : ∀ (i : Nat) H1, Ex H H1 → i < n → EvT t ((wipe σ vs).set j (some (it i))) H1 (f i)) (he : ∀ (i : Nat) H1, Ex H H1 → i < n → f i = true → Ev te ((wipe σ vs).set j (some (it i))) H1 (v i)) :
    EvL (tLc wi (gName j) t te vs) σ H (given n f v) := fun H0 e Q q => hwi H0 e _ fun H1 e1 => fun Dl hD =>
  ⟨fun i m H' => m = n - i ∧ i ≤ n ∧ Cw H1 f v Dl i H', ⟨n, by simp, Nat.zero_le _, hD, Ex.new hD, upd_same⟩, fun i m H' hw' => by
    obtain ⟨rfl, hi, p⟩ := hw'
    have hx := hJ H' ((e.trans e1).trans p.2.1) i
    by_cases hlt : i < n
    · refine .inr ⟨(hx.1 hlt).1, Cw H1 f v Dl (i + 1), fun H2 p' => ⟨n - (i + 1), by omega, rfl, hlt, p'⟩, fun x H2 y => ?_⟩
      obtain ⟨e2, ex⟩ := (hx.1 hlt).2 x H2 y
      subst e2 ex
      exact ⟨hw _, cw_turn p (by omega) (ht i H1 (e.trans e1) hlt) (fun hf => he i H1 (e.trans e1) hlt hf)⟩
    · have ei : i = n := by omega
      subst ei
      exact .inl ⟨hx.2 (Nat.le_refl _), q Dl H' (fresh_back e1 p.1) (e1.trans p.2.1) p.2.2⟩⟩
theorem el_cL {K : Fr} {a : Addr} {xs : List V} {tl : TE} (f : Nat → Bool) (v : Nat → V) (h : Ev tl σ H (.ref a)) (hx : SqL K H a xs) (hz : xs.length ≤ 40000) (hw : ∀ x, wipe ((wipe σ vs).set j (some x)) vs = wipe σ vs)
    (ht : ∀ (i : Nat) H1, Ex H H1 → i < xs.length → EvT t ((wipe σ vs).set j (some (xs.getD i .non))) H1 (f i)) (he : ∀ (i : Nat) H1, Ex H H1 → i < xs.length → f i = true → Ev te ((wipe σ vs).set j (some (xs.getD i .non))) H1 (v i)) :
    EvL (tLc (iList K tl) (gName j) t te vs) σ H (given xs.length f v) :=
  el_lcJ f v (fun H1 e R r => h H1 e _ fun H2 e2 => ⟨a, rfl, ⟨xs, ex_l (e.trans e2) hx⟩, r H2 e2⟩) (fun H' e => gives_list (ex_l e hx)) hz hw ht he
theorem el_cT {K : Fr} {a : Addr} {xs : List V} {tl : TE} (f : Nat → Bool) (v : Nat → V) (h : Ev tl σ H (.ref a)) (hx : SqT K H a xs) (hz : xs.length ≤ 40000) (hw : ∀ x, wipe ((wipe σ vs).set j (some x)) vs = wipe σ vs)
    (ht : ∀ (i : Nat) H1, Ex H H1 → i < xs.length → EvT t ((wipe σ vs).set j (some (xs.getD i .non))) H1 (f i)) (he : ∀ (i : Nat) H1, Ex H H1 → i < xs.length → f i = true → Ev te ((wipe σ vs).set j (some (xs.getD i .non))) H1 (v i)) :
    EvL (tLc (iTup K tl) (gName j) t te vs) σ H (given xs.length f v) :=
  el_lcJ f v (fun H1 e R r => h H1 e _ fun H2 e2 => ⟨a, rfl, ⟨xs, ex_t (e.trans e2) hx⟩, r H2 e2⟩) (fun H' e => gives_tup (ex_t e hx)) hz hw ht he
theorem el_cS {cs : List Nat} {tl : TE} (f : Nat → Bool) (v : Nat → V) (h : Ev tl σ H (.str (SX.S cs))) (hz : cs.length ≤ 40000) (hw : ∀ x, wipe ((wipe σ vs).set j (some x)) vs = wipe σ vs)
    (ht : ∀ (i : Nat) H1, Ex H H1 → i < cs.length → EvT t ((wipe σ vs).set j (some (.str (SX.S [cs.getD i 0])))) H1 (f i)) (he : ∀ (i : Nat) H1, Ex H H1 → i < cs.length → f i = true → Ev te ((wipe σ vs).set j (some (.str (SX.S [cs.getD i 0])))) H1 (v i)) :
    EvL (tLc (iStr tl) (gName j) t te vs) σ H (given cs.length f v) :=
  el_lcJ f v (fun H1 e R r => h H1 e _ fun H2 e2 => ⟨SX.S cs, rfl, r H2 e2⟩) (fun H' e => gives_str) hz hw ht he
theorem el_cR {m : Nat} {ta : TA} (f : Nat → Bool) (v : Nat → V) (h : EvA ta σ H [.int (m : Int)]) (hz : m ≤ 40000) (hw : ∀ x, wipe ((wipe σ vs).set j (some x)) vs = wipe σ vs)
    (ht : ∀ (i : Nat) H1, Ex H H1 → i < m → EvT t ((wipe σ vs).set j (some (.int (i : Int)))) H1 (f i)) (he : ∀ (i : Nat) H1, Ex H H1 → i < m → f i = true → Ev te ((wipe σ vs).set j (some (.int (i : Int)))) H1 (v i)) :
    EvL (tLc (iRng1 ta) (gName j) t te vs) σ H (given m f v) :=
  el_lcJ (J := Itr 0 m) (it := fun i => .int (i : Int)) f v (fun H1 e R r => h H1 e _ fun H2 e2 => ⟨(m : Int), rfl, by omega, by omega, r H2 e2⟩) (fun H' e i => ⟨fun hi => ⟨hi, fun x H'' y => ⟨y.1, by rw [y.2, Int.zero_add]⟩⟩, fun hi => hi⟩) hz hw ht he
end
/-- a comprehension whose items are made anew: by a word of the list so far -/
theorem lc_P {J : It} {n : Nat} {it : Nat → V} {σ : L2.St} {H : Hp} {te : TE} {j : Nat} {vs : List Nat} {Q : VK} {wi : TI} (Pv : Addr → Nat → List V → Hp → Prop) (hwi : ∀ R : It → Hp → Prop, R J H → wi σ H R) (h0 : ∀ D, H D = none → Pv D 0 [] (upd H D (.lst [])))
    (hJ : ∀ D i acc H', Pv D i acc H' → Gives J n it H') (hw : ∀ x, wipe ((wipe σ vs).set j (some x)) vs = wipe σ vs)
    (he : ∀ D i acc H', i < n → Pv D i acc H' → te ((wipe σ vs).set j (some (it i))) H' fun y H4 => ∃ acc, H4 D = some (.lst acc) ∧ acc.length < sizeLine ∧ ∃ acc2, Pv D (i + 1) acc2 (upd H4 D (.lst (acc ++ [y]))))
    (hd : ∀ D acc H', Pv D n acc H' → Q (.ref D) H') : tLc wi (gName j) tYes te vs σ H Q := hwi _ fun Dl hD =>
  ⟨fun i m H' => m = n - i ∧ i ≤ n ∧ ∃ acc, Pv Dl i acc H', ⟨n, by simp, Nat.zero_le _, [], h0 Dl hD⟩, fun i m H' hw' => by
    obtain ⟨rfl, hi, acc, p⟩ := hw'
    have hx := hJ Dl i acc H' p i
    by_cases hlt : i < n
    · refine .inr ⟨(hx.1 hlt).1, fun H2 => ∃ acc2, Pv Dl (i + 1) acc2 H2, fun H2 p' => ⟨n - (i + 1), by omega, rfl, hlt, p'⟩, fun x H2 y => ?_⟩
      obtain ⟨e2, ex⟩ := (hx.1 hlt).2 x H2 y
      subst e2 ex
      refine ⟨hw _, ?_⟩
      exact he Dl i acc H2 hlt p
    · have ei : i = n := by omega
      subst ei
      exact .inl ⟨hx.2 (Nat.le_refl _), hd Dl acc H' p⟩⟩
/-- a for over an iterator that leaves all as it is -/
theorem for_J {J : It} {n : Nat} {it : Nat → V} {g : TG} {tb : TS} {D : Ends} {σ : L2.St} {H : Hp} (Pv : Nat → L2.St → Hp → Prop) (h0 : Pv 0 σ H) (hJ : ∀ i σ H, i ≤ n → Pv i σ H → Gives J n it H)
    (hs : ∀ i σ H, i < n → Pv i σ H → g (it i) σ H fun σ2 H2 => tb { D with nx := Pv (i + 1), ct := Pv (i + 1), bk := D.nx } σ2 H2) (hd : ∀ σ H, Pv n σ H → D.nx σ H) :
    ∃ W : Nat → Nat → L2.St → Hp → Prop, (∃ m, W 0 m σ H) ∧ ∀ i m σ H, W i m σ H →
      (J.stop i H ∧ D.nx σ H) ∨ (J.go i H ∧ ∃ N : L2.St → Hp → Prop, (∀ σ' H', N σ' H' → ∃ m', m' < m ∧ W (i + 1) m' σ' H') ∧ ∀ x H', J.yld i H x H' → g x σ H' fun σ2 H2 => tb { D with nx := N, ct := N, bk := D.nx } σ2 H2) := by
  refine ⟨fun i m σ H => m = n - i ∧ i ≤ n ∧ Pv i σ H, ⟨n, by simp, Nat.zero_le _, h0⟩, ?_⟩
  rintro i m σ H ⟨rfl, hi, p⟩
  have hx := hJ i σ H hi p i
  by_cases hlt : i < n
  · refine .inr ⟨(hx.1 hlt).1, Pv (i + 1), fun σ' H' p' => ⟨n - (i + 1), by omega, rfl, hlt, p'⟩, fun x H' y => ?_⟩
    obtain ⟨e, ex⟩ := (hx.1 hlt).2 x H' y
    subst e ex
    exact hs i σ _ hlt p
  · have e : i = n := by omega
    subst e
    exact .inl ⟨hx.2 (Nat.le_refl _), hd σ H p⟩
/-- a for over enumerate(list): the pair is new at each turn -/
theorem for_enum {K : Fr} {a : Addr} {xs : List V} {g : TG} {tb : TS} {D : Ends} {σ : L2.St} {H : Hp} (Pv : Nat → L2.St → Hp → Prop) (h0 : Pv 0 σ H) (hl : ∀ i σ H, i ≤ xs.length → Pv i σ H → SqL K H a xs)
    (hs : ∀ i x σ H, xs[i]? = some x → Pv i σ H → ∀ T, H T = none → g (.ref T) σ (upd H T (.tup [.int (i : Nat), x])) fun σ2 H2 => tb { D with nx := Pv (i + 1), ct := Pv (i + 1), bk := D.nx } σ2 H2) (hd : ∀ σ H, Pv xs.length σ H → D.nx σ H) :
    ∃ W : Nat → Nat → L2.St → Hp → Prop, (∃ m, W 0 m σ H) ∧ ∀ i m σ H, W i m σ H →
      ((Ite K a).stop i H ∧ D.nx σ H) ∨ ((Ite K a).go i H ∧ ∃ N : L2.St → Hp → Prop, (∀ σ' H', N σ' H' → ∃ m', m' < m ∧ W (i + 1) m' σ' H') ∧ ∀ x H', (Ite K a).yld i H x H' → g x σ H' fun σ2 H2 => tb { D with nx := N, ct := N, bk := D.nx } σ2 H2) := by
  refine ⟨fun i m σ H => m = xs.length - i ∧ i ≤ xs.length ∧ Pv i σ H, ⟨xs.length, by simp, Nat.zero_le _, h0⟩, ?_⟩
  rintro i m σ H ⟨rfl, hi, p⟩
  have q := hl i σ H hi p
  by_cases hlt : i < xs.length
  · refine .inr ⟨⟨xs, xs[i], q, by simp [hlt]⟩, Pv (i + 1), fun σ' H' p' => ⟨xs.length - (i + 1), by omega, rfl, hlt, p'⟩, fun x H' y => ?_⟩
    obtain ⟨T, x2, e1, e2, e3, e4⟩ := y
    subst e1 e3
    exact hs i x2 σ _ (e4 xs q) p T e2
  · have e : i = xs.length := by omega
    subst e
    exact .inl ⟨⟨xs, q, Nat.le_refl _⟩, hd σ H p⟩
/-! ### heights -/
open Classical in
/-- how high the ball flies that lands at x -/
noncomputable def hgt (c : Int → Int) (x : Int) : Int := if h : ∃ y, c y = x then Classical.choose h - x else 0
theorem hgt_of {p : Nat} {c : Int → Int} (g : Mth.Good p c) {x y : Int} (e : c y = x) : hgt c x = y - x := by
  unfold hgt
  rw [dif_pos ⟨y, e⟩]
  have h : c (Classical.choose (⟨y, e⟩ : ∃ y, c y = x)) = x := Classical.choose_spec (⟨y, e⟩ : ∃ y, c y = x)
  rw [g.inj _ _ (h.trans e.symm)]
theorem hgt_per {p : Nat} {c : Int → Int} (g : Mth.Good p c) (x : Int) : hgt c (x + p) = hgt c x := by
  obtain ⟨y, e⟩ := g.sur x
  rw [hgt_of g e, hgt_of g (y := y + p) (by rw [g.per, e])]
  omega
/-- the heights' list filled in, i places done -/
def hv (p : Nat) (c : Int → Int) : Nat → Int → Int
  | 0, _ => 0
  | i + 1, x => if x = c i % p then (i : Int) - c i else hv p c i x
theorem hv_hit {p : Nat} {c : Int → Int} (hp : 0 < p) (g : Mth.Good p c) {x : Int} (hx : 0 ≤ x ∧ x < p) : ∀ {i : Nat}, (∃ j : Nat, j < i ∧ x = c j % p) → hv p c i x = hgt c x
  | 0, h => by
    obtain ⟨j, hj, _⟩ := h
    omega
  | i + 1, h => by
    show (if x = c i % p then (i : Int) - c i else hv p c i x) = _
    by_cases hi : x = c i % p
    · rw [if_pos hi]
      have h1 := Int.emod_add_mul_ediv (c i) p
      have e : c ((i : Int) + (-(c i / p)) * p) = x := by
        rw [per_int g.per, hi, Int.neg_mul, Int.mul_comm]
        omega
      rw [hgt_of g e, Int.neg_mul, Int.mul_comm, hi]
      omega
    · rw [if_neg hi]
      obtain ⟨j, hj, ej⟩ := h
      exact hv_hit hp g hx ⟨j, by
        have : j ≠ i := fun z => hi (z ▸ ej)
        omega, ej⟩
theorem hv_all {p : Nat} {c : Int → Int} (hp : 0 < p) (g : Mth.Good p c) {x : Int} (hx : 0 ≤ x ∧ x < p) : hv p c p x = hgt c x := by
  refine hv_hit hp g hx ?_
  obtain ⟨y, e⟩ := g.sur x
  have h0 := Int.emod_nonneg y (show (p : Int) ≠ 0 by omega)
  have h1 := Int.emod_lt_of_pos y (show (0 : Int) < p by omega)
  obtain ⟨j, hj⟩ := Int.eq_ofNat_of_zero_le h0
  refine ⟨j, by omega, ?_⟩
  have h2 := per_mod g.per y
  rw [hj] at h2
  have h3 : c j = x + -(y / p) * p := by
    have := Int.emod_add_mul_ediv y p
    rw [Int.neg_mul, Int.mul_comm]
    omega
  rw [h3, Int.add_mul_emod_self_right, Int.emod_eq_of_lt hx.1 hx.2]
theorem cl_set {p : Nat} {f : Int → Int} {j : Nat} {v : Int} : (cl p f).set j (.int v) = cl p (fun x => if x = (j : Int) then v else f x) := by
  refine List.ext_getElem? fun i => ?_
  rw [List.getElem?_set]
  by_cases hi : i < p
  · by_cases hj : j = i
    · subst hj
      rw [if_pos rfl, cl_len, if_pos hi, cl_at hi, if_pos rfl]
    · rw [if_neg hj, cl_at hi, cl_at hi, if_neg (by omega)]
  · have h1 : ∀ g, (cl p g)[i]? = none := fun g => List.getElem?_eq_none (by rw [cl_len]; omega)
    by_cases hj : j = i
    · subst hj
      rw [if_pos rfl, cl_len, if_neg hi, h1]
    · rw [if_neg hj, h1, h1]
theorem cl_congr {p : Nat} {f g : Int → Int} (h : ∀ i : Nat, i < p → f i = g i) : cl p f = cl p g := by
  unfold cl
  refine List.map_congr_left fun i hi => ?_
  rw [h i (List.mem_range.mp hi)]
theorem ixN_int {n : Nat} {x : Int} (h : 0 ≤ x ∧ x < n) : ixN n x = some x.toNat := by
  obtain ⟨j, rfl⟩ := Int.eq_ofNat_of_zero_le h.1
  exact ixN_nat (by omega)
end Dk
end
section
set_option Elab.async false
set_option linter.all false
set_option maxRecDepth 100000
set_option maxHeartbeats 1000000
set_option pp.maxSteps 700
namespace Dk
open PySem PySem.Spec PyProof.Rows L2 L2H Evl
/-- a fact of the heap as it stands: said, or carried along -/
local macro_rules | `(tactic| walk_at "fact") => `(tactic| first
  | assumption
  | exact ex_at (by assumption) (by walk_at "fact"))
/-- a heap holds what one ahead held -/
local macro_rules | `(tactic| walk_at "ex") => `(tactic| first
  | assumption
  | exact Ex.refl _
  | exact exr (by assumption) (by walk_at "ex"))
/-- a list, a tuple to be read -/
local macro_rules | `(tactic| walk_at "seq") => `(tactic| first
  | assumption
  | exact sq_of (by walk_at "fact")
  | exact st_of (by walk_at "fact")
  | exact ex_l (by assumption) (by walk_at "seq")
  | exact ex_t (by assumption) (by walk_at "seq"))
/-- the rules' words opened, as far as nothing is asked -/
local macro_rules | `(tactic| walk_at "p1") => `(tactic| with_reducible first | refine go_name ?_ | refine go_seq ?_ | refine go_asg ?_ | refine go_ret ?_ | refine go_retN ?_ | refine go_next ?_ | refine go_drop ?_ | refine go_ifs ?_ | refine go_cons ?_ | refine go_nil ?_ | refine go_cb ?_ | refine go_op ?_ | refine go_un ?_ | refine go_c ?_ | refine go_test ?_ | refine go_b ?_ | refine go_and ?_ | refine go_or ?_ | refine go_not ?_ | refine go_if ?_ | refine go_call ?_ | refine go_bm ?_ | refine go_fld ?_ | refine go_lst ?_ | refine go_tup ?_ | refine go_part ?_ | refine go_nop ?_ | refine go_for ?_ | refine go_rng1 ?_ | refine go_rng2 ?_ | refine go_rng3 ?_ | refine go_iS ?_ | refine go_iL ?_ | refine go_iE ?_ | refine go_iZ ?_ | refine go_gsub ?_ | refine go_gcons ?_ | refine go_gnil ?_ | refine go_prop ?_ | refine go_meth ?_ | refine go_rz ?_ | refine go_make ?_ | refine go_sfld ?_ | refine go_sl ?_ | refine go_andV ?_ | refine go_orV ?_ | refine go_notV ?_ | refine go_lrg ?_ | refine go_rg1 ?_ | refine go_chain ?_ | refine go_cval ?_)
local macro_rules | `(tactic| walk_at "p") => `(tactic| repeat walk_at "p1")
/-- one step of a reading -/
local macro_rules | `(tactic| walk_at "s1") => `(tactic| first
  | walk_at "p1"
  | ((with_reducible apply go_var); (exact rfl))
  | with_reducible refine go_rI0 ?_
  | with_reducible refine go_rU ?_
  | with_reducible refine go_bl ?_
  | ((with_reducible apply go_rEq); (exact rfl))
  | ((with_reducible apply go_rNe); (exact rfl))
  | with_reducible refine go_isN ?_
  | with_reducible refine iteT ?_
  | with_reducible refine iteF ?_
  | with_reducible refine iteNF ?_
  | with_reducible refine iteNT ?_
  | refine ⟨_, _, rfl, Or.inl ⟨_, (by walk_at "seq"), rfl⟩, ?_⟩
  | refine ⟨_, _, rfl, Or.inr ⟨_, (by walk_at "seq"), rfl⟩, ?_⟩
  | with_reducible refine go_tyS ?_
  | ((with_reducible apply go_gtup); (walk_at "seq"); (rfl))
  | ((with_reducible apply go_app); (walk_at "seq"))
  | with_reducible refine ⟨sz_of (by first | decide | simp), ?_⟩
  | with_reducible refine ⟨_, rfl, ?_⟩
  | with_reducible refine ⟨_, _, rfl, rfl, ?_⟩)
local macro_rules | `(tactic| walk_at "s") => `(tactic| repeat walk_at "s1")
section
variable {P : Program} {w : World} {K : Fr} {mg : Str → Option Value} {base : Heap}

/-! ### the errors -/
section
variable {C fI : Addr} {fd : FuncData} {x qual f : Str} {params : Arguments} {body : List Stmt} {scope : Scope} {p1 p2 p3 p4 : Pos}
/-- an error's __init__(self, f): self.f = f -/
theorem fnq_init (F : FunD K x qual params body scope [] [] fI fd) (S : FnScope [("self" : Str), f] [("self" : Str), f] scope) (hb : body = [.Assign [.Attribute (.Name "self" p1) f p2] (.Name f p3) p4]) (hf : scope.names.lookup f = some .local) (hs : scope.names.lookup ("self" : Str) = some .local) (hd : (f == ("__debug__" : Str)) = false) (hd2 : (f == ("__classdict__" : Str)) = false)
    (T : OexC K C) (hn : PySem.W.findIn K (.ref C) f = some none) (hsw : ∀ env : Env, swapsWith (.Name f p3) (some (.Attribute (.Name "self" p1) f p2)) p4.line env = pure false) : FnQ P w K mg base 1 fI fd ["self", f] (spEx K C f) := by
  subst hb
  refine fnq_of F S (fun vs H Q E h => ?_) (fun cdv A outer s H vs Q E p hr h => ?_)
  · obtain ⟨_, _, rfl, _⟩ := h
    rfl
  · obtain ⟨a, v, rfl, ha, k⟩ := h
    refine ⟨_, pss_one (ps_ost (pe_var (i := 0) rfl (.inl hs) (by decide)) (pe_var (i := 1) rfl (.inl hf) hd hd2) (hsw _)), ?_⟩
    refine ⟨_, rfl, _, rfl, a, C, rfl, T, hn, .inl ⟨ha, fun dx nd ne => ?_⟩⟩
    exact k dx nd ne
end
theorem q_BadSize (T : Tx w K mg) : FnQ P w K mg base 1 (a_BadSize_init K) (fdOf K (a_BadSize_init K)) ["self", "size"] (spEx K (He.ga K "BadSize") "size") := fnq_init T.d_BadSize_init sc_BadSize_init rfl (by decide +kernel) (by decide +kernel) (by decide +kernel) (by decide +kernel) T.ex_BadSize T.xn_BadSize (fun _ => rfl)
theorem q_TooManyBalls (T : Tx w K mg) : FnQ P w K mg base 1 (a_TooManyBalls_init K) (fdOf K (a_TooManyBalls_init K)) ["self", "amount"] (spEx K (He.ga K "TooManyBalls") "amount") := fnq_init T.d_TooManyBalls_init sc_TooManyBalls_init rfl (by decide +kernel) (by decide +kernel) (by decide +kernel) (by decide +kernel) T.ex_TooManyBalls T.xn_TooManyBalls (fun _ => rfl)
theorem q_BadText (T : Tx w K mg) : FnQ P w K mg base 1 (a_BadText_init K) (fdOf K (a_BadText_init K)) ["self", "index"] (spEx K (He.ga K "BadText") "index") := fnq_init T.d_BadText_init sc_BadText_init rfl (by decide +kernel) (by decide +kernel) (by decide +kernel) (by decide +kernel) T.ex_BadText T.xn_BadText (fun _ => rfl)
theorem q_BadPage (T : Tx w K mg) : FnQ P w K mg base 1 (a_BadPage_init K) (fdOf K (a_BadPage_init K)) ["self", "index"] (spEx K (He.ga K "BadPage") "index") := fnq_init T.d_BadPage_init sc_BadPage_init rfl (by decide +kernel) (by decide +kernel) (by decide +kernel) (by decide +kernel) T.ex_BadPage T.xn_BadPage (fun _ => rfl)
theorem q_NoPage (T : Tx w K mg) : FnQ P w K mg base 1 (a_NoPage_init K) (fdOf K (a_NoPage_init K)) ["self", "number"] (spEx K (He.ga K "NoPage") "number") := fnq_init T.d_NoPage_init sc_NoPage_init rfl (by decide +kernel) (by decide +kernel) (by decide +kernel) (by decide +kernel) T.ex_NoPage T.xn_NoPage (fun _ => rfl)
theorem q_PageLost (T : Tx w K mg) : FnQ P w K mg base 1 (a_PageLost_init K) (fdOf K (a_PageLost_init K)) ["self", "number"] (spEx K (He.ga K "PageLost") "number") := fnq_init T.d_PageLost_init sc_PageLost_init rfl (by decide +kernel) (by decide +kernel) (by decide +kernel) (by decide +kernel) T.ex_PageLost T.xn_PageLost (fun _ => rfl)
theorem q_NotLost (T : Tx w K mg) : FnQ P w K mg base 1 (a_NotLost_init K) (fdOf K (a_NotLost_init K)) ["self", "number"] (spEx K (He.ga K "NotLost") "number") := fnq_init T.d_NotLost_init sc_NotLost_init rfl (by decide +kernel) (by decide +kernel) (by decide +kernel) (by decide +kernel) T.ex_NotLost T.xn_NotLost (fun _ => rfl)
theorem q_Full (T : Tx w K mg) : FnQ P w K mg base 1 (a_Full_init K) (fdOf K (a_Full_init K)) ["self", "size"] (spEx K (He.ga K "Full") "size") := fnq_init T.d_Full_init sc_Full_init rfl (by decide +kernel) (by decide +kernel) (by decide +kernel) (by decide +kernel) T.ex_Full T.xn_Full (fun _ => rfl)
theorem q_Refused (T : Tx w K mg) : FnQ P w K mg base 1 (a_Refused_init K) (fdOf K (a_Refused_init K)) ["self", "index"] (spEx K (He.ga K "Refused") "index") := fnq_init T.d_Refused_init sc_Refused_init rfl (by decide +kernel) (by decide +kernel) (by decide +kernel) (by decide +kernel) T.ex_Refused T.xn_Refused (fun _ => rfl)
/-- an error of the program -/
structure IsRoll (K : Fr) (C : Addr) : Prop where
  m : PySem.W.exmOne K (.ref C) (.ref (He.ga K "RollError")) = some true
  ex : PySem.W.subIn K (.ref C) (.type "BaseException") = some true
  ty : PySem.W.typeIn K (.ref C) = some (.type "type")
theorem roll_BadSize (T : Tx w K mg) : IsRoll K (He.ga K "BadSize") := ⟨T.er_BadSize, T.ex_BadSize.exC, T.ex_BadSize.tyC⟩
theorem roll_TooManyBalls (T : Tx w K mg) : IsRoll K (He.ga K "TooManyBalls") := ⟨T.er_TooManyBalls, T.ex_TooManyBalls.exC, T.ex_TooManyBalls.tyC⟩
theorem roll_BadText (T : Tx w K mg) : IsRoll K (He.ga K "BadText") := ⟨T.er_BadText, T.ex_BadText.exC, T.ex_BadText.tyC⟩
theorem roll_BadPage (T : Tx w K mg) : IsRoll K (He.ga K "BadPage") := ⟨T.er_BadPage, T.ex_BadPage.exC, T.ex_BadPage.tyC⟩
theorem roll_NoPage (T : Tx w K mg) : IsRoll K (He.ga K "NoPage") := ⟨T.er_NoPage, T.ex_NoPage.exC, T.ex_NoPage.tyC⟩
theorem roll_PageLost (T : Tx w K mg) : IsRoll K (He.ga K "PageLost") := ⟨T.er_PageLost, T.ex_PageLost.exC, T.ex_PageLost.tyC⟩
theorem roll_NotLost (T : Tx w K mg) : IsRoll K (He.ga K "NotLost") := ⟨T.er_NotLost, T.ex_NotLost.exC, T.ex_NotLost.tyC⟩
theorem roll_Full (T : Tx w K mg) : IsRoll K (He.ga K "Full") := ⟨T.er_Full, T.ex_Full.exC, T.ex_Full.tyC⟩
theorem roll_Refused (T : Tx w K mg) : IsRoll K (He.ga K "Refused") := ⟨T.er_Refused, T.ex_Refused.exC, T.ex_Refused.tyC⟩
theorem roll_NoCard (T : Tx w K mg) : IsRoll K (He.ga K "NoCard") := ⟨T.er_NoCard, T.ex_NoCard.exC, T.ex_NoCard.tyC⟩
theorem roll_NothingToUndo (T : Tx w K mg) : IsRoll K (He.ga K "NothingToUndo") := ⟨T.er_NothingToUndo, T.ex_NothingToUndo.exC, T.ex_NothingToUndo.tyC⟩
end
end Dk
end
section
set_option Elab.async false
set_option linter.all false
set_option maxRecDepth 100000
set_option maxHeartbeats 1000000
set_option pp.maxSteps 700
namespace Dk
open PySem PySem.Spec PyProof.Rows L2 L2H Evl
/-- a fact of the heap as it stands: said, or carried along -/
local macro_rules | `(tactic| walk_at "fact") => `(tactic| first
  | assumption
  | exact ex_at (by assumption) (by walk_at "fact"))
/-- a heap holds what one ahead held -/
local macro_rules | `(tactic| walk_at "ex") => `(tactic| first
  | assumption
  | exact Ex.refl _
  | exact exr (by assumption) (by walk_at "ex"))
/-- a list, a tuple to be read -/
local macro_rules | `(tactic| walk_at "seq") => `(tactic| first
  | assumption
  | exact sq_of (by walk_at "fact")
  | exact st_of (by walk_at "fact")
  | exact ex_l (by assumption) (by walk_at "seq")
  | exact ex_t (by assumption) (by walk_at "seq"))
/-- the rules' words opened, as far as nothing is asked -/
local macro_rules | `(tactic| walk_at "p1") => `(tactic| with_reducible first | refine go_name ?_ | refine go_seq ?_ | refine go_asg ?_ | refine go_ret ?_ | refine go_retN ?_ | refine go_next ?_ | refine go_drop ?_ | refine go_ifs ?_ | refine go_cons ?_ | refine go_nil ?_ | refine go_cb ?_ | refine go_op ?_ | refine go_un ?_ | refine go_c ?_ | refine go_test ?_ | refine go_b ?_ | refine go_and ?_ | refine go_or ?_ | refine go_not ?_ | refine go_if ?_ | refine go_call ?_ | refine go_bm ?_ | refine go_fld ?_ | refine go_lst ?_ | refine go_tup ?_ | refine go_part ?_ | refine go_nop ?_ | refine go_for ?_ | refine go_rng1 ?_ | refine go_rng2 ?_ | refine go_rng3 ?_ | refine go_iS ?_ | refine go_iL ?_ | refine go_iE ?_ | refine go_iZ ?_ | refine go_gsub ?_ | refine go_gcons ?_ | refine go_gnil ?_ | refine go_prop ?_ | refine go_meth ?_ | refine go_rz ?_ | refine go_make ?_ | refine go_sfld ?_ | refine go_sl ?_ | refine go_andV ?_ | refine go_orV ?_ | refine go_notV ?_ | refine go_lrg ?_ | refine go_rg1 ?_ | refine go_chain ?_ | refine go_cval ?_)
local macro_rules | `(tactic| walk_at "p") => `(tactic| repeat walk_at "p1")
/-- one step of a reading -/
local macro_rules | `(tactic| walk_at "s1") => `(tactic| first
  | walk_at "p1"
  | ((with_reducible apply go_var); (exact rfl))
  | with_reducible refine go_rI0 ?_
  | with_reducible refine go_rU ?_
  | with_reducible refine go_bl ?_
  | ((with_reducible apply go_rEq); (exact rfl))
  | ((with_reducible apply go_rNe); (exact rfl))
  | with_reducible refine go_isN ?_
  | with_reducible refine iteT ?_
  | with_reducible refine iteF ?_
  | with_reducible refine iteNF ?_
  | with_reducible refine iteNT ?_
  | refine ⟨_, _, rfl, Or.inl ⟨_, (by walk_at "seq"), rfl⟩, ?_⟩
  | refine ⟨_, _, rfl, Or.inr ⟨_, (by walk_at "seq"), rfl⟩, ?_⟩
  | with_reducible refine go_tyS ?_
  | ((with_reducible apply go_gtup); (walk_at "seq"); (rfl))
  | ((with_reducible apply go_app); (walk_at "seq"))
  | with_reducible refine ⟨sz_of (by first | decide | simp), ?_⟩
  | with_reducible refine ⟨_, rfl, ?_⟩
  | with_reducible refine ⟨_, _, rfl, rfl, ?_⟩)
local macro_rules | `(tactic| walk_at "s") => `(tactic| repeat walk_at "s1")
section
variable {P : Program} {w : World} {K : Fr} {mg : Str → Option Value} {base : Heap}
/-! Dt -/

/-! ### the data -/
/-- the places, the letters, where each letter stands -/
structure Wd where
  p : Nat
  L : List Nat
  st : Nat → Nat → Bool
structure Wd.Ok (W : Wd) : Prop where
  pos : 0 < W.p
  le : W.p ≤ 3
  asc : W.L.Pairwise (· < ·)
  len : 2 ≤ W.L.length ∧ W.L.length ≤ 4
  rng : ∀ c ∈ W.L, 97 ≤ c ∧ c ≤ 122
  hit : ∀ c ∈ W.L, ∃ x, x < W.p ∧ W.st c x = true
/-- where the letter c stands, on the whole line -/
def Wd.S (W : Wd) (c : Nat) (y : Int) : Bool := W.st c (y % W.p).toNat
/-- the word of the place x -/
def Wd.word (W : Wd) (x : Nat) : List Nat := W.L.filter fun c => W.st c x
def Wd.words (W : Wd) : List (List Nat) := (List.range W.p).map W.word
inductive Pg where
  | kn (z : List Nat)
  | lo (n : Nat)
  deriving DecidableEq
def Pg.v : Pg → V
  | .kn z => .str (SX.S z)
  | .lo n => .int n
def Pg.shown : Pg → V
  | .kn z => .str (SX.S z)
  | .lo _ => .non
def Pg.size : Pg → Nat
  | .kn z => z.length
  | .lo n => n
structure Acc where
  rows : List Pg
  card : Option (List Int)
  bound : Nat
abbrev clO (x : Str) (f : Str) (v : V) : List (Str × V) := [(f, v)]
def stF (a b c d : V) : List (Str × V) := [("held", a), ("shown", b), ("kept_card", c), ("kept_bound", d)]
def dkF (a b c : V) : List (Str × V) := [("calendar", a), ("_now", b), ("_past", c)]
def trF (a b c d : V) : List (Str × V) := [("_desk", a), ("_state", b), ("_steps", c), ("_one_step_more", d)]
def caF (a : V) : List (Str × V) := [("_heights", a)]
def klF (a : V) : List (Str × V) := [("_words", a)]
theorem lkY {f : Str} {v : V} {r : List (Str × V)} : ((f, v) :: r).lookup f = some v := by rw [List.lookup_cons, beq_self_eq_true]
theorem lkN {f g : Str} {v : V} {r : List (Str × V)} {z : Option V} (h : g ≠ f) (k : r.lookup g = z) : ((f, v) :: r).lookup g = z := by
  rw [List.lookup_cons, beq_eq_false_iff_ne.mpr h]
  exact k
theorem put1 {f : Str} {v : V} : putF f v [] = [(f, v)] := rfl
theorem puY {f : Str} {v x : V} {r : List (Str × V)} : putF f v ((f, x) :: r) = (f, v) :: r := if_pos rfl
theorem puN {f g : Str} {v x : V} {r z : List (Str × V)} (h : g ≠ f) (k : putF f v r = z) : putF f v ((g, x) :: r) = (g, x) :: z := by
  show (if g = f then _ else _) = _
  rw [if_neg h, k]
section
variable {a b c d v : V}
theorem st1 : (stF a b c d).lookup ("held" : Str) = some a := lkY
theorem st2 : (stF a b c d).lookup ("shown" : Str) = some b := lkN (by decide +kernel) lkY
theorem st3 : (stF a b c d).lookup ("kept_card" : Str) = some c := lkN (by decide +kernel) (lkN (by decide +kernel) lkY)
theorem st4 : (stF a b c d).lookup ("kept_bound" : Str) = some d := lkN (by decide +kernel) (lkN (by decide +kernel) (lkN (by decide +kernel) lkY))
theorem stP : putF "kept_bound" d (putF "kept_card" c (putF "shown" b (putF "held" a []))) = stF a b c d := by
  rw [put1, puN (by decide +kernel) put1, puN (by decide +kernel) (puN (by decide +kernel) put1), puN (by decide +kernel) (puN (by decide +kernel) (puN (by decide +kernel) put1))]
  rfl
theorem dk1 : (dkF a b c).lookup ("calendar" : Str) = some a := lkY
theorem dk2 : (dkF a b c).lookup ("_now" : Str) = some b := lkN (by decide +kernel) lkY
theorem dk3 : (dkF a b c).lookup ("_past" : Str) = some c := lkN (by decide +kernel) (lkN (by decide +kernel) lkY)
theorem dkP : putF "_past" c (putF "_now" b (putF "calendar" a [])) = dkF a b c := by
  rw [put1, puN (by decide +kernel) put1, puN (by decide +kernel) (puN (by decide +kernel) put1)]
  rfl
theorem dkP2 : putF "_now" v (dkF a b c) = dkF a v c := puN (by decide +kernel) puY
theorem dkP3 : putF "_past" v (dkF a b c) = dkF a b v := puN (by decide +kernel) (puN (by decide +kernel) puY)
theorem dkNo {m : Str} (h1 : m ≠ "calendar") (h2 : m ≠ "_now") (h3 : m ≠ "_past") : (dkF a b c).lookup m = none := lkN h1 (lkN h2 (lkN h3 rfl))
theorem tr1 : (trF a b c d).lookup ("_desk" : Str) = some a := lkY
theorem tr2 : (trF a b c d).lookup ("_state" : Str) = some b := lkN (by decide +kernel) lkY
theorem tr3 : (trF a b c d).lookup ("_steps" : Str) = some c := lkN (by decide +kernel) (lkN (by decide +kernel) lkY)
theorem tr4 : (trF a b c d).lookup ("_one_step_more" : Str) = some d := lkN (by decide +kernel) (lkN (by decide +kernel) (lkN (by decide +kernel) lkY))
theorem trP : putF "_one_step_more" d (putF "_steps" c (putF "_state" b (putF "_desk" a []))) = trF a b c d := by
  rw [put1, puN (by decide +kernel) put1, puN (by decide +kernel) (puN (by decide +kernel) put1), puN (by decide +kernel) (puN (by decide +kernel) (puN (by decide +kernel) put1))]
  rfl
theorem ca1 : (caF a).lookup ("_heights" : Str) = some a := lkY
theorem caNo {m : Str} (h1 : m ≠ "_heights") : (caF a).lookup m = none := lkN h1 rfl
theorem kl1 : (klF a).lookup ("_words" : Str) = some a := lkY
theorem klNo {m : Str} (h1 : m ≠ "_words") : (klF a).lookup m = none := lkN h1 rfl
end
/-! what stands in the heap (all but the desk itself stays as it is) -/
def CalAt (K : Fr) (H : Hp) (c : Addr) (W : Wd) : Prop := ∃ dx ws, H c = some (.ins (He.ga K "Calendar") dx (klF (.ref ws))) ∧ H ws = some (.lst (W.words.map fun z => V.str (SX.S z)))
def CastAt (K : Fr) (H : Hp) (c : Addr) (hs : List Int) : Prop := ∃ dx t, H c = some (.ins (He.ga K "Cast") dx (caF (.ref t))) ∧ H t = some (.tup (hs.map V.int))
def CardAt (K : Fr) (H : Hp) (v : V) : Option (List Int) → Prop
  | none => v = .non
  | some hs => ∃ c, v = .ref c ∧ CastAt K H c hs
def StAt (K : Fr) (H : Hp) (s : Addr) (A : Acc) : Prop := ∃ dx h sh cd, H s = some (.ins (He.ga K "State") dx (stF (.ref h) (.ref sh) cd (.int A.bound))) ∧ H h = some (.lst (A.rows.map Pg.v)) ∧ H sh = some (.lst (A.rows.map Pg.shown)) ∧ CardAt K H cd A.card
def PastAt (K : Fr) (H : Hp) (t : Addr) (past : List Acc) : Prop := ∃ ss : List Addr, SqT K H t (ss.map V.ref) ∧ Paired (fun s A => StAt K H s A) ss past
theorem CalAt.ex {K : Fr} {H H' : Hp} {c : Addr} {W : Wd} (h : CalAt K H c W) (e : Ex H H') : CalAt K H' c W := by
  obtain ⟨dx, ws, h1, h2⟩ := h
  exact ⟨dx, ws, e _ _ h1, e _ _ h2⟩
theorem CastAt.ex {K : Fr} {H H' : Hp} {c : Addr} {hs : List Int} (h : CastAt K H c hs) (e : Ex H H') : CastAt K H' c hs := by
  obtain ⟨dx, ws, h1, h2⟩ := h
  exact ⟨dx, ws, e _ _ h1, e _ _ h2⟩
theorem CardAt.ex {K : Fr} {H H' : Hp} {v : V} {o : Option (List Int)} (h : CardAt K H v o) (e : Ex H H') : CardAt K H' v o := by
  cases o with
  | none => exact h
  | some hs =>
    obtain ⟨c, e1, h⟩ := h
    exact ⟨c, e1, h.ex e⟩
theorem StAt.ex {K : Fr} {H H' : Hp} {s : Addr} {A : Acc} (h : StAt K H s A) (e : Ex H H') : StAt K H' s A := by
  obtain ⟨dx, h1, sh, cd, a, b, c, d⟩ := h
  exact ⟨dx, h1, sh, cd, e _ _ a, e _ _ b, e _ _ c, d.ex e⟩
theorem paired_mono {α β : Type} {R R' : α → β → Prop} (m : ∀ a b, R a b → R' a b) : ∀ {xs : List α} {ys : List β}, Paired R xs ys → Paired R' xs ys
  | _, _, .nil => .nil
  | _, _, .cons h t => .cons (m _ _ h) (paired_mono m t)
theorem PastAt.ex {K : Fr} {H H' : Hp} {t : Addr} {past : List Acc} (h : PastAt K H t past) (e : Ex H H') : PastAt K H' t past := by
  obtain ⟨ss, h1, h2⟩ := h
  exact ⟨ss, ex_t e h1, paired_mono (fun _ _ z => z.ex e) h2⟩
/-! ### growth: G holds what never changes of H; behind a step G' holds it and what is new -/
structure Gr (G H G' H' : Hp) : Prop where
  ex : Ex G G'
  up : Ex G' H'
  old : ∀ a, H a ≠ none → G a = none → G' a = none
  dom : ∀ a, H a ≠ none → H' a ≠ none
theorem Gr.refl {G H : Hp} (e : Ex G H) : Gr G H G H := ⟨Ex.refl G, e, fun _ _ h => h, fun _ h => h⟩
theorem Gr.trans {G H G1 H1 G2 H2 : Hp} (a : Gr G H G1 H1) (b : Gr G1 H1 G2 H2) : Gr G H G2 H2 :=
  ⟨a.ex.trans b.ex, b.up, fun x h1 h2 => b.old x (a.dom x h1) (a.old x h1 h2), fun x h => b.dom x (a.dom x h)⟩
def ext (G H H' : Hp) : Hp := fun a => match H a with
  | none => H' a
  | some _ => G a
theorem ext_old {G H H' : Hp} {a : Addr} (h : H a ≠ none) : ext G H H' a = G a := by
  unfold ext
  cases e : H a with
  | none => exact absurd e h
  | some _ => rfl
theorem ext_new {G H H' : Hp} {a : Addr} (h : H a = none) : ext G H H' a = H' a := by
  unfold ext
  rw [h]
/-- S: what may have changed -/
theorem Gr.of {S : List Addr} {G H H' : Hp} (e : Ex G H) (f : Frm S H H') (hS : ∀ a ∈ S, G a = none) (d : ∀ a ∈ S, H a ≠ none → H' a ≠ none) : Gr G H (ext G H H') H' where
  ex := fun a o h => by
    rw [ext_old (by rw [e a o h]; exact fun z => nomatch z)]
    exact h
  up := fun a o h => by
    cases q : H a with
    | none => rw [ext_new q] at h; exact h
    | some u =>
      rw [ext_old (by rw [q]; exact fun z => nomatch z)] at h
      exact f a o (fun m => by rw [hS a m] at h; cases h) (e a o h)
  old := fun a h1 h2 => by rw [ext_old h1, h2]
  dom := fun a h => by
    by_cases m : a ∈ S
    · exact d a m h
    · cases q : H a with
      | none => exact absurd q h
      | some u => rw [f a u m q]; exact fun z => nomatch z
theorem Gr.pure {G H H' : Hp} (e : Ex G H) (f : Ex H H') : Gr G H (ext G H H') H' := Gr.of (S := []) e (Ex.frm f) (fun _ z => nomatch z) (fun _ z => nomatch z)
theorem frm_none {S : List Addr} {G H H' : Hp} (f : Frm S H H') (e : Ex G H) (hS : ∀ a ∈ S, G a = none) : Ex G H' := fun a o h => f a o (fun m => by rw [hS a m] at h; cases h) (e a o h)
/-! W1 -/

/-! ### counting and steps -/
def sp_at_place (K : Fr) : Sp := fun vs H Q _ => ∃ (a : Addr) (y : Int), vs = [.ref a, .int y] ∧ ∃ (p : Nat) (c : Int → Int), 0 < p ∧ (∀ y, c (y + p) = c y + p) ∧ SqL K H a (cl p c) ∧ Q (.int (c y)) H
theorem ok_at_place (T : Tx w K mg) : FnOk P w K mg base CX0 1 (a_at_place K) (fdOf K (a_at_place K)) ["values", "place"] (sp_at_place K) := by
  refine (T.d_at_place).ok sc_at_place (fun vs H Q E h => ?_) (fun cdv A outer s H vs Q E hr h => ?_)
  · obtain ⟨_, _, rfl, _⟩ := h
    rfl
  refine ⟨_, PSs.nox (pss_cons (ps_set (i := 2) sc_at_place.nd rfl (Or.inl rfl) (pe_op op_modN (pv 1) (pe_callB call_len (by rfl) T.z_len (by decide +kernel) (pa_cons (pv 0) pa_nil))))
      (pss_one (ps_ret (pe_op op_sub (pe_op op_add (pe_ix ix_list (pv 0) (pv 2) (fun _ _ => rfl)) (pv 1)) (pv 2))))), ?_⟩
  obtain ⟨a, y, rfl, p, c, hp, hc, hS, k⟩ := h
  have e : y.fmod ((cl p c).length : Int) = y % (p : Int) := by rw [cl_len, fm_eq hp]
  walk_at "s"
  refine go_rI (by show ((cl p c).length : Int) ≠ 0; rw [cl_len]; omega) ?_
  walk_at "s"
  refine ⟨_, _, _, .int (c (y % p)), rfl, rfl, hS, ?_, ?_⟩
  · show atI (cl p c) (y.fmod ((cl p c).length : Int)) = some (.int (c (y % p)))
    rw [e]
    exact cl_atI (Int.emod_nonneg _ (by omega)) (Int.emod_lt_of_pos _ (by omega))
  walk_at "s"
  show Q (.int (c (y % p) + y - y.fmod ((cl p c).length : Int))) H
  rw [e, per_mod hc]
  exact k
def sp_carried_to (K : Fr) : Sp := fun vs H Q _ => ∃ (a b : Addr) (g : Int), vs = [.ref a, .ref b, .int g] ∧ ∃ (p : Nat) (c : Int → Int) (S : Int → Bool), 0 < p ∧ (∀ y, c (y + p) = c y + p) ∧ (∀ y, S (y + p) = S y) ∧ Mth.Dense S p ∧ SqL K H a (cl p c) ∧ SqL K H b (sl p S) ∧ Q (.int (Mth.wF p c S g)) H
theorem ok_carried_to (T : Tx w K mg) : FnOk P w K mg base CX0 2 (a_carried_to K) (fdOf K (a_carried_to K)) ["came", "stands", "gap"] (sp_carried_to K) := by
  refine (T.d_carried_to).ok sc_carried_to (fun vs H Q E h => ?_) (fun cdv A outer s H vs Q E hr h => ?_)
  · obtain ⟨_, _, _, rfl, _⟩ := h
    rfl
  refine ⟨_, PSs.nox (pss_cons (ps_set (i := 3) sc_carried_to.nd rfl (Or.inl rfl) (pe_op op_sub (pv 2) pe_int))
      (pss_cons (ps_set (i := 4) sc_carried_to.nd rfl (Or.inl rfl) (pe_call (ok_at_place T) (hr.mono (by decide)) rfl T.g_at_place T.d_at_place.kp T.b_at_place .nil pass0 (pa_cons (pv 0) (pa_cons (pv 3) pa_nil))))
      (pss_cons (ps_while PassesOwn.never (pt_cmpR op_notIn_seq (pe_op op_modN (pv 3) (pe_callB call_len (by rfl) T.z_len (by decide +kernel) (pa_cons (pv 0) pa_nil))) (pv 1) (by first | exact nomark _ | rfl))
      (pss_cons (ps_set (i := 3) sc_carried_to.nd rfl (Or.inl rfl) (pe_op op_sub (pv 3) pe_int))
        (pss_one (ps_if (pt_cmpR op_lt (pe_call (ok_at_place T) (hr.mono (by decide)) rfl T.g_at_place T.d_at_place.kp T.b_at_place .nil pass0 (pa_cons (pv 0) (pa_cons (pv 3) pa_nil))) (pv 4) (by first | exact nomark _ | rfl))
        (pss_one (ps_set (i := 4) sc_carried_to.nd rfl (Or.inl rfl) (pe_call (ok_at_place T) (hr.mono (by decide)) rfl T.g_at_place T.d_at_place.kp T.b_at_place .nil pass0 (pa_cons (pv 0) (pa_cons (pv 3) pa_nil)))))
        pss_nil))))
      (pss_one (ps_ret (pv 4)))))), ?_⟩
  obtain ⟨a, b, g, rfl, p, c, S, hp, hc, hS, hd, ha, hb, k⟩ := h
  walk_at "s"
  refine ⟨a, _, rfl, p, c, hp, hc, ha, ?_⟩
  refine ⟨fun n σ H' => H' = H ∧ ∃ (pl l : Int), σ = [some (.ref a), some (.ref b), some (.int g), some (.int pl), some (.int l)] ∧ Mth.Near S (n + 1) (pl + 1) ∧ (S pl = true → Mth.wF p c S g = l) ∧ (S pl = false → Mth.wF p c S g = min l (Mth.carW c S n pl)), ⟨p - 1, rfl, g - 1, c (g - 1), rfl, ?_, ?_, ?_⟩, fun n σ H' hw => ?_⟩
  · rw [show p - 1 + 1 = p by omega, show g - 1 + 1 = g by omega]
    exact hd g
  · intro h
    unfold Mth.wF
    rw [show p = (p - 1) + 1 by omega]
    show (if S (g - 1) = true then c (g - 1) else _) = _
    rw [if_pos h]
  · intro h
    unfold Mth.wF
    rw [show p = (p - 1) + 1 by omega]
    show (if S (g - 1) = true then c (g - 1) else _) = _
    rw [if_neg (by rw [h]; decide)]
    rfl
  · obtain ⟨rfl, pl, l, rfl, hn, h1, h2⟩ := hw
    have e : pl.fmod ((cl p c).length : Int) = pl % (p : Int) := by rw [cl_len, fm_eq hp]
    walk_at "s"
    refine go_rI (by show ((cl p c).length : Int) ≠ 0; rw [cl_len]; omega) ?_
    walk_at "s"
    refine ⟨_, _, rfl, .inl hb, rfl, sl_flat p S, ?_⟩
    have e3 : (!inV (.int (pl.fmod ((cl p c).length : Int))) (sl p S)) = !S pl := by rw [e, sl_in hp hS]
    refine ⟨!S pl, congrArg V.bl e3, ?_⟩
    cases hs : S pl with
    | true =>
      refine iteF ?_
      walk_at "s"
      rw [← h1 hs]
      exact k
    | false =>
      refine iteT ?_
      refine ⟨_, fun _ _ n => n, ?_⟩
      have hn1 : Mth.Near S n pl := by
        have := hn.back (by rw [show pl + 1 - 1 = pl by omega, hs]; decide)
        rw [show pl + 1 - 1 = pl by omega] at this
        exact this
      obtain ⟨m, rfl⟩ : ∃ m, n = m + 1 := by
        cases n with
        | zero =>
          obtain ⟨k, hk, _⟩ := hn1
          omega
        | succ m => exact ⟨m, rfl⟩
      have ec : Mth.carW c S (m + 1) pl = if S (pl - 1) = true then c (pl - 1) else min (c (pl - 1)) (Mth.carW c S m (pl - 1)) := rfl
      walk_at "s"
      refine ⟨a, _, rfl, p, c, hp, hc, ha, ?_⟩
      walk_at "s"
      refine ite2 (fun hlt => ?_) (fun hlt => ?_)
      · have hlt := of_decide_eq_true hlt
        walk_at "s"
        refine ⟨a, _, rfl, p, c, hp, hc, ha, ?_⟩
        refine ⟨m, Nat.lt_succ_self m, rfl, pl - 1, c (pl - 1), rfl, ?_, fun z => ?_, fun z => ?_⟩
        · rw [show pl - 1 + 1 = pl by omega]
          exact hn1
        · rw [h2 hs, ec, if_pos z]
          omega
        · rw [h2 hs, ec, if_neg (by rw [z]; decide)]
          omega
      · have hlt : ¬ c (pl - 1) < l := fun z => hlt (decide_eq_true z)
        refine ⟨m, Nat.lt_succ_self m, rfl, pl - 1, l, rfl, ?_, fun z => ?_, fun z => ?_⟩
        · rw [show pl - 1 + 1 = pl by omega]
          exact hn1
        · rw [h2 hs, ec, if_pos z]
          omega
        · rw [h2 hs, ec, if_neg (by rw [z]; decide)]
          omega
/-- p places, stands that come again and stand near -/
structure Wf (p : Nat) (S : Int → Bool) : Prop where
  pos : 0 < p
  le : p ≤ 6
  per : ∀ y, S (y + p) = S y
  dense : Mth.Dense S p
def sp_carried_came (K : Fr) : Sp := fun vs H Q _ => ∃ (a b : Addr), vs = [.ref a, .ref b] ∧ ∃ (p : Nat) (c : Int → Int) (S : Int → Bool), Wf p S ∧ (∀ y, c (y + p) = c y + p) ∧ SqL K H a (cl p c) ∧ SqL K H b (sl p S) ∧ RetL (cl p (Mth.wF p c S)) H Q
theorem ok_carried_came (T : Tx w K mg) : FnOk P w K mg base CX0 3 (a_carried_came K) (fdOf K (a_carried_came K)) ["came", "stands"] (sp_carried_came K) := by
  refine (T.d_carried_came).ok sc_carried_came (fun vs H Q E h => ?_) (fun cdv A outer s H vs Q E hr h => ?_)
  · obtain ⟨_, _, rfl, _⟩ := h
    rfl
  refine ⟨_, PSs.nox (pss_one (ps_ret (pe_lc (own := [("gap", 2)]) (g := gName 2) (tt := tYes) rfl sc_carried_came.nd (pi_range1 rfl T.z_range (pa_cons (pe_callB call_len (by rfl) T.z_len (by decide +kernel) (pa_cons (pv 0) pa_nil)) pa_nil)) (blkOk_by (N := N_carried_came) (sc := defScope s_carried_came) (by decide +kernel)) (fun _ _ _ _ _ => pg_name (i := 2) sc_carried_came.nd rfl (Or.inl rfl)) (fun _ _ _ _ _ => pts_nil) (fun _ _ _ _ _ => (pe_call (ok_carried_to T) (hr.mono (by decide)) rfl T.g_carried_to T.d_carried_to.kp T.b_carried_to .nil pass0 (pa_cons (pv 0) (pa_cons (pv 1) (pa_cons (pv 2) pa_nil)))))))), ?_⟩
  obtain ⟨a, b, rfl, p, c, S, W, hc, ha, hb, k⟩ := h
  refine el_cR (m := p) (fun _ => true) (fun i => .int (Mth.wF p c S (i : Int))) ?_ (by have := W.le; omega) (fun _ => rfl) (fun _ _ _ _ => et_yes) (fun i H1 e1 hi _ => ?_) H (Ex.refl H) _ fun q H2 nq e2 hq => ?_
  · intro H1 e1 Q1 q1
    walk_at "s"
    rw [cl_len]
    exact q1 _ (Ex.refl _)
  · intro H2 e2 Q1 q1
    walk_at "s"
    exact ⟨a, b, _, rfl, p, c, S, W.pos, hc, W.per, W.dense, by walk_at "seq", by walk_at "seq", q1 _ (Ex.refl _)⟩
  · rw [given_all] at hq
    exact k q H2 nq e2 hq
def sp_step_came (K : Fr) : Sp := fun vs H Q _ => ∃ (a b : Addr), vs = [.ref a, .ref b] ∧ ∃ (p : Nat) (c : Int → Int) (S : Int → Bool), Wf p S ∧ (∀ y, c (y + p) = c y + p) ∧ SqL K H a (cl p c) ∧ SqL K H b (sl p S) ∧ RetL (cl p (Mth.nxt p c S)) H Q
theorem ok_step_came (T : Tx w K mg) : FnOk P w K mg base CX0 4 (a_step_came K) (fdOf K (a_step_came K)) ["came", "stands"] (sp_step_came K) := by
  refine (T.d_step_came).ok sc_step_came (fun vs H Q E h => ?_) (fun cdv A outer s H vs Q E hr h => ?_)
  · obtain ⟨_, _, rfl, _⟩ := h
    rfl
  refine ⟨_, PSs.nox (pss_cons (ps_set (i := 2) sc_step_came.nd rfl (Or.inl rfl) (pe_call (ok_carried_came T) (hr.mono (by decide)) rfl T.g_carried_came T.d_carried_came.kp T.b_carried_came .nil pass0 (pa_cons (pv 0) (pa_cons (pv 1) pa_nil))))
      (pss_cons (ps_set (i := 3) sc_step_came.nd rfl (Or.inl rfl) (pe_lst pa_nil))
      (pss_cons (ps_for PassesOwn.never rfl (pi_range1 rfl T.z_range (pa_cons (pe_callB call_len (by rfl) T.z_len (by decide +kernel) (pa_cons (pv 0) pa_nil)) pa_nil)) (pg_name (i := 4) sc_step_came.nd rfl (Or.inl rfl))
      (pss_one (ps_if (PW.pt (pw_or (pt_cmpR op_in_seq (pv 4) (pv 1) (by first | exact nomark _ | rfl)) (pw_or1 (pt_cmpR op_gt (pe_ix ix_list (pv 2) (pv 4) (fun _ _ => rfl)) (pe_ix ix_list (pv 0) (pv 4) (fun _ _ => rfl)) (by first | exact nomark _ | rfl)))))
        (pss_one (ps_expr (pe_bm PySem.F.plainAttrs_list PySem.F.slot_list_append PySem.F.type_list_append mt_append (pv 3) (pa_cons (pe_ix ix_list (pv 2) (pv 4) (fun _ _ => rfl)) pa_nil))))
        (pss_one (ps_expr (pe_bm PySem.F.plainAttrs_list PySem.F.slot_list_append PySem.F.type_list_append mt_append (pv 3) (pa_cons (pe_ix ix_list (pv 0) (pv 4) (fun _ _ => rfl)) pa_nil)))))))
      (pss_one (ps_ret (pv 3)))))), ?_⟩
  obtain ⟨a, b, rfl, p, c, S, W, hc, ha, hb, k⟩ := h
  walk_at "s"
  refine ⟨a, b, rfl, p, c, S, W, hc, ha, hb, fun br H1 nbr e1 hbr => ?_⟩
  walk_at "s"
  intro l nl; generalize hEl : upd _ l _ = H2; have eH2 := exN nl hEl; have hl := atN hEl; clear hEl
  walk_at "s"
  refine ⟨by omega, by rw [cl_len]; have := W.le; omega, ?_⟩
  refine for_range (lo := 0) (n := (((cl p c).length : Nat) : Int).toNat) (fun i σ H' => Ex H1 H' ∧ H' l = some (.lst (cl i (Mth.nxt p c S))) ∧ ∃ v, σ = [some (.ref a), some (.ref b), some (.ref br), some (.ref l), v]) ⟨eH2, hl, _, rfl⟩ ?_ ?_
  · rintro i σ H' hi ⟨e3, hl, v, rfl⟩
    rw [cl_len] at hi
    rw [Int.zero_add]
    walk_at "s"
    refine ⟨_, _, rfl, .inl (by walk_at "seq"), rfl, sl_flat p S, ?_⟩
    have hi : i < p := by omega
    refine ⟨S (i : Int), congrArg V.bl (sl_inN W.pos W.per hi), ?_⟩
    have fin : ∀ H4, Ex H' H4 → ∀ z, z = Mth.nxt p c S i → Ex H1 (upd H4 l (.lst (cl i (Mth.nxt p c S) ++ [.int z]))) ∧ upd H4 l (.lst (cl i (Mth.nxt p c S) ++ [.int z])) l = some (.lst (cl (i + 1) (Mth.nxt p c S))) := fun H4 e4 z hz =>
      ⟨Ex.mut (e3.trans e4) nl, by rw [upd_same, cl_succ, hz]⟩
    have lz : (cl i (Mth.nxt p c S)).length < sizeLine := by rw [cl_len]; exact sz_lt (by have := W.le; omega)
    cases hs : S (i : Int) with
    | true =>
      refine iteT (iteT ?_)
      walk_at "s"
      refine ⟨_, _, _, _, rfl, rfl, (by walk_at "seq"), cl_atN hi, ?_⟩
      refine ⟨l, _, _, rfl, rfl, hl, lz, ?_⟩
      obtain ⟨f1, f2⟩ := fin H' (Ex.refl _) (Mth.wF p c S i) (by unfold Mth.nxt; rw [if_pos (.inl hs)])
      exact ⟨f1, f2, _, rfl⟩
    | false =>
      refine iteF ?_
      walk_at "s"
      refine ⟨_, _, _, _, rfl, rfl, (by walk_at "seq"), cl_atN hi, ?_⟩
      walk_at "s"
      refine ⟨_, _, _, _, rfl, rfl, (by walk_at "seq"), cl_atN hi, ?_⟩
      walk_at "s"
      refine ite2 (fun q => ?_) (fun q => ?_)
      all_goals
        walk_at "s"
        refine ⟨_, _, _, _, rfl, rfl, (by walk_at "seq"), cl_atN hi, ?_⟩
        refine ⟨l, _, _, rfl, rfl, hl, lz, ?_⟩
      · obtain ⟨f1, f2⟩ := fin H' (Ex.refl _) (Mth.wF p c S i) (by unfold Mth.nxt; rw [if_pos (.inr (of_decide_eq_true q))])
        exact ⟨f1, f2, _, rfl⟩
      · obtain ⟨f1, f2⟩ := fin H' (Ex.refl _) (c i) (by unfold Mth.nxt; rw [if_neg (by rintro (z | z); rw [hs] at z; cases z; exact q (decide_eq_true z))])
        exact ⟨f1, f2, _, rfl⟩
  · rintro σ H' ⟨e3, hl, v, rfl⟩
    rw [cl_len] at hl
    exact ⟨_, rfl, k l H' (fresh_back e1 nl) (e1.trans e3) hl⟩
end
end Dk
end
section
set_option Elab.async false
set_option linter.all false
set_option maxRecDepth 100000
set_option maxHeartbeats 4000000
/-! Plain facts of lists, texts and the world. -/
namespace Dk
open PySem PySem.Spec PyProof.Rows L2 Evl
/-- ascending lists with the same members are the same -/
theorem asc_eq : ∀ {xs ys : List Nat}, xs.Pairwise (· < ·) → ys.Pairwise (· < ·) → (∀ a, a ∈ xs ↔ a ∈ ys) → xs = ys
  | [], [], _, _, _ => rfl
  | [], b :: ys, _, _, h => by have := (h b).2 (List.mem_cons_self ..); cases this
  | a :: xs, [], _, _, h => by have := (h a).1 (List.mem_cons_self ..); cases this
  | a :: xs, b :: ys, hx, hy, h => by
    obtain ⟨h1, h2⟩ := List.pairwise_cons.mp hx
    obtain ⟨h3, h4⟩ := List.pairwise_cons.mp hy
    have e : a = b := by
      rcases List.mem_cons.mp ((h a).1 (List.mem_cons_self ..)) with e | m
      · exact e
      · rcases List.mem_cons.mp ((h b).2 (List.mem_cons_self ..)) with e | m'
        · exact e.symm
        · have := h1 _ m'
          have := h3 _ m
          omega
    subst e
    congr 1
    refine asc_eq h2 h4 fun c => ⟨fun m => ?_, fun m => ?_⟩
    · rcases List.mem_cons.mp ((h c).1 (List.mem_cons_of_mem _ m)) with e | m'
      · have := h1 _ m
        omega
      · exact m'
    · rcases List.mem_cons.mp ((h c).2 (List.mem_cons_of_mem _ m)) with e | m'
      · have := h3 _ m
        omega
      · exact m'
theorem joinL_nil : ∀ ps : List (List Nat), TL.joinL [] ps = ps.flatten
  | [] => rfl
  | [p] => by simp [TL.joinL]
  | p :: q :: r => by
    have ih := joinL_nil (q :: r)
    show p ++ ([] ++ TL.joinL [] (q :: r)) = _
    rw [ih, List.nil_append, List.flatten_cons, List.flatten_cons, List.flatten_cons]
theorem join0 (ps : List (List Nat)) : Txt.join (SX.S []) (ps.map SX.S) = SX.S ps.flatten := by rw [SX.join_S, joinL_nil]
theorem sum_le {n : Nat} : ∀ {ps : List (List Nat)}, (∀ q ∈ ps, q.length ≤ n) → (ps.map (·.length)).sum ≤ ps.length * n
  | [], _ => by simp
  | q :: ps, h => by
    have h1 := h q (List.mem_cons_self ..)
    have h2 := sum_le (ps := ps) fun r hr => h r (List.mem_cons_of_mem _ hr)
    simp only [List.map_cons, List.sum_cons, List.length_cons, Nat.add_mul]
    omega
def az : List Nat := (List.range 26).map (· + 97)
theorem az_eq : ("abcdefghijklmnopqrstuvwxyz" : Str) = SX.S az := by decide +kernel
theorem az_asc : az.Pairwise (· < ·) := by decide +kernel
theorem az_mem {c : Nat} : c ∈ az ↔ 97 ≤ c ∧ c ≤ 122 := by
  unfold az
  rw [List.mem_map]
  constructor
  · rintro ⟨i, hi, rfl⟩
    have := List.mem_range.mp hi
    omega
  · intro h
    exact ⟨c - 97, List.mem_range.mpr (by omega), by omega⟩
/-- what a comprehension gives, as a filter -/
theorem given_list {α : Type} [Inhabited α] (xs : List α) (f : α → Bool) (v : α → V) : given xs.length (fun i => f (xs.getD i default)) (fun i => v (xs.getD i default)) = (xs.filter f).map v := by
  unfold given
  have e : xs = (List.range xs.length).map fun i => xs.getD i default := by
    refine List.ext_getElem? fun i => ?_
    rw [List.getElem?_map]
    by_cases hi : i < xs.length
    · rw [List.getElem?_range hi]
      simp [List.getD, hi]
    · rw [List.getElem?_eq_none (by omega), List.getElem?_eq_none (by rw [List.length_range]; omega)]
      rfl
  conv => rhs; rw [e, List.filter_map, List.map_map]
  rfl
section
variable {W : Wd}
theorem Wd.words_len : W.words.length = W.p := by simp [Wd.words]
theorem Wd.word_sub {x : Nat} {c : Nat} (h : c ∈ W.word x) : c ∈ W.L ∧ W.st c x = true := List.mem_filter.mp h
theorem Wd.word_len {x : Nat} : (W.word x).length ≤ W.L.length := List.length_filter_le _ _
theorem Wd.Ok.signs (O : W.Ok) : az.filter (fun c => decide (c ∈ W.words.flatten)) = W.L := by
  refine asc_eq (List.Pairwise.filter _ az_asc) O.asc fun c => ?_
  rw [List.mem_filter, az_mem, decide_eq_true_eq, List.mem_flatten]
  constructor
  · rintro ⟨_, q, hq, hc⟩
    obtain ⟨x, _, rfl⟩ := List.mem_map.mp hq
    exact (Wd.word_sub hc).1
  · intro hc
    obtain ⟨x, hx, e⟩ := O.hit c hc
    exact ⟨O.rng c hc, W.word x, List.mem_map.mpr ⟨x, List.mem_range.mpr hx, rfl⟩, List.mem_filter.mpr ⟨hc, e⟩⟩
theorem Wd.Ok.wf (O : W.Ok) {c : Nat} (hc : c ∈ W.L) : 0 < W.p ∧ (∀ y, W.S c (y + W.p) = W.S c y) ∧ Mth.Dense (W.S c) W.p := by
  refine ⟨O.pos, fun y => ?_, fun g => ?_⟩
  · unfold Wd.S
    rw [show y + (W.p : Int) = y + (W.p : Int) * 1 by omega, Int.add_mul_emod_self_left]
  · obtain ⟨x, hx, e⟩ := O.hit c hc
    have hp := O.pos
    have h0 := Int.emod_nonneg (g - 1 - x) (show (W.p : Int) ≠ 0 by omega)
    have h1 := Int.emod_lt_of_pos (g - 1 - x) (show (0 : Int) < W.p by omega)
    obtain ⟨k, hk⟩ := Int.eq_ofNat_of_zero_le h0
    refine ⟨k, by omega, ?_⟩
    have h2 := Int.emod_add_mul_ediv (g - 1 - x) W.p
    have e2 : g - 1 - (k : Int) = x + W.p * ((g - 1 - x) / W.p) := by omega
    show W.st c ((g - 1 - (k : Int)) % W.p).toNat = true
    rw [e2, Int.add_mul_emod_self_left, Int.emod_eq_of_lt (by omega) (by omega)]
    exact e
theorem Wd.S_nat {c x : Nat} (h : x < W.p) : W.S c (x : Int) = W.st c x := by
  unfold Wd.S
  rw [Int.emod_eq_of_lt (by omega) (by omega)]
  rfl
end
theorem filter_yes {α : Type} (xs : List α) : xs.filter (fun _ => true) = xs := List.filter_eq_self.mpr fun _ _ => rfl
section
variable {K : Fr} {σ : L2.St} {H : Hp} {t : TT} {te tl : TE} {j : Nat} {vs : List Nat} {a : Addr} {α : Type} [Inhabited α] {xs : List α}
theorem map_getD (f : α → V) {i : Nat} (hi : i < xs.length) : (xs.map f).getD i .non = f (xs.getD i default) := by
  simp [List.getD, hi]
theorem getD_mem {i : Nat} (hi : i < xs.length) : xs.getD i default ∈ xs := by
  have h : xs[i]? = some (xs.getD i default) := by simp [List.getD, hi]
  exact List.mem_of_getElem? h
theorem el_cM (f : α → V) (p : α → Bool) (g : α → V) (h : Ev tl σ H (.ref a)) (hx : SqL K H a (xs.map f)) (hz : xs.length ≤ 40000) (hw : ∀ x, wipe ((wipe σ vs).set j (some x)) vs = wipe σ vs)
    (ht : ∀ x ∈ xs, ∀ H1, Ex H H1 → EvT t ((wipe σ vs).set j (some (f x))) H1 (p x)) (he : ∀ x ∈ xs, ∀ H1, Ex H H1 → p x = true → Ev te ((wipe σ vs).set j (some (f x))) H1 (g x)) :
    EvL (tLc (iList K tl) (gName j) t te vs) σ H ((xs.filter p).map g) := by
  have e := el_cL (fun i => p (xs.getD i default)) (fun i => g (xs.getD i default)) h hx (by rw [List.length_map]; exact hz) hw (t := t) (te := te)
    (fun i H1 e1 hi => by rw [List.length_map] at hi; rw [map_getD f hi]; exact ht _ (getD_mem hi) H1 e1) (fun i H1 e1 hi hf => by rw [List.length_map] at hi; rw [map_getD f hi]; exact he _ (getD_mem hi) H1 e1 hf)
  rw [List.length_map, given_list] at e
  exact e
theorem el_cMT (f : α → V) (p : α → Bool) (g : α → V) (h : Ev tl σ H (.ref a)) (hx : SqT K H a (xs.map f)) (hz : xs.length ≤ 40000) (hw : ∀ x, wipe ((wipe σ vs).set j (some x)) vs = wipe σ vs)
    (ht : ∀ x ∈ xs, ∀ H1, Ex H H1 → EvT t ((wipe σ vs).set j (some (f x))) H1 (p x)) (he : ∀ x ∈ xs, ∀ H1, Ex H H1 → p x = true → Ev te ((wipe σ vs).set j (some (f x))) H1 (g x)) :
    EvL (tLc (iTup K tl) (gName j) t te vs) σ H ((xs.filter p).map g) := by
  have e := el_cT (fun i => p (xs.getD i default)) (fun i => g (xs.getD i default)) h hx (by rw [List.length_map]; exact hz) hw (t := t) (te := te)
    (fun i H1 e1 hi => by rw [List.length_map] at hi; rw [map_getD f hi]; exact ht _ (getD_mem hi) H1 e1) (fun i H1 e1 hi hf => by rw [List.length_map] at hi; rw [map_getD f hi]; exact he _ (getD_mem hi) H1 e1 hf)
  rw [List.length_map, given_list] at e
  exact e
theorem el_cMS {cs : List Nat} (p : Nat → Bool) (g : Nat → V) (h : Ev tl σ H (.str (SX.S cs))) (hz : cs.length ≤ 40000) (hw : ∀ x, wipe ((wipe σ vs).set j (some x)) vs = wipe σ vs)
    (ht : ∀ x ∈ cs, ∀ H1, Ex H H1 → EvT t ((wipe σ vs).set j (some (.str (SX.S [x])))) H1 (p x)) (he : ∀ x ∈ cs, ∀ H1, Ex H H1 → p x = true → Ev te ((wipe σ vs).set j (some (.str (SX.S [x])))) H1 (g x)) :
    EvL (tLc (iStr tl) (gName j) t te vs) σ H ((cs.filter p).map g) := by
  have e := el_cS (fun i => p (cs.getD i default)) (fun i => g (cs.getD i default)) h hz hw (t := t) (te := te)
    (fun i H1 e1 hi => ht _ (getD_mem hi) H1 e1) (fun i H1 e1 hi hf => he _ (getD_mem hi) H1 e1 hf)
  rw [given_list] at e
  exact e
theorem el_cMR {m : Nat} {ta : TA} (p : Nat → Bool) (g : Nat → V) (h : EvA ta σ H [.int (m : Int)]) (hz : m ≤ 40000) (hw : ∀ x, wipe ((wipe σ vs).set j (some x)) vs = wipe σ vs)
    (ht : ∀ (i : Nat) H1, Ex H H1 → i < m → EvT t ((wipe σ vs).set j (some (.int (i : Int)))) H1 (p i)) (he : ∀ (i : Nat) H1, Ex H H1 → i < m → p i = true → Ev te ((wipe σ vs).set j (some (.int (i : Int)))) H1 (g i)) :
    EvL (tLc (iRng1 ta) (gName j) t te vs) σ H (((List.range m).filter p).map g) := el_cR p g h hz hw ht he
end
def nm (i : Int) : Str := Str.ofString (toString i)
theorem nm_len : ∀ n : Nat, n < 200 → (nm (n : Int)).length ≤ 3 := by decide +kernel
end Dk
end
section
set_option Elab.async false
set_option linter.all false
set_option maxRecDepth 100000
set_option maxHeartbeats 1000000
set_option pp.maxSteps 700
namespace Dk
open PySem PySem.Spec PyProof.Rows L2 L2H Evl
/-- a fact of the heap as it stands: said, or carried along -/
local macro_rules | `(tactic| walk_at "fact") => `(tactic| first
  | assumption
  | exact ex_at (by assumption) (by walk_at "fact"))
/-- a heap holds what one ahead held -/
local macro_rules | `(tactic| walk_at "ex") => `(tactic| first
  | assumption
  | exact Ex.refl _
  | exact exr (by assumption) (by walk_at "ex"))
/-- a list, a tuple to be read -/
local macro_rules | `(tactic| walk_at "seq") => `(tactic| first
  | assumption
  | exact sq_of (by walk_at "fact")
  | exact st_of (by walk_at "fact")
  | exact ex_l (by assumption) (by walk_at "seq")
  | exact ex_t (by assumption) (by walk_at "seq"))
/-- the rules' words opened, as far as nothing is asked -/
local macro_rules | `(tactic| walk_at "p1") => `(tactic| with_reducible first | refine go_name ?_ | refine go_seq ?_ | refine go_asg ?_ | refine go_ret ?_ | refine go_retN ?_ | refine go_next ?_ | refine go_drop ?_ | refine go_ifs ?_ | refine go_cons ?_ | refine go_nil ?_ | refine go_cb ?_ | refine go_op ?_ | refine go_un ?_ | refine go_c ?_ | refine go_test ?_ | refine go_b ?_ | refine go_and ?_ | refine go_or ?_ | refine go_not ?_ | refine go_if ?_ | refine go_call ?_ | refine go_bm ?_ | refine go_fld ?_ | refine go_lst ?_ | refine go_tup ?_ | refine go_part ?_ | refine go_nop ?_ | refine go_for ?_ | refine go_rng1 ?_ | refine go_rng2 ?_ | refine go_rng3 ?_ | refine go_iS ?_ | refine go_iL ?_ | refine go_iE ?_ | refine go_iZ ?_ | refine go_gsub ?_ | refine go_gcons ?_ | refine go_gnil ?_ | refine go_prop ?_ | refine go_meth ?_ | refine go_rz ?_ | refine go_make ?_ | refine go_sfld ?_ | refine go_sl ?_ | refine go_andV ?_ | refine go_orV ?_ | refine go_notV ?_ | refine go_lrg ?_ | refine go_rg1 ?_ | refine go_chain ?_ | refine go_cval ?_)
local macro_rules | `(tactic| walk_at "p") => `(tactic| repeat walk_at "p1")
/-- one step of a reading -/
local macro_rules | `(tactic| walk_at "s1") => `(tactic| first
  | walk_at "p1"
  | ((with_reducible apply go_var); (exact rfl))
  | with_reducible refine go_rI0 ?_
  | with_reducible refine go_rU ?_
  | with_reducible refine go_bl ?_
  | ((with_reducible apply go_rEq); (exact rfl))
  | ((with_reducible apply go_rNe); (exact rfl))
  | with_reducible refine go_isN ?_
  | with_reducible refine iteT ?_
  | with_reducible refine iteF ?_
  | with_reducible refine iteNF ?_
  | with_reducible refine iteNT ?_
  | refine ⟨_, _, rfl, Or.inl ⟨_, (by walk_at "seq"), rfl⟩, ?_⟩
  | refine ⟨_, _, rfl, Or.inr ⟨_, (by walk_at "seq"), rfl⟩, ?_⟩
  | with_reducible refine go_tyS ?_
  | ((with_reducible apply go_gtup); (walk_at "seq"); (rfl))
  | ((with_reducible apply go_app); (walk_at "seq"))
  | with_reducible refine ⟨sz_of (by first | decide | simp), ?_⟩
  | with_reducible refine ⟨_, rfl, ?_⟩
  | with_reducible refine ⟨_, _, rfl, rfl, ?_⟩)
local macro_rules | `(tactic| walk_at "s") => `(tactic| repeat walk_at "s1")
section
variable {P : Program} {w : World} {K : Fr} {mg : Str → Option Value} {base : Heap}
/-! W2 -/

def sp_heights_of (K : Fr) : Sp := fun vs H Q _ => ∃ (a : Addr), vs = [.ref a] ∧ ∃ (p : Nat) (c : Int → Int), 0 < p ∧ p ≤ 6 ∧ Mth.Good p c ∧ SqL K H a (cl p c) ∧ RetL (cl p (hgt c)) H Q
theorem ok_heights_of (T : Tx w K mg) : FnOk P w K mg base CX0 1 (a_heights_of K) (fdOf K (a_heights_of K)) ["came"] (sp_heights_of K) := by
  refine (T.d_heights_of).ok sc_heights_of (fun vs H Q E h => ?_) (fun cdv A outer s H vs Q E hr h => ?_)
  · obtain ⟨_, rfl, _⟩ := h
    rfl
  refine ⟨_, PSs.nox (pss_cons (ps_set (i := 1) sc_heights_of.nd rfl (Or.inl rfl) (pe_callB call_len (by rfl) T.z_len (by decide +kernel) (pa_cons (pv 0) pa_nil)))
      (pss_cons (ps_setLc (i := 2) (own := [("_", 4)]) (g := gName 4) (tt := tYes) rfl sc_heights_of.nd rfl rfl (sw_true rfl rfl rfl (by decide +kernel)) (pi_list (pv 0)) (blkOk_by (N := N_heights_of) (sc := defScope s_heights_of) (by decide +kernel)) (fun _ _ _ _ _ => pg_name (i := 4) sc_heights_of.nd rfl (Or.inl rfl)) (fun _ _ _ _ _ => pts_nil) (fun _ _ _ _ _ => pe_int))
      (pss_cons (ps_for PassesOwn.never rfl (pi_range1 rfl T.z_range (pa_cons (pv 1) pa_nil)) (pg_name (i := 3) sc_heights_of.nd rfl (Or.inl rfl))
      (pss_one (ps_asg (pe_op op_sub (pv 3) (pe_ix ix_list (pv 0) (pv 3) (fun _ _ => rfl))) (pg_sub (pv 2) (pe_op op_modN (pe_ix ix_list (pv 0) (pv 3) (fun _ _ => rfl)) (pv 1)) set_list))))
      (pss_one (ps_ret (pv 2)))))), ?_⟩
  obtain ⟨a, rfl, p, c, hp, hp6, hG, ha, k⟩ := h
  walk_at "s"
  refine el_cL (fun _ => true) (fun i => .int 0) (ev_var rfl) ha (by rw [cl_len]; omega) (fun _ => rfl) (fun _ _ _ _ => et_yes) (fun _ _ _ _ _ => ev_c) H (Ex.refl H) _ fun l H1 nl e1 hl => ?_
  have e0 : given (cl p c).length (fun _ => true) (fun _ => V.int 0) = cl p (hv p c 0) := by
    rw [given_all, cl_len]
    rfl
  rw [e0] at hl
  walk_at "s"
  refine ⟨by omega, by rw [cl_len]; omega, ?_⟩
  refine for_range (lo := 0) (n := (((cl p c).length : Nat) : Int).toNat) (fun i σ H' => Ex H H' ∧ H' l = some (.lst (cl p (hv p c i))) ∧ ∃ v v2, σ = [some (.ref a), some (.int (cl p c).length), some (.ref l), v, v2]) ⟨e1, hl, _, _, rfl⟩ ?_ ?_
  · rintro i σ H' hi ⟨e3, hl, v, v2, rfl⟩
    rw [cl_len] at hi
    have hi : i < p := by omega
    rw [Int.zero_add]
    walk_at "s"
    refine go_ixL (by walk_at "seq") (cl_atN hi) ?_
    walk_at "s"
    refine go_ixL (by walk_at "seq") (cl_atN hi) ?_
    walk_at "s"
    have e : (c i).fmod ((cl p c).length : Int) = c i % (p : Int) := by rw [cl_len, fm_eq hp]
    refine go_rI (by show ((cl p c).length : Int) ≠ 0; rw [cl_len]; omega) ?_
    have hj := Int.emod_nonneg (c i) (show (p : Int) ≠ 0 by omega)
    have hj1 := Int.emod_lt_of_pos (c i) (show (0 : Int) < p by omega)
    refine go_setL hl (j := (c i % p).toNat) (by show ixN _ ((c i).fmod ((cl p c).length : Int)) = _; rw [e, cl_len]; exact ixN_int ⟨hj, hj1⟩) ?_
    refine ⟨Ex.mut e3 nl, ?_, _, _, rfl⟩
    rw [upd_same, cl_set]
    congr 2
    refine cl_congr fun x hx => ?_
    show (if (x : Int) = ((c i % p).toNat : Int) then _ else _) = if (x : Int) = c i % p then _ else _
    rw [Int.toNat_of_nonneg hj]
  · rintro σ H' ⟨e3, hl, v, v2, rfl⟩
    refine ⟨_, rfl, k l H' nl e3 ?_⟩
    rw [hl]
    congr 2
    refine cl_congr fun x hx => ?_
    rw [cl_len]
    exact hv_all hp hG ⟨by omega, by omega⟩
/-! W3 -/

/-! ### the calendar -/
theorem passE0 {X : Cx} : Passes (L2N.CX X.prog X.w) X E0 := fun _ _ _ _ _ _ _ h => by
  obtain ⟨_, _, _, _, _, _, _, _, _, _, _, _, hE⟩ := h
  exact hE.elim
def sp_Calendar_places (K : Fr) : Sp := fun vs H Q _ => ∃ (c : Addr), vs = [.ref c] ∧ ∃ W : Wd, CalAt K H c W ∧ Q (.int (W.p : Int)) H
theorem ok_Calendar_places (T : Tx w K mg) : FnOk P w K mg base CX0 1 (a_Calendar_places K) (fdOf K (a_Calendar_places K)) ["self"] (sp_Calendar_places K) := by
  refine (T.d_Calendar_places).ok sc_Calendar_places (fun vs H Q E h => ?_) (fun cdv A outer s H vs Q E hr h => ?_)
  · obtain ⟨_, rfl, _⟩ := h
    rfl
  refine ⟨_, PSs.nox (pss_one (ps_ret (pe_callB call_len (by rfl) T.z_len (by decide +kernel) (pa_cons (pe_fld (pv 0) rfl) pa_nil)))), ?_⟩
  obtain ⟨c, rfl, W, ⟨dx, ws, h1, h2⟩, k⟩ := h
  walk_at "s"
  refine ⟨_, _, _, _, _, rfl, (by walk_at "fact"), T.cl_Calendar, T.n_Calendar_words, kl1, ?_⟩
  refine ⟨_, _, rfl, .inl ⟨_, sq_of h2, rfl⟩, ?_⟩
  have e : (W.words.map fun z => V.str (SX.S z)).length = W.p := by simp [Wd.words]
  show Q (.int ((W.words.map fun z => V.str (SX.S z)).length : Int)) H
  rw [e]
  exact k
theorem words_map {W : Wd} : (W.words.map fun z => V.str (SX.S z)) = (W.words.map SX.S).map V.str := by
  rw [List.map_map]
  rfl
theorem words_join {W : Wd} (O : W.Ok) : ((W.words.map SX.S).map (·.length)).sum + (W.words.map SX.S).length * (SX.S []).length ≤ 16777216 := by
  rw [SX.lens, SX.S_len]
  have h := sum_le (n := 4) (ps := W.words) fun q hq => by
    obtain ⟨x, _, rfl⟩ := List.mem_map.mp hq
    exact Nat.le_trans Wd.word_len O.len.2
  rw [Wd.words_len] at h
  have := O.le
  simp only [List.length_nil, Nat.mul_zero, Nat.add_zero]
  omega
def sp_Calendar_signs (K : Fr) : Sp := fun vs H Q _ => ∃ (c : Addr), vs = [.ref c] ∧ ∃ W : Wd, W.Ok ∧ CalAt K H c W ∧ RetV (.str (SX.S W.L)) H Q
theorem ok_Calendar_signs (T : Tx w K mg) : FnOk P w K mg base CX0 1 (a_Calendar_signs K) (fdOf K (a_Calendar_signs K)) ["self"] (sp_Calendar_signs K) := by
  refine (T.d_Calendar_signs).ok sc_Calendar_signs (fun vs H Q E h => ?_) (fun cdv A outer s H vs Q E hr h => ?_)
  · obtain ⟨_, rfl, _⟩ := h
    rfl
  refine ⟨_, PSs.nox (pss_cons (ps_set (i := 1) sc_Calendar_signs.nd rfl (Or.inr rfl) (pe_bm PySem.F.plainAttrs_str PySem.F.slot_str_join PySem.F.type_str_join mt_join pe_str (pa_cons (pe_fld (pv 0) rfl) pa_nil)))
      (pss_one (ps_ret (pe_bm PySem.F.plainAttrs_str PySem.F.slot_str_join PySem.F.type_str_join mt_join pe_str (pa_cons (pe_lc (own := [("letter", 2)]) (g := gName 2) rfl sc_Calendar_signs.nd (pi_str (pe_gS T.s_LETTERS)) (blkOk_by (N := N_Calendar_signs) (sc := defScope s_Calendar_signs) (by decide +kernel)) (fun _ _ _ _ _ => pg_name (i := 2) sc_Calendar_signs.nd rfl (Or.inl rfl)) (fun _ _ _ _ _ => pts_one (pt_cmpR op_in_sign (pv 2) (pv 1) (by first | exact nomark _ | rfl))) (fun _ _ _ _ _ => (pv 2))) pa_nil))))), ?_⟩
  obtain ⟨c, rfl, W, O, ⟨dx, ws, h1, h2⟩, k⟩ := h
  refine ⟨rfl, ?_⟩
  walk_at "s"
  refine ⟨_, _, _, _, _, rfl, (by walk_at "fact"), T.cl_Calendar, T.n_Calendar_words, kl1, ?_⟩
  refine ⟨SX.S [], ws, W.words.map SX.S, rfl, rfl, .inl (by rw [← words_map]; exact sq_of h2), words_join O, ?_⟩
  rw [join0]
  walk_at "p"
  refine ⟨rfl, ?_⟩
  walk_at "p"
  rw [az_eq]
  refine el_cS (cs := az) (fun i => decide (az.getD i 0 ∈ W.words.flatten)) (fun i => .str (SX.S [az.getD i 0])) ev_c (by decide) (fun _ => rfl) (fun i H1 e1 hi => ?_) (fun i H1 e1 hi _ => ?_) H (Ex.refl H) _ fun q H1 nq e1 hq => ?_
  · intro H2 e2 Q2 q2
    walk_at "s"
    exact q2 _ (Ex.refl _)
  · exact ev_var rfl
  have e := given_list az (fun c => decide (c ∈ W.words.flatten)) (fun c => V.str (SX.S [c]))
  rw [O.signs] at e
  have e2 : H1 q = some (.lst ((W.L.map fun c => SX.S [c]).map V.str)) := by
    rw [List.map_map]
    exact hq.trans (congrArg (fun z => some (HO.lst z)) e)
  walk_at "p"
  refine ⟨SX.S [], q, W.L.map fun c => SX.S [c], rfl, rfl, .inl (sq_of e2), ?_, ?_⟩
  · rw [List.map_map]
    have h : ((fun x : Str => x.length) ∘ fun c => SX.S [c]) = fun _ => 1 := by
      funext c
      show (SX.S [c]).length = 1
      rw [SX.S_len]
      rfl
    rw [h, List.map_const', List.sum_replicate_nat, List.length_map, SX.S_len]
    have := O.len
    simp
    omega
  · have h : (W.L.map fun c => SX.S [c]) = (W.L.map fun c => [c]).map SX.S := by rw [List.map_map]; rfl
    rw [h, join0]
    have h2 : (W.L.map fun c => [c]).flatten = W.L := by
      induction W.L with
      | nil => rfl
      | cons a l ih => rw [List.map_cons, List.flatten_cons, ih]; rfl
    rw [h2]
    exact k H1 e1
/-! W4 -/

/-! ### pages -/
theorem isS {a b : List Nat} : decide (V.str (SX.S a) = V.str (SX.S b)) = decide (a = b) := by
  by_cases h : a = b
  · rw [decide_eq_true h, decide_eq_true (by rw [h])]
  · rw [decide_eq_false h, decide_eq_false (fun z => h (SX.S_inj (V.str.inj z)))]
def Wd.good (W : Wd) (z : List Nat) : Prop := (∀ c ∈ z, c ∈ W.L) ∧ z.length ≤ 16
def sp_check_page (K : Fr) : Sp := fun vs H Q E => ∃ (c : Addr) (z : List Nat), vs = [.ref c, .str (SX.S z)] ∧ ∃ W : Wd, W.Ok ∧ CalAt K H c W ∧ z.length ≤ 1000 ∧ (W.good z → RetV .non H Q) ∧ (¬ W.good z → ∀ C d H', IsRoll K C → Ex H H' → E (.ref C) d H')
theorem ok_check_page (T : Tx w K mg) : FnOk P w K mg base (L2N.CX P w) 3 (a_check_page K) (fdOf K (a_check_page K)) ["calendar", "page"] (sp_check_page K) := by
  refine (T.d_check_page).ok sc_check_page (fun vs H Q E h => ?_) (fun cdv A outer s H vs Q E hr h => ?_)
  · obtain ⟨_, _, rfl, _⟩ := h
    rfl
  refine ⟨_, (pss_cons (ps_set (i := 2) sc_check_page.nd rfl (Or.inl rfl) (pe_prop (pv 0) T.cl_Calendar T.p_Calendar_signs (ok_Calendar_signs T) (hr.mono (by decide)) T.b_Calendar_signs .nil pass0 rfl))
      (pss_cons (ps_for (passes_of rfl) rfl (pi_range1 rfl T.z_range (pa_cons (pe_callB call_len (by rfl) T.z_len (by decide +kernel) (pa_cons (pv 1) pa_nil)) pa_nil)) (pg_name (i := 3) sc_check_page.nd rfl (Or.inl rfl))
      (pss_one (ps_if (pt_cmpR op_notIn_sign (pe_ix ix_str (pv 1) (pv 3) (fun _ _ => rfl)) (pv 2) (by first | exact nomark _ | rfl))
        (pss_one (L2N.ps_raise rfl (L2N.takes_of rfl rfl rfl rfl) (PMk5.pmk (pmk5_own T.ex_BadPage (einB_ok T.ei_BadPage).1 (einB_ok T.ei_BadPage).2 (q_BadPage T) T.b_BadPage_init (roomH_of (hr.mono (by decide))) rfl T.g_BadPage (pa_cons (pv 3) pa_nil)))))
        pss_nil)))
      (pss_one (ps_if (pt_cmpR op_gt (pe_callB call_len (by rfl) T.z_len (by decide +kernel) (pa_cons (pv 1) pa_nil)) (pe_gI T.i_MOST_PAGE) (by first | exact nomark _ | rfl))
      (pss_one (L2N.ps_raise rfl (L2N.takes_of rfl rfl rfl rfl) (PMk5.pmk (pmk5_own T.ex_BadPage (einB_ok T.ei_BadPage).1 (einB_ok T.ei_BadPage).2 (q_BadPage T) T.b_BadPage_init (roomH_of (hr.mono (by decide))) rfl T.g_BadPage (pa_cons (pe_gI T.i_MOST_PAGE) pa_nil)))))
      pss_nil)))), ?_⟩
  obtain ⟨c, z, rfl, W, O, hc, hz, k, kE⟩ := h
  obtain ⟨dx, ws, h1, h2⟩ := id hc
  walk_at "s"
  refine ⟨_, _, _, rfl, h1, ?_⟩
  refine ⟨c, rfl, W, O, hc, fun H1 e1 => ?_⟩
  walk_at "s"
  refine ⟨_, _, rfl, ⟨by rw [SX.S_len]; exact sz_of (by omega), rfl⟩, ?_⟩
  walk_at "s"
  refine ⟨by omega, by rw [SX.S_len]; omega, ?_⟩
  refine for_range (lo := 0) (n := (((SX.S z).length : Nat) : Int).toNat) (fun i σ H' => Ex H1 H' ∧ (∀ (j : Nat) ch, j < i → z[j]? = some ch → ch ∈ W.L) ∧ ∃ v, σ = [some (.ref c), some (.str (SX.S z)), some (.str (SX.S W.L)), v]) ⟨Ex.refl _, fun j _ hj => by omega, _, rfl⟩ ?_ ?_
  · rintro i σ H' hi ⟨e3, hg, v, rfl⟩
    rw [SX.S_len] at hi
    have hi : i < z.length := by omega
    obtain ⟨ch, hch⟩ : ∃ ch, z[i]? = some ch := ⟨z[i], by simp [hi]⟩
    rw [Int.zero_add]
    walk_at "s"
    refine go_ixS (by omega) (atI_nat hch) ?_
    walk_at "s"
    by_cases hm : ch ∈ W.L
    · rw [show decide (ch ∈ (SX.S W.L).cps.toList) = true from decide_eq_true hm]
      walk_at "s"
      refine ⟨e3, fun j ch' hj e => ?_, _, rfl⟩
      by_cases hji : j = i
      · rw [hji, hch] at e
        exact Option.some.inj e ▸ hm
      · exact hg j ch' (by omega) e
    · rw [show decide (ch ∈ (SX.S W.L).cps.toList) = false from decide_eq_false hm]
      walk_at "s"
      intro d nd
      exact kE (fun g => hm (g.1 ch (List.mem_of_getElem? hch))) _ _ _ (roll_BadPage T) (Ex.mut (e1.trans e3) (fresh_back (e1.trans e3) nd))
  · rintro σ H' ⟨e3, hg, v, rfl⟩
    walk_at "s"
    refine ⟨_, _, rfl, ⟨by rw [SX.S_len]; exact sz_of (by omega), rfl⟩, ?_⟩
    walk_at "s"
    rw [SX.S_len] at hg ⊢
    refine ite2 (fun q => ?_) (fun q => ?_)
    · have q := of_decide_eq_true q
      walk_at "s"
      intro d nd
      exact kE (fun g => by have := g.2; omega) _ _ _ (roll_BadPage T) (Ex.mut (e1.trans e3) (fresh_back (e1.trans e3) nd))
    · have q : ¬ ((16 : Int) < z.length) := fun z => q (decide_eq_true z)
      walk_at "s"
      refine k ⟨fun ch hm => ?_, by omega⟩ H' (e1.trans e3)
      obtain ⟨j, hj⟩ := List.getElem?_of_mem hm
      exact hg j ch (by have := (List.getElem?_eq_some_iff.mp hj).1; omega) hj
/-! W5 -/

theorem sl_succ {i : Nat} {S : Int → Bool} : sl (i + 1) S = if S (i : Int) then sl i S ++ [.int (i : Int)] else sl i S := by
  unfold sl
  rw [List.range_succ, List.filter_append, List.map_append]
  cases h : S (i : Int) with
  | true => rw [if_pos rfl, List.filter_cons, if_pos h]; rfl
  | false => rw [if_neg (by decide), List.filter_cons, if_neg (by rw [h]; decide)]; simp
theorem sl_len (i : Nat) (S : Int → Bool) : (sl i S).length ≤ i := by
  unfold sl
  rw [List.length_map]
  have h := List.length_filter_le (fun i : Nat => S (i : Int)) (List.range i)
  rw [List.length_range] at h
  exact h
def sp_Calendar_stands (K : Fr) : Sp := fun vs H Q _ => ∃ (c : Addr) (ch : Nat), vs = [.ref c, .str (SX.S [ch])] ∧ ∃ W : Wd, W.Ok ∧ CalAt K H c W ∧ ch ∈ W.L ∧ RetL (sl W.p (W.S ch)) H Q
theorem ok_Calendar_stands (T : Tx w K mg) : FnOk P w K mg base CX0 1 (a_Calendar_stands K) (fdOf K (a_Calendar_stands K)) ["self", "sign"] (sp_Calendar_stands K) := by
  refine (T.d_Calendar_stands).ok sc_Calendar_stands (fun vs H Q E h => ?_) (fun cdv A outer s H vs Q E hr h => ?_)
  · obtain ⟨_, _, rfl, _⟩ := h
    rfl
  refine ⟨_, PSs.nox (pss_cons (ps_set (i := 2) sc_Calendar_stands.nd rfl (Or.inl rfl) (pe_lst pa_nil))
      (pss_cons (ps_for PassesOwn.never rfl (pi_enum rfl T.z_enumerate (pa_cons (pe_fld (pv 0) rfl) pa_nil)) (pg_tup rfl (pgs_cons (pg_name (i := 3) sc_Calendar_stands.nd rfl (Or.inl rfl)) (pgs_cons (pg_name (i := 4) sc_Calendar_stands.nd rfl (Or.inl rfl)) pgs_nil)))
      (pss_one (ps_if (PW.pt (pw_and (pt_cmpR op_eq (pe_callB call_len (by rfl) T.z_len (by decide +kernel) (pa_cons (pv 1) pa_nil)) pe_int (by first | exact nomark _ | rfl)) (pw_and1 (pt_cmpR op_in_sign (pv 1) (pv 4) (by first | exact nomark _ | rfl)))))
        (pss_one (ps_expr (pe_bm PySem.F.plainAttrs_list PySem.F.slot_list_append PySem.F.type_list_append mt_append (pv 2) (pa_cons (pv 3) pa_nil))))
        pss_nil)))
      (pss_cons (ps_if (pt_cmpR op_eq (pe_callB call_len (by rfl) T.z_len (by decide +kernel) (pa_cons (pv 2) pa_nil)) pe_int (by first | exact nomark _ | rfl))
      (pss_one ps_never)
      pss_nil)
      (pss_one (ps_ret (pv 2)))))), ?_⟩
  obtain ⟨c, ch, rfl, W, O, ⟨dx, ws, h1, h2⟩, hch, k⟩ := h
  walk_at "s"
  intro l nl; generalize hEl : upd _ l _ = H1; have eH1 := exN nl hEl; have hl := atN hEl; clear hEl
  walk_at "s"
  refine ⟨_, _, _, _, _, rfl, (by walk_at "fact"), T.cl_Calendar, T.n_Calendar_words, kl1, ?_⟩
  refine ⟨_, _, rfl, sq_of (by walk_at "fact"), ?_⟩
  refine for_enum (fun i σ H' => Ex H H' ∧ H' l = some (.lst (sl i (W.S ch))) ∧ ∃ v1 v2, σ = [some (.ref c), some (.str (SX.S [ch])), some (.ref l), v1, v2]) ⟨eH1, hl, _, _, rfl⟩ (fun i σ H' _ p => sq_of (p.1 _ _ h2)) ?_ ?_
  · rintro i x σ H' hi ⟨e3, hl3, v1, v2, rfl⟩
    rw [List.getElem?_map] at hi
    obtain ⟨q, hq, rfl⟩ := Option.map_eq_some_iff.mp hi
    have hip : i < W.p := by
      have := (List.getElem?_eq_some_iff.mp hq).1
      rw [Wd.words_len] at this
      exact this
    have eq : q = W.word i := by
      unfold Wd.words at hq
      rw [List.getElem?_map, List.getElem?_range hip] at hq
      exact (Option.some.inj hq).symm
    subst eq
    intro T2 nT2; generalize hET2 : upd _ T2 _ = H2; have eH2 := exN nT2 hET2; have hT2 := atN hET2; clear hET2
    walk_at "s"
    refine ⟨_, _, rfl, ⟨by rw [SX.S_len]; exact sz_of (show 1 ≤ 100000 by decide), rfl⟩, ?_⟩
    walk_at "s"
    refine ite2 (fun _ => ?_) (fun h => absurd (decide_eq_true (by rw [SX.S_len]; rfl)) h)
    walk_at "s"
    have hm : decide (ch ∈ (SX.S (W.word i)).cps.toList) = W.S ch i := by
      rw [Wd.S_nat hip]
      show decide (ch ∈ W.L.filter _) = _
      cases hs : W.st ch i with
      | true => exact decide_eq_true (List.mem_filter.mpr ⟨hch, hs⟩)
      | false => exact decide_eq_false fun z => by have := (List.mem_filter.mp z).2; rw [hs] at this; cases this
    rw [hm]
    cases hs : W.S ch (i : Int) with
    | true =>
      walk_at "s"
      refine go_rapp (by walk_at "fact") (by have := sl_len i (W.S ch); have := O.le; omega) ?_
      refine ⟨Ex.mut (e3.trans eH2) nl, ?_, _, _, rfl⟩
      rw [upd_same, sl_succ, if_pos hs]
    | false =>
      walk_at "s"
      refine ⟨e3.trans eH2, ?_, _, _, rfl⟩
      rw [sl_succ, if_neg (by rw [hs]; decide)]
      exact eH2 _ _ hl3
  · rintro σ H' ⟨e3, hl3, v1, v2, rfl⟩
    rw [List.length_map, Wd.words_len] at hl3
    walk_at "s"
    refine ite2 (fun z => ?_) (fun _ => ?_)
    · have z := V.int.inj (of_decide_eq_true z)
      obtain ⟨x, hx, hs⟩ := O.hit ch hch
      have hm : V.int (x : Int) ∈ sl W.p (W.S ch) := List.mem_map.mpr ⟨x, List.mem_filter.mpr ⟨List.mem_range.mpr hx, by rw [Wd.S_nat hx]; exact hs⟩, rfl⟩
      have := List.length_pos_of_mem hm
      omega
    · walk_at "s"
      exact k l H' nl e3 hl3
/-! W6 -/

/-! ### casts -/
/-- the stands' lists, one for each letter -/
def SetsAt (H : Hp) (W : Wd) (D : Addr) (as : List Addr) (z : List Nat) : Prop := H D = some (.lst (as.map V.ref)) ∧ Paired (fun a c => a ≠ D ∧ H a = some (.lst (sl W.p (W.S c)))) as z
theorem paired_snoc {α β : Type} {R : α → β → Prop} : ∀ {xs : List α} {ys : List β} {x : α} {y : β}, Paired R xs ys → R x y → Paired R (xs ++ [x]) (ys ++ [y])
  | _, _, _, _, .nil, h => .cons h .nil
  | _, _, _, _, .cons h t, k => .cons h (paired_snoc t k)
theorem paired_at {α β : Type} {R : α → β → Prop} : ∀ {xs : List α} {ys : List β}, Paired R xs ys → ∀ {i : Nat} {x : α}, xs[i]? = some x → ∃ y, ys[i]? = some y ∧ R x y
  | _, _, .nil, i, x, e => by simp at e
  | a :: _, b :: _, .cons h t, 0, x, e => ⟨b, rfl, by
    have e2 : a = x := Option.some.inj e
    rw [← e2]
    exact h⟩
  | _ :: _, _ :: _, .cons h t, i + 1, x, e => paired_at t (show _ = some x from e)
theorem take_snoc {α : Type} {z : List α} {i : Nat} {c : α} (h : z[i]? = some c) : z.take (i + 1) = z.take i ++ [c] := by
  rw [List.take_add_one, h]
  rfl
def sp_sets_of (K : Fr) : Sp := fun vs H Q _ => ∃ (c : Addr) (z : List Nat), vs = [.ref c, .str (SX.S z)] ∧ ∃ W : Wd, W.Ok ∧ CalAt K H c W ∧ W.good z ∧ ∀ D as H', H D = none → Ex H H' → SetsAt H' W D as z → Q (.ref D) H'
theorem ok_sets_of (T : Tx w K mg) : FnOk P w K mg base CX0 4 (a_sets_of K) (fdOf K (a_sets_of K)) ["calendar", "page"] (sp_sets_of K) := by
  refine (T.d_sets_of).ok sc_sets_of (fun vs H Q E h => ?_) (fun cdv A outer s H vs Q E hr h => ?_)
  · obtain ⟨_, _, rfl, _⟩ := h
    rfl
  refine ⟨_, PSs.nox (pss_cons (ps_expr (pe_call (ok_check_page T) (hr.mono (by decide)) rfl T.g_check_page T.d_check_page.kp T.b_check_page .nil passE0 (pa_cons (pv 0) (pa_cons (pv 1) pa_nil))))
      (pss_one (ps_ret (pe_lc (own := [("sign", 2)]) (g := gName 2) (tt := tYes) rfl sc_sets_of.nd (pi_str (pv 1)) (blkOk_by (N := N_sets_of) (sc := defScope s_sets_of) (by decide +kernel)) (fun _ _ _ _ _ => pg_name (i := 2) sc_sets_of.nd rfl (Or.inl rfl)) (fun _ _ _ _ _ => pts_nil) (fun _ _ _ _ _ => (pe_meth (pv 0) T.cl_Calendar T.m_Calendar_stands (ok_Calendar_stands T) (hr.mono (by decide)) T.b_Calendar_stands .nil pass0 (pa_cons (pv 2) pa_nil))))))), ?_⟩
  obtain ⟨c, z, rfl, W, O, hc, hg, k⟩ := h
  obtain ⟨dx, ws, h1, h2⟩ := id hc
  walk_at "s"
  refine ⟨c, z, rfl, W, O, hc, by have := hg.2; omega, fun _ H1 e1 => ?_, fun n => absurd hg n⟩
  walk_at "s"
  refine lc_P (fun D i acc H' => H1 D = none ∧ Ex H1 H' ∧ ∃ as, acc = as.map V.ref ∧ i ≤ z.length ∧ SetsAt H' W D as (z.take i)) (fun R r => ⟨_, rfl, _, rfl, r⟩) (fun D nD => ⟨nD, Ex.new nD, [], rfl, Nat.zero_le _, upd_same, by rw [List.take_zero]; exact .nil⟩) (fun _ _ _ _ _ => gives_str) (fun _ => rfl) ?_ ?_
  · rintro D i acc H' hi ⟨nD, e2, as, rfl, _, hD, hp⟩
    have hch : z[i]? = some (z.getD i 0) := by simp [List.getD, hi]
    walk_at "s"
    refine ⟨_, _, _, rfl, by walk_at "fact", klNo (by decide +kernel), ?_⟩
    walk_at "s"
    refine ⟨c, _, rfl, W, O, (hc.ex e1).ex e2, hg.1 _ (List.mem_of_getElem? hch), fun p H3 np e3 hp3 => ?_⟩
    have npD : p ≠ D := (ne_of_none hD np).symm
    have hl : as.length ≤ 16 := by
      rw [Paired.length hp, List.length_take]
      have := hg.2
      omega
    refine ⟨as.map V.ref, e3 _ _ hD, by rw [List.length_map]; exact sz_lt (by omega), (as ++ [p]).map V.ref, nD, Ex.mut (e2.trans e3) nD, as ++ [p], rfl, hi, ?_, ?_⟩
    · rw [upd_same, List.map_append]
      rfl
    · rw [take_snoc hch]
      refine paired_snoc (R := fun a c => a ≠ D ∧ upd H3 D (.lst (as.map V.ref ++ [.ref p])) a = some (.lst (sl W.p (W.S c)))) (paired_mono (fun a b q => ?_) hp) ⟨npD, by rw [upd_ne npD]; exact hp3⟩
      exact ⟨q.1, by rw [upd_ne q.1]; exact e3 _ _ q.2⟩
  · rintro D acc H' ⟨nD, e2, as, rfl, _, hD, hp⟩
    rw [show z.take (SX.S z).cps.toList.length = z from List.take_length] at hp
    walk_at "s"
    exact k D as H' (fresh_back e1 nD) (e1.trans e2) ⟨hD, hp⟩
/-- the came function of a page -/
def Wd.cm (W : Wd) (z : List Nat) : Int → Int := Mth.cF W.p (fun j => W.S (z.getD j 0)) z.length
theorem cF_congr {p : Nat} {S S' : Nat → Int → Bool} : ∀ {n : Nat}, (∀ j, j < n → S j = S' j) → Mth.cF p S n = Mth.cF p S' n
  | 0, _ => rfl
  | n + 1, h => by
    show Mth.nxt p (Mth.cF p S n) (S n) = Mth.nxt p (Mth.cF p S' n) (S' n)
    rw [cF_congr (n := n) fun j hj => h j (by omega), h n (by omega)]
theorem Wd.Ok.dense {W : Wd} (O : W.Ok) {z : List Nat} (hz : ∀ c ∈ z, c ∈ W.L) (n : Nat) (hn : n ≤ z.length) : ∀ j, j < n → Mth.Dense (W.S (z.getD j 0)) W.p ∧ ∀ y, W.S (z.getD j 0) (y + W.p) = W.S (z.getD j 0) y := fun j hj => by
  have hm : z.getD j 0 ∈ z := by
    have h1 : z[j]? = some (z.getD j 0) := by simp [List.getD, show j < z.length by omega]
    exact List.mem_of_getElem? h1
  have h := O.wf (hz _ hm)
  exact ⟨h.2.2, h.2.1⟩
def sp_came_of (K : Fr) : Sp := fun vs H Q _ => ∃ (c : Addr) (z : List Nat), vs = [.ref c, .str (SX.S z)] ∧ ∃ W : Wd, W.Ok ∧ CalAt K H c W ∧ W.good z ∧ ∀ l H', Ex H H' → SqL K H' l (cl W.p (W.cm z)) → Q (.ref l) H'
theorem ok_came_of (T : Tx w K mg) : FnOk P w K mg base CX0 5 (a_came_of K) (fdOf K (a_came_of K)) ["calendar", "page"] (sp_came_of K) := by
  refine (T.d_came_of).ok sc_came_of (fun vs H Q E h => ?_) (fun cdv A outer s H vs Q E hr h => ?_)
  · obtain ⟨_, _, rfl, _⟩ := h
    rfl
  refine ⟨_, PSs.nox (pss_cons (ps_set (i := 2) sc_came_of.nd rfl (Or.inl rfl) (pe_listRg rfl rfl T.z_list (prg_1 rfl T.z_range (pe_prop (pv 0) T.cl_Calendar T.p_Calendar_places (ok_Calendar_places T) (hr.mono (by decide)) T.b_Calendar_places .nil pass0 rfl))))
      (pss_cons (ps_for PassesOwn.never rfl (pi_list (pe_call (ok_sets_of T) (hr.mono (by decide)) rfl T.g_sets_of T.d_sets_of.kp T.b_sets_of .nil pass0 (pa_cons (pv 0) (pa_cons (pv 1) pa_nil)))) (pg_name (i := 3) sc_came_of.nd rfl (Or.inl rfl))
      (pss_one (ps_set (i := 2) sc_came_of.nd rfl (Or.inl rfl) (pe_call (ok_step_came T) (hr.mono (by decide)) rfl T.g_step_came T.d_step_came.kp T.b_step_came .nil pass0 (pa_cons (pv 2) (pa_cons (pv 3) pa_nil))))))
      (pss_one (ps_ret (pv 2))))), ?_⟩
  obtain ⟨c, z, rfl, W, O, hc, hg, k⟩ := h
  obtain ⟨dx, ws, h1, h2⟩ := id hc
  walk_at "s"
  refine ⟨_, _, _, rfl, h1, ?_⟩
  refine ⟨c, rfl, W, hc, ?_⟩
  walk_at "s"
  refine ⟨RgOk.of_le (by decide) (by have := O.le; omega) (by decide) (by omega), ?_⟩
  intro q nq; generalize hEq : upd _ q _ = H1; have eH1 := exN nq hEq; have hq := atN hEq; clear hEq
  have e0 : rgV 0 (W.p : Int) = cl W.p fun y => y := by
    unfold rgV cl
    rw [show ((W.p : Int) - 0).toNat = W.p by omega]
    refine List.map_congr_left fun i _ => ?_
    rw [Int.zero_add]
  rw [e0] at hq
  walk_at "s"
  refine ⟨c, z, rfl, W, O, hc.ex eH1, hg, fun D as H2 nD e2 hs => ?_⟩
  have hl : as.length = z.length := Paired.length hs.2
  walk_at "s"
  refine ⟨⟨_, sq_of hs.1⟩, ?_⟩
  refine for_list (fun i σ H' => Ex H2 H' ∧ ∃ l v, SqL K H' l (cl W.p (Mth.cF W.p (fun j => W.S (z.getD j 0)) i)) ∧ σ = [some (.ref c), some (.str (SX.S z)), some (.ref l), v] ) ⟨Ex.refl _, q, _, by walk_at "seq", rfl⟩ (fun i σ H' _ p => sq_of (p.1 _ _ hs.1)) ?_ ?_
  · rintro i x σ H' hi ⟨e3, l, v, hl2, rfl⟩
    rw [List.getElem?_map] at hi
    obtain ⟨a, ha, rfl⟩ := Option.map_eq_some_iff.mp hi
    obtain ⟨ch, hch, hane, hst⟩ := paired_at hs.2 ha
    have hil := (List.getElem?_eq_some_iff.mp hch).1
    have ech : z.getD i 0 = ch := by simp [List.getD, hch]
    have hw := O.wf (hg.1 _ (List.mem_of_getElem? hch))
    have hG := Mth.goodK O.pos i (O.dense hg.1 i (by omega))
    walk_at "s"
    refine ⟨l, a, rfl, W.p, _, W.S ch, ⟨O.pos, by have := O.le; omega, hw.2.1, hw.2.2⟩, hG.per, hl2, sq_of (e3 _ _ hst), fun l2 H3 nl2 e4 hl3 => ?_⟩
    refine ⟨e3.trans e4, l2, _, ?_, rfl⟩
    rw [← ech] at hl3
    exact sq_of hl3
  · rintro σ H' ⟨e3, l, v, hl2, rfl⟩
    rw [List.length_map, hl] at hl2
    walk_at "s"
    exact k l H' ((eH1.trans e2).trans e3) hl2
/-! Mx2 -/

/-! ### what the heights are -/
theorem Wd.Ok.Good {W : Wd} (O : W.Ok) {z : List Nat} (hz : ∀ c ∈ z, c ∈ W.L) : Mth.Good W.p (W.cm z) := Mth.goodK O.pos z.length (O.dense hz z.length (Nat.le_refl _))
theorem hgt_ge {p : Nat} {c : Int → Int} (g : Mth.Good p c) (x : Int) : 0 ≤ hgt c x := by
  obtain ⟨y, e⟩ := g.sur x
  rw [hgt_of g e]
  have := g.le y
  omega
theorem hgt_le {p : Nat} {c : Int → Int} (g : Mth.Good p c) {B : Int} (b : Mth.Back c B) (x : Int) : hgt c x ≤ B := by
  obtain ⟨y, e⟩ := g.sur x
  rw [hgt_of g e]
  have := b y
  omega
theorem Wd.Ok.hgt_ok {W : Wd} (O : W.Ok) {z : List Nat} (hg : W.good z) (x : Int) : 0 ≤ hgt (W.cm z) x ∧ hgt (W.cm z) x ≤ 48 := by
  refine ⟨hgt_ge (O.Good hg.1) x, ?_⟩
  have h := hgt_le (O.Good hg.1) (Mth.backK z.length fun j hj => (O.dense hg.1 z.length (Nat.le_refl _) j hj).1) x
  have h1 := hg.2
  have h2 := O.le
  have h3 : ((z.length : Int)) * (W.p : Int) ≤ 16 * 3 := by
    have : z.length * W.p ≤ 16 * 3 := Nat.mul_le_mul h1 h2
    have h4 : ((z.length * W.p : Nat) : Int) ≤ ((16 * 3 : Nat) : Int) := Int.ofNat_le.mpr this
    rw [Int.natCast_mul] at h4
    exact h4
  omega
/-- two places never land together -/
theorem hgt_apart {p : Nat} {c : Int → Int} (hp : 0 < p) (g : Mth.Good p c) {s f : Int} (hf : 0 ≤ f) (hfs : f < s) (hs : s < p) : ¬ (s + hgt c s - f - hgt c f) % (p : Int) = 0 := fun h => by
  obtain ⟨ys, es⟩ := g.sur s
  obtain ⟨yf, ef⟩ := g.sur f
  rw [hgt_of g es, hgt_of g ef] at h
  have h1 := Int.emod_add_mul_ediv (s + (ys - s) - f - (yf - f)) p
  rw [h] at h1
  have h2 := per_int g.per yf ((s + (ys - s) - f - (yf - f)) / p)
  have e2 : yf + (s + (ys - s) - f - (yf - f)) / (p : Int) * p = ys := by
    rw [Int.mul_comm]
    omega
  rw [e2, es, ef] at h2
  have h3 : s - f = (p : Int) * ((s + (ys - s) - f - (yf - f)) / (p : Int)) := by rw [Int.mul_comm]; omega
  have h4 : (s - f) % (p : Int) = 0 := by rw [h3]; exact Int.mul_emod_right _ _
  rw [Int.emod_eq_of_lt (by omega) (by omega)] at h4
  omega
/-- the sum of a function over 0 .. n - 1, with one value changed -/
theorem sum_upd (f : Int → Int) (k v : Int) : ∀ n : Nat, Mth.sumTo (fun x => if x = k then v else f x) n = Mth.sumTo f n + (if 0 ≤ k ∧ k < n then v - f k else 0)
  | 0 => by
    show (0 : Int) = 0 + _
    rw [if_neg (by omega)]
    rfl
  | n + 1 => by
    show Mth.sumTo (fun x => if x = k then v else f x) n + (if (n : Int) = k then v else f n) = Mth.sumTo f n + f n + _
    rw [sum_upd f k v n]
    by_cases h : (n : Int) = k
    · rw [if_pos h, if_neg (by omega), if_pos (by omega), h]
      omega
    · rw [if_neg h]
      by_cases h2 : 0 ≤ k ∧ k < n
      · rw [if_pos h2, if_pos (by omega)]
        omega
      · rw [if_neg h2, if_neg (by omega)]
        omega
/-- a place not yet filled -/
theorem hv_none {p : Nat} {c : Int → Int} {x : Int} : ∀ {i : Nat}, (∀ j : Nat, j < i → x ≠ c j % p) → hv p c i x = 0
  | 0, _ => rfl
  | i + 1, h => by
    show (if x = c i % p then (i : Int) - c i else hv p c i x) = 0
    rw [if_neg (h i (by omega)), hv_none fun j hj => h j (by omega)]
theorem res_inj {p : Nat} {c : Int → Int} (hp : 0 < p) (g : Mth.Good p c) {i j : Nat} (hi : i < p) (hj : j < i) : c i % p ≠ c j % p := fun h => by
  have h1 := Int.emod_add_mul_ediv (c i) p
  have h2 := Int.emod_add_mul_ediv (c j) p
  have h3 := per_int g.per j (c i / p - c j / p)
  have e : c (j + (c i / p - c j / p) * p) = c i := by
    rw [h3, Int.sub_mul, Int.mul_comm (c i / p), Int.mul_comm (c j / p)]
    omega
  have e2 := g.inj _ _ e
  have h4 : (i : Int) - j = (p : Int) * (c i / p - c j / p) := by rw [Int.mul_comm]; omega
  have h5 : ((i : Int) - j) % (p : Int) = 0 := by rw [h4]; exact Int.mul_emod_right _ _
  rw [Int.emod_eq_of_lt (by omega) (by omega)] at h5
  omega
theorem hv_sum {p : Nat} {c : Int → Int} (hp : 0 < p) (g : Mth.Good p c) : ∀ i : Nat, i ≤ p → Mth.sumTo (hv p c i) p = Mth.sumTo (fun y => y) i - Mth.sumTo c i
  | 0, _ => by
    show Mth.sumTo (fun _ => 0) p = 0 - 0
    have : ∀ n, Mth.sumTo (fun _ => 0) n = 0 := fun n => by
      induction n with
      | zero => rfl
      | succ n ih => show Mth.sumTo (fun _ => 0) n + 0 = 0; rw [ih]; rfl
    rw [this]
    rfl
  | i + 1, h => by
    have e : hv p c (i + 1) = fun x => if x = c i % p then (i : Int) - c i else hv p c i x := rfl
    rw [e, sum_upd, hv_sum hp g i (by omega), if_pos ⟨Int.emod_nonneg _ (by omega), Int.emod_lt_of_pos _ (by omega)⟩, hv_none fun j hj => res_inj hp g (by omega) hj]
    show _ = Mth.sumTo (fun y => y) i + (i : Int) - (Mth.sumTo c i + c i)
    omega
theorem sumTo_congr {f g : Int → Int} : ∀ {n : Nat}, (∀ i : Nat, i < n → f i = g i) → Mth.sumTo f n = Mth.sumTo g n
  | 0, _ => rfl
  | n + 1, h => by
    show Mth.sumTo f n + f n = Mth.sumTo g n + g n
    rw [sumTo_congr fun i hi => h i (by omega), h n (by omega)]
theorem sum_list (f : Int → Int) : ∀ n : Nat, ((List.range n).map fun i : Nat => f (i : Int)).sum = Mth.sumTo f n
  | 0 => rfl
  | n + 1 => by
    rw [List.range_succ, List.map_append, List.sum_append, sum_list f n]
    show _ + (f n + 0) = Mth.sumTo f n + f n
    omega
theorem Wd.Ok.sum {W : Wd} (O : W.Ok) {z : List Nat} (hz : ∀ c ∈ z, c ∈ W.L) : Mth.sumTo (hgt (W.cm z)) W.p = z.length * W.p := by
  have g := O.Good hz
  rw [← sumTo_congr (f := hv W.p (W.cm z) W.p) fun i hi => hv_all O.pos g ⟨by omega, by omega⟩, hv_sum O.pos g W.p (Nat.le_refl _)]
  have h := Mth.sumK O.pos z.length (O.dense hz z.length (Nat.le_refl _))
  show _ - Mth.sumTo (Mth.cF W.p (fun j => W.S (z.getD j 0)) z.length) W.p = _
  rw [h]
  omega
/-- the card that a page gives -/
noncomputable def Wd.card (W : Wd) (z : List Nat) : List Int := (List.range W.p).map fun i : Nat => hgt (W.cm z) (i : Int)
theorem Wd.card_v {W : Wd} {z : List Nat} : (W.card z).map V.int = cl W.p (hgt (W.cm z)) := by
  unfold Wd.card cl
  rw [List.map_map]
  rfl
/-! W7 -/

def sp_Cast_init (K : Fr) : Sp := fun vs H Q _ => ∃ (x a : Addr), vs = [.ref x, .ref a] ∧ ∃ (dx : Addr) (W : Wd) (z : List Nat), W.Ok ∧ W.good z ∧ H x = some (.ins (He.ga K "Cast") dx []) ∧ SqL K H a (cl W.p (hgt (W.cm z))) ∧
  ∀ t H', H t = none → H' x = some (.ins (He.ga K "Cast") dx (caF (.ref t))) → H' t = some (.tup ((W.card z).map V.int)) → Frm [x] H H' → Q .non H'
theorem ok_Cast_init (T : Tx w K mg) : FnOk P w K mg base CX0 1 (a_Cast_init K) (fdOf K (a_Cast_init K)) ["self", "heights"] (sp_Cast_init K) := by
  refine (T.d_Cast_init).ok sc_Cast_init (fun vs H Q E h => ?_) (fun cdv A outer s H vs Q E hr h => ?_)
  · obtain ⟨_, _, rfl, _⟩ := h
    rfl
  refine ⟨_, PSs.nox (pss_cons (ps_set (i := 2) sc_Cast_init.nd rfl (Or.inl rfl) (pe_callB call_len (by rfl) T.z_len (by decide +kernel) (pa_cons (pv 1) pa_nil)))
      (pss_cons (ps_if (pt_not (pt_chain op_le op_le pe_int (pv 2) (ClX.pe_cval (pe_gR T.g_Cast))))
      (pss_one ps_never)
      pss_nil)
      (pss_cons (ps_for PassesOwn.never rfl (pi_range1 rfl T.z_range (pa_cons (pv 2) pa_nil)) (pg_name (i := 3) sc_Cast_init.nd rfl (Or.inl rfl))
      (pss_one (ps_if (pt_not (pt_chain op_le op_le pe_int (pe_ix ix_list (pv 1) (pv 3) (fun _ _ => rfl)) (pe_gI T.i_MOST_HEIGHT)))
        (pss_one ps_never)
        pss_nil)))
      (pss_cons (ps_for PassesOwn.never rfl (pi_range1 rfl T.z_range (pa_cons (pv 2) pa_nil)) (pg_name (i := 4) sc_Cast_init.nd rfl (Or.inl rfl))
      (pss_one (ps_for PassesOwn.never rfl (pi_range1 rfl T.z_range (pa_cons (pv 4) pa_nil)) (pg_name (i := 5) sc_Cast_init.nd rfl (Or.inl rfl))
        (pss_one (ps_if (pt_cmpR op_eq (pe_op op_modN (pe_op op_sub (pe_op op_sub (pe_op op_add (pv 4) (pe_ix ix_list (pv 1) (pv 4) (fun _ _ => rfl))) (pv 5)) (pe_ix ix_list (pv 1) (pv 5) (fun _ _ => rfl))) (pv 2)) pe_int (by first | exact nomark _ | rfl))
          (pss_one ps_never)
          pss_nil)))))
      (pss_cons (ps_set (i := 6) sc_Cast_init.nd rfl (Or.inl rfl) (pe_op op_fdivN (pe_callB (cr_sum rfl) (by rfl) T.z_sum (by decide +kernel) (pa_cons (pv 1) pa_nil)) (pv 2)))
      (pss_cons (ps_if (pt_cmpR op_gt (pv 6) (ClX.pe_cval (pe_gR T.g_Cast)) (by first | exact nomark _ | rfl))
      (pss_one ps_never)
      pss_nil)
      (pss_one (ps_fld (pv 0) (pe_callTy call_tuple_of (by rfl) T.z_tuple (by decide +kernel) (pa_cons (pv 1) pa_nil)) rfl)))))))), ?_⟩
  obtain ⟨x, a, rfl, dx, W, z, O, hg, hx, ha, k⟩ := h
  obtain ⟨r6, u6, c6⟩ := T.cv_MOST_PLACES
  obtain ⟨r16, u16, c16⟩ := T.cv_MOST_BALLS
  have hp := O.pos
  have hp3 := O.le
  walk_at "s"
  rw [cl_len]
  refine iteYes (by omega) ?_
  walk_at "s"
  refine ⟨_, _, _, _, rfl, r6, c6, ?_⟩
  walk_at "s"
  refine iteNS (by omega) ?_
  walk_at "s"
  refine ⟨by omega, by omega, ?_⟩
  refine for_range (lo := 0) (n := (W.p : Int).toNat) (fun i σ H' => H' = H ∧ ∃ v3, σ = [some (.ref x), some (.ref a), some (.int W.p), v3, none, none, none]) ⟨rfl, _, rfl⟩ ?_ ?_
  · rintro i σ H' hi ⟨rfl, v3, rfl⟩
    have hi : i < W.p := by omega
    rw [Int.zero_add]
    walk_at "s"
    refine go_ixL ha (cl_atN hi) ?_
    walk_at "s"
    refine iteYes (O.hgt_ok hg i).1 ?_
    walk_at "s"
    refine iteNS (by have := (O.hgt_ok hg i).2; omega) ?_
    walk_at "s"
    exact ⟨rfl, _, rfl⟩
  rintro σ H' ⟨rfl, v3, rfl⟩
  walk_at "s"
  refine ⟨by omega, by omega, ?_⟩
  refine for_range (lo := 0) (n := (W.p : Int).toNat) (fun i σ H'' => H'' = H' ∧ ∃ v4 v5, σ = [some (.ref x), some (.ref a), some (.int W.p), v3, v4, v5, none]) ⟨rfl, _, _, rfl⟩ ?_ ?_
  · rintro i σ H'' hi ⟨rfl, v4, v5, rfl⟩
    have hi : i < W.p := by omega
    rw [Int.zero_add]
    walk_at "s"
    refine ⟨by omega, by omega, ?_⟩
    refine for_range (lo := 0) (n := (i : Int).toNat) (fun j σ H3 => H3 = H'' ∧ ∃ v5, σ = [some (.ref x), some (.ref a), some (.int W.p), v3, some (.int i), v5, none]) ⟨rfl, _, rfl⟩ ?_ ?_
    · rintro j σ H3 hj ⟨rfl, v5, rfl⟩
      have hj : j < i := by omega
      rw [Int.zero_add]
      walk_at "s"
      refine go_ixL ha (cl_atN hi) ?_
      walk_at "s"
      refine go_ixL ha (cl_atN (show j < W.p by omega)) ?_
      walk_at "s"
      refine go_rI (by show (W.p : Int) ≠ 0; omega) ?_
      walk_at "s"
      refine iteNo (fun z => ?_) ?_
      · have z := V.int.inj z
        rw [fm_eq hp] at z
        exact hgt_apart hp (O.Good hg.1) (by omega) (by omega) (by omega) z
      · walk_at "s"
        exact ⟨rfl, _, rfl⟩
    · rintro σ H3 ⟨rfl, v5, rfl⟩
      exact ⟨rfl, _, _, rfl⟩
  rintro σ H'' ⟨rfl, v4, v5, rfl⟩
  walk_at "s"
  refine ⟨a, W.card z, rfl, by rw [Wd.card_v]; exact ha, ?_⟩
  have es : (W.card z).sum = z.length * W.p := by
    unfold Wd.card
    rw [sum_list, O.sum hg.1]
  rw [es]
  walk_at "s"
  have eb : ((z.length : Int) * (W.p : Int)).fdiv (W.p : Int) = z.length := by
    rw [Int.fdiv_eq_ediv_of_nonneg _ (by omega)]
    exact Int.mul_ediv_cancel _ (by omega)
  refine go_rI (show CDivN _ _ from ⟨by omega, by omega⟩) ?_
  walk_at "s"
  refine ⟨_, _, _, _, rfl, r16, c16, ?_⟩
  walk_at "s"
  refine iteNo (by rw [eb]; have := hg.2; omega) ?_
  walk_at "s"
  refine ⟨a, _, rfl, .inl ⟨ha, ?_⟩⟩
  intro t nt; generalize hEt : upd _ t _ = H1; have eH1 := exN nt hEt; have ht := atN hEt; clear hEt
  walk_at "s"
  refine ⟨_, _, _, _, rfl, eH1 _ _ hx, T.cl_Cast, T.n_Cast_heights, (by decide), ?_⟩
  refine k t _ nt (by rw [upd_same]; rfl) (by rw [upd_ne (ne_of_none hx nt).symm, ht, Wd.card_v]) ((Ex.frm eH1).upd (.inl (List.mem_cons_self ..)))
/-! W8 -/

def sp_Cast_heights (K : Fr) : Sp := fun vs H Q _ => ∃ (c : Addr), vs = [.ref c] ∧ ∃ hs : List Int, CastAt K H c hs ∧ RetL (hs.map V.int) H Q
theorem ok_Cast_heights (T : Tx w K mg) : FnOk P w K mg base CX0 1 (a_Cast_heights K) (fdOf K (a_Cast_heights K)) ["self"] (sp_Cast_heights K) := by
  refine (T.d_Cast_heights).ok sc_Cast_heights (fun vs H Q E h => ?_) (fun cdv A outer s H vs Q E hr h => ?_)
  · obtain ⟨_, rfl, _⟩ := h
    rfl
  refine ⟨_, PSs.nox (pss_one (ps_ret (pe_callTy call_list_of (by rfl) T.z_list (by decide +kernel) (pa_cons (pe_fld (pv 0) rfl) pa_nil)))), ?_⟩
  obtain ⟨c, rfl, hs, ⟨dx, t, h1, h2⟩, k⟩ := h
  walk_at "s"
  refine ⟨_, _, _, _, _, rfl, (by walk_at "fact"), T.cl_Cast, T.n_Cast_heights, ca1, ?_⟩
  refine ⟨t, _, rfl, .inr (st_of h2), ?_⟩
  intro l nl; generalize hEl : upd _ l _ = H1; have eH1 := exN nl hEl; have hl := atN hEl; clear hEl
  exact k l H1 nl eH1 hl
/-- heights as they may be -/
def Low (hs : List Int) : Prop := hs.length ≤ 6 ∧ ∀ h ∈ hs, 0 ≤ h ∧ h ≤ 100
def commas (hs : List Int) : Str := Txt.join "," (hs.map nm)
def sp_Cast_text (K : Fr) : Sp := fun vs H Q _ => ∃ (c : Addr), vs = [.ref c] ∧ ∃ hs : List Int, Low hs ∧ CastAt K H c hs ∧ RetV (.str (commas hs)) H Q
theorem low_len {hs : List Int} (L : Low hs) : ((hs.map nm).map (·.length)).sum + (hs.map nm).length * ("," : Str).length ≤ 16777216 := by
  have h1 : ∀ l : List Int, (∀ h ∈ l, 0 ≤ h ∧ h ≤ 100) → ((l.map nm).map (·.length)).sum ≤ l.length * 3 := fun l => by
    induction l with
    | nil => intro _; exact Nat.zero_le _
    | cons a l ih =>
      intro h
      have h2 := ih fun x hx => h x (List.mem_cons_of_mem _ hx)
      obtain ⟨h3, h4⟩ := h a (List.mem_cons_self ..)
      obtain ⟨n, rfl⟩ := Int.eq_ofNat_of_zero_le h3
      have h5 := nm_len n (by omega)
      simp only [List.map_cons, List.sum_cons, List.length_cons, Nat.add_mul]
      omega
  have h2 := h1 hs L.2
  have h3 := L.1
  have h4 : ("," : Str).length = 1 := by decide +kernel
  rw [h4, List.length_map]
  omega
theorem ok_Cast_text (T : Tx w K mg) : FnOk P w K mg base CX0 1 (a_Cast_text K) (fdOf K (a_Cast_text K)) ["self"] (sp_Cast_text K) := by
  refine (T.d_Cast_text).ok sc_Cast_text (fun vs H Q E h => ?_) (fun cdv A outer s H vs Q E hr h => ?_)
  · obtain ⟨_, rfl, _⟩ := h
    rfl
  refine ⟨_, PSs.nox (pss_one (ps_ret (pe_bm PySem.F.plainAttrs_str PySem.F.slot_str_join PySem.F.type_str_join mt_join pe_str (pa_cons (pe_lc (own := [("height", 1)]) (g := gName 1) (tt := tYes) rfl sc_Cast_text.nd (pi_tup (pe_fld (pv 0) rfl)) (blkOk_by (N := N_Cast_text) (sc := defScope s_Cast_text) (by decide +kernel)) (fun _ _ _ _ _ => pg_name (i := 1) sc_Cast_text.nd rfl (Or.inl rfl)) (fun _ _ _ _ _ => pts_nil) (fun _ _ _ _ _ => (pe_callTy call_str_int (by rfl) T.z_str (by decide +kernel) (pa_cons (pv 1) pa_nil)))) pa_nil)))), ?_⟩
  obtain ⟨c, rfl, hs, L, ⟨dx, t, h1, h2⟩, k⟩ := h
  walk_at "s"
  refine el_cMT (fun h : Int => V.int h) (fun _ => true) (fun h => .str (nm h)) ?_ (st_of h2) (by have := L.1; omega) (fun _ => rfl) (fun _ _ _ _ => et_yes) (fun h hm H1 e1 _ => ?_) H (Ex.refl H) _ fun q H1 nq e1 hq => ?_
  · intro H1 e1 Q1 q1
    walk_at "s"
    refine ⟨_, _, _, _, _, rfl, (by walk_at "fact"), T.cl_Cast, T.n_Cast_heights, ca1, ?_⟩
    exact q1 _ (Ex.refl _)
  · intro H1 e1 Q1 q1
    walk_at "s"
    obtain ⟨h3, h4⟩ := L.2 h hm
    refine ⟨?_, q1 _ (Ex.refl _)⟩
    have : h.natAbs ≤ 100 := by omega
    exact Nat.lt_of_le_of_lt (Nat.log2_le_self _) (by omega)
  · rw [filter_yes] at hq
    walk_at "s"
    refine ⟨_, q, hs.map nm, rfl, rfl, .inl (sq_of (by rw [List.map_map]; exact hq)), low_len L, ?_⟩
    exact k H1 e1
/-- a cast made anew -/
def CastNew (K : Fr) (H H' : Hp) (x : Addr) (hs : List Int) : Prop := ∃ dx t, H x = none ∧ H t = none ∧ H' x = some (.ins (He.ga K "Cast") dx (caF (.ref t))) ∧ H' t = some (.tup (hs.map V.int))
theorem CastNew.at_ {H H' : Hp} {x : Addr} {hs : List Int} (h : CastNew K H H' x hs) : CastAt K H' x hs := by
  obtain ⟨dx, t, _, _, h1, h2⟩ := h
  exact ⟨dx, t, h1, h2⟩
theorem CastNew.ext_ {G H H' : Hp} {x : Addr} {hs : List Int} (h : CastNew K H H' x hs) : CastAt K (ext G H H') x hs := by
  obtain ⟨dx, t, n1, n2, h1, h2⟩ := h
  exact ⟨dx, t, by rw [ext_new n1]; exact h1, by rw [ext_new n2]; exact h2⟩
def sp_cast_of (K : Fr) : Sp := fun vs H Q _ => ∃ (c : Addr) (z : List Nat), vs = [.ref c, .str (SX.S z)] ∧ ∃ W : Wd, W.Ok ∧ CalAt K H c W ∧ W.good z ∧ ∀ x H', Ex H H' → CastNew K H H' x (W.card z) → Q (.ref x) H'
theorem ok_cast_of (T : Tx w K mg) : FnOk P w K mg base CX0 6 (a_cast_of K) (fdOf K (a_cast_of K)) ["calendar", "page"] (sp_cast_of K) := by
  refine (T.d_cast_of).ok sc_cast_of (fun vs H Q E h => ?_) (fun cdv A outer s H vs Q E hr h => ?_)
  · obtain ⟨_, _, rfl, _⟩ := h
    rfl
  refine ⟨_, PSs.nox (pss_one (ps_ret (pe_make T.mk_Cast (ok_Cast_init T) (hr.mono (by decide)) rfl T.g_Cast T.b_Cast_init .nil pass0 (pa_cons (pe_call (ok_heights_of T) (hr.mono (by decide)) rfl T.g_heights_of T.d_heights_of.kp T.b_heights_of .nil pass0 (pa_cons (pe_call (ok_came_of T) (hr.mono (by decide)) rfl T.g_came_of T.d_came_of.kp T.b_came_of .nil pass0 (pa_cons (pv 0) (pa_cons (pv 1) pa_nil))) pa_nil)) pa_nil)))), ?_⟩
  obtain ⟨c, z, rfl, W, O, hc, hg, k⟩ := h
  walk_at "s"
  refine ⟨c, z, rfl, W, O, hc, hg, fun l H1 e1 hl => ?_⟩
  walk_at "s"
  refine ⟨l, rfl, W.p, _, O.pos, by have := O.le; omega, O.Good hg.1, hl, fun q H2 nq e2 hq => ?_⟩
  walk_at "s"
  intro x dx nx ndx nex
  have ex2 : Ex H2 (upd (upd H2 dx (.own x)) x (.ins (He.ga K "Cast") dx [])) := (Ex.new ndx).trans (Ex.new (by rw [upd_ne nex.symm]; exact nx))
  refine ⟨x, q, rfl, dx, W, z, O, hg, upd_same, sq_of (ex2 _ _ hq), fun t H3 nt h1 h2 f => ⟨rfl, ?_⟩⟩
  have e3 : Ex H2 H3 := fun a o h => f a o (fun m => by rcases List.mem_cons.mp m with rfl | m; rw [nx] at h; cases h; cases m) (ex2 a o h)
  exact k x H3 ((e1.trans e2).trans e3) ⟨dx, t, fresh_back (e1.trans e2) nx, fresh_back ((e1.trans e2).trans ex2) nt, h1, h2⟩
/-! W9 -/

/-! ### the desk -/
theorem frmP {H : Hp} {p : Addr} {o : HO} {H' : Hp} (e : upd H p o = H') : Frm [p] H H' := e ▸ frm_upd (List.mem_cons_self ..)
instance : Inhabited Pg := ⟨.lo 0⟩
instance : Inhabited Acc := ⟨⟨[], none, 0⟩⟩
section
variable {H : Hp} {Q : VK}
theorem go_isiS {z : Str} (q : Q (.bl true) H) : rIsi K [.str z, .ty "str"] H Q := ⟨_, _, _, _, true, rfl, .ty _, .base (.str _), kit_ty (by decide +kernel), q⟩
theorem go_isiI {i : Int} (q : Q (.bl false) H) : rIsi K [.int i, .ty "str"] H Q := ⟨_, _, _, _, false, rfl, .ty _, .base (.int _), kit_ty (by decide +kernel), q⟩
end
def Acc.tot (rows : List Pg) : Nat := (rows.map Pg.size).sum
theorem tot_int (rows : List Pg) : (rows.map fun r => (r.size : Int)).sum = (Acc.tot rows : Int) := by
  unfold Acc.tot
  induction rows with
  | nil => rfl
  | cons r rows ih => rw [List.map_cons, List.map_cons, List.sum_cons, List.sum_cons, ih, Int.natCast_add]
/-- rows as they may be: few, short -/
def Rows (rows : List Pg) : Prop := rows.length ≤ 100 ∧ ∀ r ∈ rows, r.size ≤ 1000
def sp_size_of (K : Fr) : Sp := fun vs H Q _ => ∃ v, vs = [v] ∧ ∃ r : Pg, v = r.v ∧ r.size ≤ 1000 ∧ Q (.int r.size) H
theorem ok_size_of (T : Tx w K mg) : FnOk P w K mg base CX0 1 (a_size_of K) (fdOf K (a_size_of K)) ["page"] (sp_size_of K) := by
  refine (T.d_size_of).ok sc_size_of (fun vs H Q E h => ?_) (fun cdv A outer s H vs Q E hr h => ?_)
  · obtain ⟨_, rfl, _⟩ := h
    rfl
  refine ⟨_, PSs.nox (pss_one (ps_ret (pe_ifExp (pt_val (pe_callB call_isi (by rfl) T.z_isinstance (by decide +kernel) (pa_cons (pv 0) (pa_cons (pe_bltn (v := .ty "str") (by rfl) T.z_str (by decide +kernel) rfl) pa_nil)))) (pe_callB call_len (by rfl) T.z_len (by decide +kernel) (pa_cons (pv 0) pa_nil)) (pv 0)))), ?_⟩
  obtain ⟨v, rfl, r, rfl, hz, k⟩ := h
  cases r with
  | kn z =>
    walk_at "s"
    refine go_isiS ?_
    walk_at "s"
    refine ⟨_, _, rfl, ⟨by rw [SX.S_len]; exact sz_of (Nat.le_trans hz (by decide)), rfl⟩, ?_⟩
    rw [SX.S_len]
    exact k
  | lo n =>
    walk_at "s"
    refine go_isiI ?_
    walk_at "s"
    exact k
def sp_check_entries (K : Fr) : Sp := fun vs H Q E => ∃ a : Addr, vs = [.ref a] ∧ ∃ rows : List Pg, Rows rows ∧ SqL K H a (rows.map Pg.v) ∧ (Acc.tot rows ≤ 16 → RetV .non H Q) ∧ (¬ Acc.tot rows ≤ 16 → ∀ C d H', IsRoll K C → Ex H H' → E (.ref C) d H')
theorem ok_check_entries (T : Tx w K mg) : FnOk P w K mg base (L2N.CX P w) 3 (a_check_entries K) (fdOf K (a_check_entries K)) ["held"] (sp_check_entries K) := by
  refine (T.d_check_entries).ok sc_check_entries (fun vs H Q E h => ?_) (fun cdv A outer s H vs Q E hr h => ?_)
  · obtain ⟨_, rfl, _⟩ := h
    rfl
  refine ⟨_, (pss_cons (ps_set (i := 1) sc_check_entries.nd rfl (Or.inl rfl) (pe_callB (cr_sum rfl) (by rfl) T.z_sum (by decide +kernel) (pa_cons (pe_lc (own := [("page", 2)]) (g := gName 2) (tt := tYes) rfl sc_check_entries.nd (pi_list (pv 0)) (blkOk_by (N := N_check_entries) (sc := defScope s_check_entries) (by decide +kernel)) (fun _ _ _ _ _ => pg_name (i := 2) sc_check_entries.nd rfl (Or.inl rfl)) (fun _ _ _ _ _ => pts_nil) (fun _ _ _ _ _ => (pe_call (ok_size_of T) (hr.mono (by decide)) rfl T.g_size_of T.d_size_of.kp T.b_size_of .nil pass0 (pa_cons (pv 2) pa_nil)))) pa_nil)))
      (pss_one (ps_if (pt_cmpR op_gt (pv 1) (pe_gI T.i_MOST_BALLS) (by first | exact nomark _ | rfl))
      (pss_one (L2N.ps_raise rfl (L2N.takes_of rfl rfl rfl rfl) (PMk5.pmk (pmk5_own T.ex_TooManyBalls (einB_ok T.ei_TooManyBalls).1 (einB_ok T.ei_TooManyBalls).2 (q_TooManyBalls T) T.b_TooManyBalls_init (roomH_of (hr.mono (by decide))) rfl T.g_TooManyBalls (pa_cons (pv 1) pa_nil)))))
      pss_nil))), ?_⟩
  obtain ⟨a, rfl, rows, R, ha, k, kE⟩ := h
  walk_at "s"
  refine el_cM Pg.v (fun _ => true) (fun r => .int (r.size : Int)) ?_ ha (by have := R.1; omega) (fun _ => rfl) (fun _ _ _ _ => et_yes) (fun r hr H1 e1 _ => ?_) H (Ex.refl H) _ fun q H1 nq e1 hq => ?_
  · exact ev_var rfl
  · intro H1 e1 Q1 q1
    walk_at "s"
    exact ⟨R.2 r hr, q1 _ (Ex.refl _)⟩
  rw [filter_yes] at hq
  walk_at "s"
  refine ⟨q, rows.map fun r => (r.size : Int), rfl, sq_of (by rw [List.map_map]; exact hq), ?_⟩
  have es := tot_int rows
  rw [es]
  walk_at "s"
  refine ite2 (fun z => ?_) (fun z => ?_)
  · have z := of_decide_eq_true z
    walk_at "s"
    intro d nd
    exact kE (by omega) _ _ _ (roll_TooManyBalls T) (Ex.mut e1 (fresh_back e1 nd))
  · have z : ¬ ((16 : Int) < Acc.tot rows) := fun q => z (decide_eq_true q)
    walk_at "s"
    exact k (by omega) H1 e1
def sp_State_init (K : Fr) : Sp := fun vs H Q _ => ∃ (x : Addr) (a b c d : V), vs = [.ref x, a, b, c, d] ∧ ∃ dx, H x = some (.ins (He.ga K "State") dx []) ∧ ∀ H', H' x = some (.ins (He.ga K "State") dx (stF a b c d)) → Frm [x] H H' → Q .non H'
theorem ok_State_init (T : Tx w K mg) : FnOk P w K mg base CX0 1 (a_State_init K) (fdOf K (a_State_init K)) ["self", "pages", "shown", "kept_card", "kept_bound"] (sp_State_init K) := by
  refine (T.d_State_init).ok sc_State_init (fun vs H Q E h => ?_) (fun cdv A outer s H vs Q E hr h => ?_)
  · obtain ⟨_, _, _, _, _, rfl, _⟩ := h
    rfl
  refine ⟨_, PSs.nox (pss_cons (ps_fld (pv 0) (pv 1) rfl)
      (pss_cons (ps_fld (pv 0) (pv 2) rfl)
      (pss_cons (ps_fld (pv 0) (pv 3) rfl)
      (pss_one (ps_fld (pv 0) (pv 4) rfl))))), ?_⟩
  obtain ⟨x, a, b, c, d, rfl, dx, hx, k⟩ := h
  walk_at "s"
  refine ⟨_, _, _, _, rfl, hx, T.cl_State, T.n_State_held, (by decide), ?_⟩
  generalize hEH1 : upd _ x _ = H1; have fH1 := frmP hEH1; have aH1 := atN hEH1; clear hEH1
  walk_at "s"
  refine ⟨_, _, _, _, rfl, aH1, T.cl_State, T.n_State_shown, (show 1 < 1000 by decide), ?_⟩
  generalize hEH2 : upd _ x _ = H2; have fH2 := frmP hEH2; have aH2 := atN hEH2; clear hEH2
  walk_at "s"
  refine ⟨_, _, _, _, rfl, aH2, T.cl_State, T.n_State_kept_card, (by rw [put1, puN (by decide +kernel) put1]; exact (show 2 < 1000 by decide)), ?_⟩
  generalize hEH3 : upd _ x _ = H3; have fH3 := frmP hEH3; have aH3 := atN hEH3; clear hEH3
  walk_at "s"
  refine ⟨_, _, _, _, rfl, aH3, T.cl_State, T.n_State_kept_bound, (by rw [put1, puN (by decide +kernel) put1, puN (by decide +kernel) (puN (by decide +kernel) put1)]; exact (show 3 < 1000 by decide)), ?_⟩
  generalize hEH4 : upd _ x _ = H4; have fH4 := frmP hEH4; have aH4 := atN hEH4; clear hEH4
  rw [stP] at aH4
  exact k H4 aH4 (((fH1.trans fH2).trans fH3).trans fH4)
theorem go_catA {H : Hp} {Q : VK} {pt t : Addr} {xs ys : List V} (h : SqT K H pt xs) (h2 : H t = some (.tup ys)) (hy : ys ≠ []) (l : xs.length + ys.length ≤ 100000) (q : ∀ p H', Ex H H' → H' p = some (.tup (xs ++ ys)) → (p = t ∨ H p = none) → Q (.ref p) H') : rCatA K (.ref pt) (.ref t) H Q :=
  ⟨pt, t, xs, ys, rfl, rfl, h, st_of h2, sz_of l, fun e => q t H (Ex.refl H) (by rw [e]; exact h2) (.inl rfl), fun _ e => absurd e hy, fun _ _ p np => q p _ (Ex.new np) upd_same (.inr np)⟩
theorem mkEx {H : Hp} {x dx : Addr} {o : HO} (nx : H x = none) (nd : H dx = none) (ne : dx ≠ x) : Ex H (upd (upd H dx (.own x)) x o) := (Ex.new nd).trans (Ex.new (by rw [upd_ne ne.symm]; exact nx))
theorem Frm.fresh {S : List Addr} {H H1 H2 : Hp} {x : Addr} (a : Frm S H H1) (b : Frm [x] H1 H2) (n : ∀ o, H x = some o → x ∈ S) : Frm S H H2 := fun c o hn h => b c o (fun m => by
    rcases List.mem_cons.mp m with rfl | m
    · exact hn (n o h)
    · cases m) (a c o hn h)
/-- a desk, G what never changes of H -/
structure DeskIn (K : Fr) (G H : Hp) (dk dx c st pt : Addr) (W : Wd) (A : Acc) (past : List Acc) : Prop where
  ex : Ex G H
  no : G dk = none
  at_ : H dk = some (.ins (He.ga K "Desk") dx (dkF (.ref c) (.ref st) (.ref pt)))
  cal : CalAt K G c W
  now : StAt K G st A
  pst : PastAt K G pt past
def DeskAt (K : Fr) (G H : Hp) (dk : Addr) (W : Wd) (A : Acc) (past : List Acc) : Prop := ∃ dx c st pt, DeskIn K G H dk dx c st pt W A past
/-- nothing of what stands is changed -/
theorem DeskIn.keep {G H G' H' : Hp} {dk dx c st pt : Addr} {W : Wd} {A : Acc} {past : List Acc} (D : DeskIn K G H dk dx c st pt W A past) (g : Gr G H G' H') (h : H' dk = H dk) : DeskIn K G' H' dk dx c st pt W A past :=
  ⟨g.up, g.old dk (by rw [D.at_]; exact fun z => nomatch z) D.no, h.trans D.at_, D.cal.ex g.ex, D.now.ex g.ex, D.pst.ex g.ex⟩
def sp_Desk_step (K : Fr) : Sp := fun vs H Q _ => ∃ (dk h : Addr) (cd : V) (b : Nat), vs = [.ref dk, .ref h, cd, .int b] ∧ ∃ (G : Hp) (W : Wd) (A A' : Acc) (past : List Acc), DeskAt K G H dk W A past ∧ G h = some (.lst (A'.rows.map Pg.v)) ∧ CardAt K G cd A'.card ∧ A'.bound = b ∧ A'.rows.length ≤ 100 ∧ past.length ≤ 1000 ∧
  ∀ G' H', Gr G H G' H' → Frm [dk] H H' → DeskAt K G' H' dk W A' (past ++ [A]) → Q .non H'
theorem ok_Desk_step (T : Tx w K mg) : FnOk P w K mg base CX0 3 (a_Desk_step K) (fdOf K (a_Desk_step K)) ["self", "held", "card", "bound"] (sp_Desk_step K) := by
  refine (T.d_Desk_step).ok sc_Desk_step (fun vs H Q E h => ?_) (fun cdv A outer s H vs Q E hr h => ?_)
  · obtain ⟨_, _, _, _, rfl, _⟩ := h
    rfl
  refine ⟨_, PSs.nox (pss_cons (ps_setLc (i := 4) (own := [("page", 5)]) (g := gName 5) (tt := tYes) rfl sc_Desk_step.nd rfl rfl (sw_true rfl rfl rfl (by decide +kernel)) (pi_list (pv 1)) (blkOk_by (N := N_Desk_step) (sc := defScope s_Desk_step) (by decide +kernel)) (fun _ _ _ _ _ => pg_name (i := 5) sc_Desk_step.nd rfl (Or.inl rfl)) (fun _ _ _ _ _ => pts_nil) (fun _ _ _ _ _ => (pe_ifExp (pt_val (pe_callB (id := "isinstance") (r := rIsi K) call_isi (by rfl) T.z_isinstance (by decide +kernel) (pa_cons (pv 5) (pa_cons (pe_bltn (v := .ty "str") (by rfl) T.z_str (by decide +kernel) rfl) pa_nil)))) (pv 5) pe_non)))
      (pss_cons (ps_fld (pv 0) (pe_op op_catA (pe_fld (pv 0) rfl) (pe_tup (pa_cons (pe_fld (pv 0) rfl) pa_nil))) rfl)
      (pss_one (ps_fld (pv 0) (pe_make T.mk_State (ok_State_init T) (hr.mono (by decide)) rfl T.g_State T.b_State_init .nil pass0 (pa_cons (pv 1) (pa_cons (pv 4) (pa_cons (pv 2) (pa_cons (pv 3) pa_nil))))) rfl)))), ?_⟩
  obtain ⟨dk, h, cd, b, rfl, G, W, A, A', past, ⟨dx, c, st, pt, D⟩, hh, hcd, rfl, hl, hpl, k⟩ := h
  obtain ⟨ss, hss, hps⟩ := D.pst
  have hd := D.at_
  have hG := D.ex
  have hlen := Paired.length hps
  walk_at "s"
  refine el_cM Pg.v (fun _ => true) Pg.shown (ev_var rfl) (sq_of (hG _ _ hh)) (by omega) (fun _ => rfl) (fun _ _ _ _ => et_yes) (fun r hr H1 e1 _ => ?_) H (Ex.refl H) _ fun sh H1 nsh e1 hsh => ?_
  · intro H2 e2 Q2 q2
    cases r with
    | kn z =>
      walk_at "s"
      refine go_isiS ?_
      walk_at "s"
      exact q2 _ (Ex.refl _)
    | lo n =>
      walk_at "s"
      refine go_isiI ?_
      walk_at "s"
      exact q2 _ (Ex.refl _)
  rw [filter_yes] at hsh
  walk_at "s"
  refine ⟨_, _, _, _, _, rfl, (by walk_at "fact"), T.cl_Desk, T.n_Desk_past, dk3, ?_⟩
  walk_at "s"
  refine ⟨_, _, _, _, _, rfl, (by walk_at "fact"), T.cl_Desk, T.n_Desk_now, dk2, ?_⟩
  walk_at "s"
  intro t1 nt1; generalize hEt1 : upd _ t1 _ = H2; have eH2 := exN nt1 hEt1; have ht1 := atN hEt1; clear hEt1
  refine go_catA (xs := ss.map V.ref) (ex_t ((hG.trans e1).trans eH2) hss) ht1 (List.cons_ne_nil _ _) (by rw [List.length_map]; show ss.length + 1 ≤ _; omega) fun p H3 e3 hp hpn => ?_
  have np1 : H1 p = none := by
    rcases hpn with rfl | h
    · exact nt1
    · exact fresh_back eH2 h
  have np : H p = none := fresh_back e1 np1
  walk_at "s"
  refine ⟨_, _, _, _, rfl, (by walk_at "fact"), T.cl_Desk, T.n_Desk_past, (by exact (show 3 < 1000 by decide)), ?_⟩
  generalize hEH4 : upd _ dk _ = H4; have fH4 := frmP hEH4; have aH4 := atN hEH4; clear hEH4
  rw [dkP3] at aH4
  walk_at "s"
  intro x dx' nx ndx nex
  have f4 : Frm [dk] H H4 := (Ex.frm ((e1.trans eH2).trans e3)).trans fH4
  have ndk : x ≠ dk := fun z => by rw [z, aH4] at nx; cases nx
  have nHx : H x = none := by
    cases q : H x with
    | none => rfl
    | some o =>
      have := f4 x o (fun m => by rcases List.mem_cons.mp m with z | m; exact ndk z; cases m) q
      rw [nx] at this
      cases this
  refine ⟨x, _, _, _, _, rfl, dx', upd_same, fun H6 h6 f6 => ⟨rfl, ?_⟩⟩
  have f6' : Frm [dk] H H6 := (f4.trans (Ex.frm (mkEx nx ndx nex))).fresh f6 (fun o h => by rw [nHx] at h; cases h)
  have f46 : Frm [x] H4 H6 := (Ex.frm (mkEx nx ndx nex)).trans f6
  have nm1 : dk ∉ [x] := fun m => by
    rcases List.mem_cons.mp m with z | m
    · exact ndk z.symm
    · cases m
  have a6 := f46 dk _ nm1 aH4
  walk_at "s"
  refine ⟨_, _, _, _, rfl, a6, T.cl_Desk, T.n_Desk_now, (by exact (show 3 < 1000 by decide)), ?_⟩
  generalize hEH7 : upd _ dk _ = H7; have fH7 := frmP hEH7; have aH7 := atN hEH7; clear hEH7
  rw [dkP2] at aH7
  have f7 : Frm [dk] H H7 := f6'.trans fH7
  have n1 : ∀ {b : Addr}, b ≠ dk → b ∉ [dk] := fun h m => by
    rcases List.mem_cons.mp m with z | m
    · exact h z
    · cases m
  have g : Gr G H (ext G H H7) H7 := Gr.of (S := [dk]) hG f7 (fun a m => by rcases List.mem_cons.mp m with rfl | m; exact D.no; cases m) (fun a m _ => by rcases List.mem_cons.mp m with rfl | m; rw [aH7]; exact (fun z => nomatch z); cases m)
  have hpd : p ≠ dk := fun z => by rw [z, hd] at np; cases np
  have hsd : sh ≠ dk := fun z => by rw [z, hd] at nsh; cases nsh
  have nx1 : ∀ {b : Addr} {o : HO}, H4 b = some o → b ≠ x := fun h z => by rw [z, nx] at h; cases h
  refine k _ H7 g f7 ⟨dx, c, x, p, ⟨g.up, g.old dk (by rw [hd]; exact fun z => nomatch z) D.no, aH7, D.cal.ex g.ex, ?_, ?_⟩⟩
  · refine ⟨dx', h, sh, cd, ?_, g.ex _ _ hh, ?_, hcd.ex g.ex⟩
    · rw [ext_new nHx]
      exact fH7 _ _ (n1 ndk) h6
    · have h4 := fH4 _ _ (n1 hsd) ((eH2.trans e3) _ _ hsh)
      have h6s := f46 sh _ (fun m => by rcases List.mem_cons.mp m with z | m; exact nx1 h4 z; cases m) h4
      rw [ext_new nsh]
      exact fH7 _ _ (n1 hsd) h6s
  · have h4 := fH4 _ _ (n1 hpd) hp
    have h6s := f46 p _ (fun m => by rcases List.mem_cons.mp m with z | m; exact nx1 h4 z; cases m) h4
    have h7 := fH7 _ _ (n1 hpd) h6s
    refine ⟨ss ++ [st], st_of ?_, paired_snoc (paired_mono (fun _ _ z => z.ex g.ex) hps) (D.now.ex g.ex)⟩
    rw [ext_new np, h7, List.map_append]
    rfl
/-! W10 -/

theorem cut_to {xs : List V} {k : Nat} : cutV xs none (some (k : Int)) = xs.take k := by
  unfold cutV
  rw [HT.sIx_none, HT.sIx_nat, List.drop_zero, Nat.sub_zero]
  rw [List.take_eq_take_iff]
  omega
theorem cut_from {xs : List V} {k : Nat} : cutV xs (some (k : Int)) none = xs.drop k := by
  unfold cutV
  rw [HT.sIx_none, HT.sIx_nat]
  rw [List.take_of_length_le (by rw [List.length_drop]; omega)]
  by_cases h : k ≤ xs.length
  · rw [Nat.min_eq_left h]
  · rw [Nat.min_eq_right (by omega), List.drop_of_length_le (Nat.le_refl _), List.drop_of_length_le (by omega)]
def insAt (rows : List Pg) (k : Nat) (r : Pg) : List Pg := rows.take k ++ [r] ++ rows.drop k
def setAt (rows : List Pg) (k : Nat) (r : Pg) : List Pg := rows.take k ++ [r] ++ rows.drop (k + 1)
def delAt (rows : List Pg) (k : Nat) : List Pg := rows.take k ++ rows.drop (k + 1)
structure AccOk (W : Wd) (A : Acc) : Prop where
  len : A.rows.length ≤ 8
  tot : Acc.tot A.rows ≤ 16
  let_ : ∀ z, Pg.kn z ∈ A.rows → ∀ c ∈ z, c ∈ W.L
  card : ∀ hs, A.card = some hs → Low hs
  bnd : 1 ≤ A.bound ∧ A.bound ≤ 8
theorem size_tot : ∀ {rows : List Pg} {r : Pg}, r ∈ rows → r.size ≤ Acc.tot rows
  | a :: rows, r, h => by
    unfold Acc.tot
    rw [List.map_cons, List.sum_cons]
    rcases List.mem_cons.mp h with rfl | h
    · omega
    · have := size_tot h
      unfold Acc.tot at this
      omega
theorem AccOk.rows {W : Wd} {A : Acc} (h : AccOk W A) : Rows A.rows := ⟨by have := h.len; omega, fun r hr => by have := size_tot hr; have := h.tot; omega⟩
/-- what an operation of the desk promises: r the state behind it, none: an error -/
def OpQ (K : Fr) (G H : Hp) (dk : Addr) (W : Wd) (A : Acc) (past : List Acc) (r : Option Acc) (Q' : Hp → Prop) (E : XK) : Prop :=
  (∀ A' G' H', r = some A' → Gr G H G' H' → Frm [dk] H H' → DeskAt K G' H' dk W A' (past ++ [A]) → Q' H') ∧ (r = none → ∀ C d H', IsRoll K C → Ex H H' → E (.ref C) d H')
def sp_Desk_hold (K : Fr) : Sp := fun vs H Q _ => ∃ (dk h : Addr), vs = [.ref dk, .ref h] ∧ ∃ (G : Hp) (W : Wd) (A : Acc) (rows : List Pg) (past : List Acc), DeskAt K G H dk W A past ∧ G h = some (.lst (rows.map Pg.v)) ∧ rows.length ≤ 100 ∧ past.length ≤ 1000 ∧
  ∀ G' H', Gr G H G' H' → Frm [dk] H H' → DeskAt K G' H' dk W { A with rows := rows } (past ++ [A]) → Q .non H'
theorem ok_Desk_hold (T : Tx w K mg) : FnOk P w K mg base CX0 4 (a_Desk_hold K) (fdOf K (a_Desk_hold K)) ["self", "held"] (sp_Desk_hold K) := by
  refine (T.d_Desk_hold).ok sc_Desk_hold (fun vs H Q E h => ?_) (fun cdv A outer s H vs Q E hr h => ?_)
  · obtain ⟨_, _, rfl, _⟩ := h
    rfl
  refine ⟨_, PSs.nox (pss_one (ps_expr (pe_meth (pv 0) T.cl_Desk T.m_Desk_step (ok_Desk_step T) (hr.mono (by decide)) T.b_Desk_step .nil pass0 (pa_cons (pv 1) (pa_cons (pe_fld (pe_fld (pv 0) rfl) rfl) (pa_cons (pe_fld (pe_fld (pv 0) rfl) rfl) pa_nil)))))), ?_⟩
  obtain ⟨dk, h, rfl, G, W, A, rows, past, ⟨dx, c, st, pt, D⟩, hh, hl, hpl, k⟩ := h
  have hd := D.at_
  have hG := D.ex
  obtain ⟨sx, h0, sh0, cd0, s1, s2, s3, s4⟩ := D.now
  walk_at "s"
  refine ⟨_, _, _, rfl, hd, dkNo (by decide +kernel) (by decide +kernel) (by decide +kernel), ?_⟩
  walk_at "s"
  refine ⟨_, _, _, _, _, rfl, (by walk_at "fact"), T.cl_Desk, T.n_Desk_now, dk2, ?_⟩
  walk_at "s"
  refine ⟨_, _, _, _, _, rfl, (by walk_at "fact"), T.cl_State, T.n_State_kept_card, st3, ?_⟩
  walk_at "s"
  refine ⟨_, _, _, _, _, rfl, (by walk_at "fact"), T.cl_Desk, T.n_Desk_now, dk2, ?_⟩
  walk_at "s"
  refine ⟨_, _, _, _, _, rfl, (by walk_at "fact"), T.cl_State, T.n_State_kept_bound, st4, ?_⟩
  walk_at "s"
  exact ⟨dk, h, cd0, A.bound, rfl, G, W, A, { A with rows := rows }, past, ⟨dx, c, st, pt, D⟩, hh, s4, rfl, hl, hpl, k⟩
def Acc.putAt (A : Acc) (k : Nat) (r : Pg) : Option Acc := if A.rows.length < A.bound ∧ Acc.tot A.rows + r.size ≤ 16 then some { A with rows := insAt A.rows k r } else none
theorem tot_app (a b : List Pg) : Acc.tot (a ++ b) = Acc.tot a + Acc.tot b := by
  unfold Acc.tot
  rw [List.map_append, List.sum_append]
def sp_Desk_put_at (K : Fr) : Sp := fun vs H Q E => ∃ (dk : Addr) (n : Int) (v : V), vs = [.ref dk, .int n, v] ∧ ∃ (k : Nat) (r : Pg), n = k ∧ v = r.v ∧ r.size ≤ 100 ∧ ∃ (G : Hp) (W : Wd) (A : Acc) (past : List Acc), DeskAt K G H dk W A past ∧ AccOk W A ∧ past.length ≤ 1000 ∧
  OpQ K G H dk W A past (A.putAt k r) (fun H' => Q .non H') E
theorem ok_Desk_put_at (T : Tx w K mg) : FnOk P w K mg base (L2N.CX P w) 5 (a_Desk_put_at K) (fdOf K (a_Desk_put_at K)) ["self", "number", "page"] (sp_Desk_put_at K) := by
  refine (T.d_Desk_put_at).ok sc_Desk_put_at (fun vs H Q E h => ?_) (fun cdv A outer s H vs Q E hr h => ?_)
  · obtain ⟨_, _, _, rfl, _⟩ := h
    rfl
  refine ⟨_, (pss_cons (ps_set (i := 3) sc_Desk_put_at.nd rfl (Or.inl rfl) (pe_fld (pe_fld (pv 0) rfl) rfl))
      (pss_cons (ps_if (pt_cmpR op_ge (pe_callB call_len (by rfl) T.z_len (by decide +kernel) (pa_cons (pv 3) pa_nil)) (pe_fld (pe_fld (pv 0) rfl) rfl) (by first | exact nomark _ | rfl))
      (pss_one (L2N.ps_raise rfl (L2N.takes_of rfl rfl rfl rfl) (PMk5.pmk (pmk5_own T.ex_Full (einB_ok T.ei_Full).1 (einB_ok T.ei_Full).2 (q_Full T) T.b_Full_init (roomH_of (hr.mono (by decide))) rfl T.g_Full (pa_cons (pe_fld (pe_fld (pv 0) rfl) rfl) pa_nil)))))
      pss_nil)
      (pss_cons (ps_expr (pe_call (ok_check_entries T) (hr.mono (by decide)) rfl T.g_check_entries T.d_check_entries.kp T.b_check_entries .nil (L2N.passes_call (L2N.takes_of rfl rfl rfl rfl) (fun _ _ _ _ h => h)) (pa_cons (pe_op op_cat (pv 3) (pe_lst (pa_cons (pv 2) pa_nil))) pa_nil)))
      (pss_one (ps_expr (pe_meth (pv 0) T.cl_Desk T.m_Desk_hold (ok_Desk_hold T) (hr.mono (by decide)) T.b_Desk_hold .nil pass0 (pa_cons (pe_op op_cat (pe_op op_cat (pe_slice sl_list (pv 3) po_none (po_some (pv 1))) (pe_lst (pa_cons (pv 2) pa_nil))) (pe_slice sl_list (pv 3) (po_some (pv 1)) po_none)) pa_nil))))))), ?_⟩
  obtain ⟨dk, n, v, rfl, k, r, rfl, rfl, hz, G, W, A, past, ⟨dx, c, st, pt, D⟩, ok, hpl, kq, kE⟩ := h
  have hd := D.at_
  have hG := D.ex
  obtain ⟨sx, h0, sh0, cd0, s1, s2, s3, s4⟩ := D.now
  have hR := ok.rows
  walk_at "s"
  refine ⟨_, _, _, _, _, rfl, (by walk_at "fact"), T.cl_Desk, T.n_Desk_now, dk2, ?_⟩
  walk_at "s"
  refine ⟨_, _, _, _, _, rfl, (by walk_at "fact"), T.cl_State, T.n_State_held, st1, ?_⟩
  walk_at "s"
  refine ⟨_, _, _, _, _, rfl, (by walk_at "fact"), T.cl_Desk, T.n_Desk_now, dk2, ?_⟩
  walk_at "s"
  refine ⟨_, _, _, _, _, rfl, (by walk_at "fact"), T.cl_State, T.n_State_kept_bound, st4, ?_⟩
  walk_at "s"
  rw [List.length_map]
  refine ite2 (fun z => ?_) (fun z => ?_)
  · have z := of_decide_eq_true z
    walk_at "s"
    refine ⟨_, _, _, _, _, rfl, (by walk_at "fact"), T.cl_Desk, T.n_Desk_now, dk2, ?_⟩
    walk_at "s"
    refine ⟨_, _, _, _, _, rfl, (by walk_at "fact"), T.cl_State, T.n_State_kept_bound, st4, ?_⟩
    walk_at "s"
    intro d nd
    exact kE (if_neg (by omega)) _ _ _ (roll_Full T) (Ex.new nd)
  have z : ¬ ((A.bound : Int) ≤ A.rows.length) := fun q => z (decide_eq_true q)
  walk_at "s"
  intro l1 nl1; generalize hEl1 : upd _ l1 _ = H1; have eH1 := exN nl1 hEl1; have hl1 := atN hEl1; clear hEl1
  refine go_cat (by walk_at "fact") hl1 (by rw [List.length_map]; show A.rows.length + 1 ≤ _; have := ok.len; omega) ?_
  intro l2 nl2; generalize hEl2 : upd _ l2 _ = H2; have eH2 := exN nl2 hEl2; have hl2 := atN hEl2; clear hEl2
  walk_at "s"
  have e2 : A.rows.map Pg.v ++ [r.v] = (A.rows ++ [r]).map Pg.v := by rw [List.map_append]; rfl
  have ht : Acc.tot (A.rows ++ [r]) = Acc.tot A.rows + r.size := by rw [tot_app]; rfl
  refine ⟨l2, rfl, A.rows ++ [r], ⟨by rw [List.length_append]; show A.rows.length + 1 ≤ _; have := ok.len; omega, fun x hx => ?_⟩, sq_of (by rw [← e2]; exact hl2), fun h16 H3 e3 => ?_, fun h16 C d H3 hC e3 => ?_⟩
  · rcases List.mem_append.mp hx with h | h
    · exact hR.2 x h
    · rw [List.mem_singleton.mp h]
      omega
  · walk_at "s"
    refine ⟨_, _, _, rfl, (by walk_at "fact"), dkNo (by decide +kernel) (by decide +kernel) (by decide +kernel), ?_⟩
    walk_at "s"
    refine go_slL (by walk_at "seq") ?_
    intro m1 nm1; generalize hEm1 : upd _ m1 _ = H4; have eH4 := exN nm1 hEm1; have hm1 := atN hEm1; clear hEm1
    rw [cut_to] at hm1
    walk_at "s"
    intro m2 nm2; generalize hEm2 : upd _ m2 _ = H5; have eH5 := exN nm2 hEm2; have hm2 := atN hEm2; clear hEm2
    refine go_cat (by walk_at "fact") hm2 (by rw [List.length_take, List.length_map]; show _ + 1 ≤ _; have := ok.len; omega) ?_
    intro m3 nm3; generalize hEm3 : upd _ m3 _ = H6; have eH6 := exN nm3 hEm3; have hm3 := atN hEm3; clear hEm3
    walk_at "s"
    refine go_slL (by walk_at "seq") ?_
    intro m4 nm4; generalize hEm4 : upd _ m4 _ = H7; have eH7 := exN nm4 hEm4; have hm4 := atN hEm4; clear hEm4
    rw [cut_from] at hm4
    refine go_cat (by walk_at "fact") hm4 (by rw [List.length_append, List.length_take, List.length_drop, List.length_map]; show _ + 1 + _ ≤ _; have := ok.len; omega) ?_
    intro m5 nm5; generalize hEm5 : upd _ m5 _ = H8; have eH8 := exN nm5 hEm5; have hm5 := atN hEm5; clear hEm5
    have e8 : Ex H H8 := by walk_at "ex"
    have g0 : Gr G H (ext G H H8) H8 := Gr.pure hG e8
    have n5 : H m5 = none := fresh_back (by walk_at "ex") nm5
    walk_at "s"
    refine ⟨dk, m5, rfl, ext G H H8, W, A, insAt A.rows k r, past, ⟨dx, c, st, pt, D.keep g0 (by rw [e8 _ _ hd, hd])⟩, ?_, ?_, hpl, fun G2 H9 g f D' => ?_⟩
    · rw [ext_new n5, hm5]
      unfold insAt
      rw [List.map_append, List.map_append, List.map_take, List.map_drop]
      rfl
    · unfold insAt
      rw [List.length_append, List.length_append, List.length_take, List.length_drop]
      have := ok.len
      show _ + 1 + _ ≤ _
      omega
    · exact kq _ G2 H9 (if_pos ⟨by omega, by omega⟩) (g0.trans g) ((Ex.frm e8).trans f) D'
  · exact kE (if_neg (by omega)) C d H3 hC ((eH1.trans eH2).trans e3)
/-! W11 -/

def Acc.changeAt (A : Acc) (k : Nat) (r : Pg) : Option Acc := if Acc.tot (setAt A.rows k r) ≤ 16 then some { A with rows := setAt A.rows k r } else none
theorem setAt_len {rows : List Pg} {k : Nat} {r : Pg} (h : k < rows.length) : (setAt rows k r).length = rows.length := by
  unfold setAt
  rw [List.length_append, List.length_append, List.length_take, List.length_drop]
  show _ + 1 + _ = _
  omega
theorem setAt_mem {rows : List Pg} {k : Nat} {r x : Pg} (h : x ∈ setAt rows k r) : x ∈ rows ∨ x = r := by
  unfold setAt at h
  rcases List.mem_append.mp h with h | h
  · rcases List.mem_append.mp h with h | h
    · exact .inl (List.mem_of_mem_take h)
    · exact .inr (List.mem_singleton.mp h)
  · exact .inl (List.mem_of_mem_drop h)
def sp_Desk_change (K : Fr) : Sp := fun vs H Q E => ∃ (dk : Addr) (n : Int) (v : V), vs = [.ref dk, .int n, v] ∧ ∃ (k : Nat) (r : Pg), n = k ∧ v = r.v ∧ r.size ≤ 100 ∧ ∃ (G : Hp) (W : Wd) (A : Acc) (past : List Acc), DeskAt K G H dk W A past ∧ AccOk W A ∧ past.length ≤ 1000 ∧ k < A.rows.length ∧
  OpQ K G H dk W A past (A.changeAt k r) (fun H' => Q .non H') E
theorem ok_Desk_change (T : Tx w K mg) : FnOk P w K mg base (L2N.CX P w) 5 (a_Desk_change K) (fdOf K (a_Desk_change K)) ["self", "number", "page"] (sp_Desk_change K) := by
  refine (T.d_Desk_change).ok sc_Desk_change (fun vs H Q E h => ?_) (fun cdv A outer s H vs Q E hr h => ?_)
  · obtain ⟨_, _, _, rfl, _⟩ := h
    rfl
  refine ⟨_, (pss_cons (ps_set (i := 3) sc_Desk_change.nd rfl (Or.inl rfl) (pe_op op_cat (pe_op op_cat (pe_slice sl_list (pe_fld (pe_fld (pv 0) rfl) rfl) po_none (po_some (pv 1))) (pe_lst (pa_cons (pv 2) pa_nil))) (pe_slice sl_list (pe_fld (pe_fld (pv 0) rfl) rfl) (po_some (pe_op op_add (pv 1) pe_int)) po_none)))
      (pss_cons (ps_expr (pe_call (ok_check_entries T) (hr.mono (by decide)) rfl T.g_check_entries T.d_check_entries.kp T.b_check_entries .nil (L2N.passes_call (L2N.takes_of rfl rfl rfl rfl) (fun _ _ _ _ h => h)) (pa_cons (pv 3) pa_nil)))
      (pss_one (ps_expr (pe_meth (pv 0) T.cl_Desk T.m_Desk_hold (ok_Desk_hold T) (hr.mono (by decide)) T.b_Desk_hold .nil pass0 (pa_cons (pv 3) pa_nil)))))), ?_⟩
  obtain ⟨dk, n, v, rfl, k, r, rfl, rfl, hz, G, W, A, past, ⟨dx, c, st, pt, D⟩, ok, hpl, hk, kq, kE⟩ := h
  have hd := D.at_
  have hG := D.ex
  obtain ⟨sx, h0, sh0, cd0, s1, s2, s3, s4⟩ := D.now
  have hR := ok.rows
  walk_at "s"
  refine ⟨_, _, _, _, _, rfl, (by walk_at "fact"), T.cl_Desk, T.n_Desk_now, dk2, ?_⟩
  walk_at "s"
  refine ⟨_, _, _, _, _, rfl, (by walk_at "fact"), T.cl_State, T.n_State_held, st1, ?_⟩
  walk_at "s"
  refine go_slL (by walk_at "seq") ?_
  intro m1 nm1; generalize hEm1 : upd _ m1 _ = H4; have eH4 := exN nm1 hEm1; have hm1 := atN hEm1; clear hEm1
  rw [cut_to] at hm1
  walk_at "s"
  intro m2 nm2; generalize hEm2 : upd _ m2 _ = H5; have eH5 := exN nm2 hEm2; have hm2 := atN hEm2; clear hEm2
  refine go_cat (by walk_at "fact") hm2 (by rw [List.length_take, List.length_map]; show _ + 1 ≤ _; have := ok.len; omega) ?_
  intro m3 nm3; generalize hEm3 : upd _ m3 _ = H6; have eH6 := exN nm3 hEm3; have hm3 := atN hEm3; clear hEm3
  walk_at "s"
  refine ⟨_, _, _, _, _, rfl, (by walk_at "fact"), T.cl_Desk, T.n_Desk_now, dk2, ?_⟩
  walk_at "s"
  refine ⟨_, _, _, _, _, rfl, (by walk_at "fact"), T.cl_State, T.n_State_held, st1, ?_⟩
  walk_at "s"
  refine go_slL (by walk_at "seq") ?_
  intro m4 nm4; generalize hEm4 : upd _ m4 _ = H7; have eH7 := exN nm4 hEm4; have hm4 := atN hEm4; clear hEm4
  rw [show (k : Int) + 1 = ((k + 1 : Nat) : Int) by omega, cut_from] at hm4
  refine go_cat (by walk_at "fact") hm4 (by rw [List.length_append, List.length_take, List.length_drop, List.length_map]; show _ + 1 + _ ≤ _; have := ok.len; omega) ?_
  intro m5 nm5; generalize hEm5 : upd _ m5 _ = H8; have eH8 := exN nm5 hEm5; have hm5 := atN hEm5; clear hEm5
  have e8 : Ex H H8 := by walk_at "ex"
  have n5 : H m5 = none := fresh_back (by walk_at "ex") nm5
  have h5 : H8 m5 = some (.lst ((setAt A.rows k r).map Pg.v)) := by
    rw [hm5]
    unfold setAt
    rw [List.map_append, List.map_append, List.map_take, List.map_drop]
    rfl
  have hlen := setAt_len (r := r) hk
  walk_at "s"
  refine ⟨m5, rfl, setAt A.rows k r, ⟨by rw [hlen]; exact hR.1, fun x hx => ?_⟩, sq_of h5, fun h16 H3 e3 => ?_, fun h16 C d H3 hC e3 => ?_⟩
  · rcases setAt_mem hx with h | rfl
    · exact hR.2 x h
    · omega
  · have e9 : Ex H H3 := e8.trans e3
    have g0 : Gr G H (ext G H H3) H3 := Gr.pure hG e9
    walk_at "s"
    refine ⟨_, _, _, rfl, e9 _ _ hd, dkNo (by decide +kernel) (by decide +kernel) (by decide +kernel), ?_⟩
    walk_at "s"
    refine ⟨dk, m5, rfl, ext G H H3, W, A, setAt A.rows k r, past, ⟨dx, c, st, pt, D.keep g0 (by rw [e9 _ _ hd, hd])⟩, ?_, by rw [hlen]; exact hR.1, hpl, fun G2 H9 g f D' => ?_⟩
    · rw [ext_new n5]
      exact e3 _ _ h5
    · exact kq _ G2 H9 (if_pos h16) (g0.trans g) ((Ex.frm e9).trans f) D'
  · exact kE (if_neg h16) C d H3 hC (e8.trans e3)
def sp_Desk_page_at (K : Fr) : Sp := fun vs H Q E => ∃ (dk : Addr) (n : Int), vs = [.ref dk, .int n] ∧ ∃ (G : Hp) (W : Wd) (A : Acc) (past : List Acc), DeskAt K G H dk W A past ∧ AccOk W A ∧
  (∀ (k : Nat) r, n = k → A.rows[k]? = some r → Q r.v H) ∧ (¬ (0 ≤ n ∧ n < A.rows.length) → ∀ C d H', IsRoll K C → Ex H H' → E (.ref C) d H')
theorem ok_Desk_page_at (T : Tx w K mg) : FnOk P w K mg base (L2N.CX P w) 3 (a_Desk_page_at K) (fdOf K (a_Desk_page_at K)) ["self", "number"] (sp_Desk_page_at K) := by
  refine (T.d_Desk_page_at).ok sc_Desk_page_at (fun vs H Q E h => ?_) (fun cdv A outer s H vs Q E hr h => ?_)
  · obtain ⟨_, _, rfl, _⟩ := h
    rfl
  refine ⟨_, (pss_cons (ps_if (pt_not (pt_chain op_le op_lt pe_int (pv 1) (pe_callB call_len (by rfl) T.z_len (by decide +kernel) (pa_cons (pe_fld (pe_fld (pv 0) rfl) rfl) pa_nil))))
      (pss_one (L2N.ps_raise rfl (L2N.takes_of rfl rfl rfl rfl) (PMk5.pmk (pmk5_own T.ex_NoPage (einB_ok T.ei_NoPage).1 (einB_ok T.ei_NoPage).2 (q_NoPage T) T.b_NoPage_init (roomH_of (hr.mono (by decide))) rfl T.g_NoPage (pa_cons (pv 1) pa_nil)))))
      pss_nil)
      (pss_one (ps_ret (pe_ix ix_list (pe_fld (pe_fld (pv 0) rfl) rfl) (pv 1) (fun _ _ => rfl))))), ?_⟩
  obtain ⟨dk, n, rfl, G, W, A, past, ⟨dx, c, st, pt, D⟩, ok, kq, kE⟩ := h
  have hd := D.at_
  have hG := D.ex
  obtain ⟨sx, h0, sh0, cd0, s1, s2, s3, s4⟩ := D.now
  have bad : ¬ (0 ≤ n ∧ n < A.rows.length) → tRz (He.ga K "NoPage") "number" (tCons (tVar 1) tNil) (L2.start N_Desk_page_at [.ref dk, .int n]) H fun cls d H' => E cls d H' := fun hn => by
    walk_at "s"
    intro d nd
    exact kE hn _ _ _ (roll_NoPage T) (Ex.new nd)
  walk_at "s"
  refine ite2 (fun h0n => ?_) (fun h0n => ?_)
  · have h0n := of_decide_eq_true h0n
    walk_at "s"
    refine ⟨_, _, _, _, _, rfl, (by walk_at "fact"), T.cl_Desk, T.n_Desk_now, dk2, ?_⟩
    walk_at "s"
    refine ⟨_, _, _, _, _, rfl, (by walk_at "fact"), T.cl_State, T.n_State_held, st1, ?_⟩
    walk_at "s"
    rw [List.length_map]
    by_cases hlt : n < (A.rows.length : Int)
    · rw [decide_eq_true hlt]
      walk_at "s"
      refine ⟨_, _, _, _, _, rfl, (by walk_at "fact"), T.cl_Desk, T.n_Desk_now, dk2, ?_⟩
      walk_at "s"
      refine ⟨_, _, _, _, _, rfl, (by walk_at "fact"), T.cl_State, T.n_State_held, st1, ?_⟩
      walk_at "s"
      obtain ⟨k, rfl⟩ := Int.eq_ofNat_of_zero_le h0n
      have hr : A.rows[k]? = some (A.rows[k]'(by omega)) := by simp [show k < A.rows.length by omega]
      refine go_ixL (by walk_at "seq") (atI_nat (by rw [List.getElem?_map, hr]; rfl)) ?_
      exact kq k _ rfl hr
    · rw [decide_eq_false hlt]
      walk_at "s"
      intro d nd
      exact kE (fun z => hlt z.2) _ _ _ (roll_NoPage T) (Ex.new nd)
  · have h0n : ¬ (0 : Int) ≤ n := fun z => h0n (decide_eq_true z)
    walk_at "s"
    intro d nd
    exact kE (fun z => h0n z.1) _ _ _ (roll_NoPage T) (Ex.new nd)
def Pg.isLo : Pg → Bool
  | .kn _ => false
  | .lo _ => true
def lostAt (rows : List Pg) : Option Nat := rows.findIdx? Pg.isLo
def sp_Desk_check_known (K : Fr) : Sp := fun vs H Q E => ∃ (dk : Addr), vs = [.ref dk] ∧ ∃ (G : Hp) (W : Wd) (A : Acc) (past : List Acc), DeskAt K G H dk W A past ∧ AccOk W A ∧
  (lostAt A.rows = none → RetV .non H Q) ∧ ∀ k : Nat, lostAt A.rows = some k → ∀ d H', Ex H H' → H' d = some (.xd [("number", .int k)]) → E (.ref (He.ga K "PageLost")) (some d) H'
theorem ok_Desk_check_known (T : Tx w K mg) : FnOk P w K mg base (L2N.CX P w) 3 (a_Desk_check_known K) (fdOf K (a_Desk_check_known K)) ["self"] (sp_Desk_check_known K) := by
  refine (T.d_Desk_check_known).ok sc_Desk_check_known (fun vs H Q E h => ?_) (fun cdv A outer s H vs Q E hr h => ?_)
  · obtain ⟨_, rfl, _⟩ := h
    rfl
  refine ⟨_, (pss_one (ps_for (passes_of rfl) rfl (pi_enum rfl T.z_enumerate (pa_cons (pe_fld (pe_fld (pv 0) rfl) rfl) pa_nil)) (pg_tup rfl (pgs_cons (pg_name (i := 1) sc_Desk_check_known.nd rfl (Or.inl rfl)) (pgs_cons (pg_name (i := 2) sc_Desk_check_known.nd rfl (Or.inl rfl)) pgs_nil)))
      (pss_one (ps_if (pt_not (pt_val (pe_callB call_isi (by rfl) T.z_isinstance (by decide +kernel) (pa_cons (pv 2) (pa_cons (pe_bltn (v := .ty "str") (by rfl) T.z_str (by decide +kernel) rfl) pa_nil)))))
        (pss_one (L2N.ps_raise rfl (L2N.takes_of rfl rfl rfl rfl) (PMk5.pmk (pmk5_own T.ex_PageLost (einB_ok T.ei_PageLost).1 (einB_ok T.ei_PageLost).2 (q_PageLost T) T.b_PageLost_init (roomH_of (hr.mono (by decide))) rfl T.g_PageLost (pa_cons (pv 1) pa_nil)))))
        pss_nil)))), ?_⟩
  obtain ⟨dk, rfl, G, W, A, past, ⟨dx, c, st, pt, D⟩, ok, kq, kE⟩ := h
  have hd := D.at_
  have hG := D.ex
  obtain ⟨sx, h0, sh0, cd0, s1, s2, s3, s4⟩ := D.now
  walk_at "s"
  refine ⟨_, _, _, _, _, rfl, (by walk_at "fact"), T.cl_Desk, T.n_Desk_now, dk2, ?_⟩
  walk_at "s"
  refine ⟨_, _, _, _, _, rfl, (by walk_at "fact"), T.cl_State, T.n_State_held, st1, ?_⟩
  refine ⟨_, _, rfl, sq_of (by walk_at "fact"), ?_⟩
  refine for_enum (fun i σ H' => Ex H H' ∧ (∀ (j : Nat) r, j < i → A.rows[j]? = some r → r.isLo = false) ∧ ∃ v1 v2, σ = [some (.ref dk), v1, v2]) ⟨Ex.refl _, fun j _ hj => by omega, _, _, rfl⟩ (fun i σ H' _ p => sq_of (p.1 _ _ (hG _ _ s2))) ?_ ?_
  · rintro i x σ H' hi ⟨e3, hg, v1, v2, rfl⟩
    rw [List.getElem?_map] at hi
    obtain ⟨r, hr, rfl⟩ := Option.map_eq_some_iff.mp hi
    intro T2 nT2; generalize hET2 : upd _ T2 _ = H2; have eH2 := exN nT2 hET2; have hT2 := atN hET2; clear hET2
    cases r with
    | kn z =>
      walk_at "s"
      refine go_isiS ?_
      walk_at "s"
      refine ⟨e3.trans eH2, fun j r' hj e => ?_, _, _, rfl⟩
      by_cases hji : j = i
      · rw [hji, hr] at e
        rw [← Option.some.inj e]
        rfl
      · exact hg j r' (by omega) e
    | lo n =>
      walk_at "s"
      refine go_isiI ?_
      walk_at "s"
      intro d nd
      refine kE i ?_ d _ (Ex.mut (e3.trans eH2) (fresh_back (e3.trans eH2) nd)) upd_same
      unfold lostAt
      rw [List.findIdx?_eq_some_iff_getElem]
      have hil := (List.getElem?_eq_some_iff.mp hr).1
      refine ⟨hil, ?_, fun j hj => ?_⟩
      · rw [(List.getElem?_eq_some_iff.mp hr).2]
        rfl
      · have h := hg j _ hj (List.getElem?_eq_getElem (by omega))
        rw [h]
        decide
  · rintro σ H' ⟨e3, hg, v1, v2, rfl⟩
    rw [List.length_map] at hg
    refine kq ?_ H' e3
    unfold lostAt
    rw [List.findIdx?_eq_none_iff]
    intro r hr
    obtain ⟨j, hj⟩ := List.getElem?_of_mem hr
    exact hg j r (List.getElem?_eq_some_iff.mp hj).1 hj
/-! W12 -/

instance (W : Wd) (z : List Nat) : Decidable (W.good z) := inferInstanceAs (Decidable ((∀ c ∈ z, c ∈ W.L) ∧ z.length ≤ 16))
def Acc.ins (W : Wd) (A : Acc) (n : Int) (z : List Nat) : Option Acc := if (0 ≤ n ∧ n ≤ A.rows.length) ∧ W.good z then A.putAt n.toNat (.kn z) else none
def Acc.rowAt (A : Acc) (n : Int) : Option Pg := if 0 ≤ n then A.rows[n.toNat]? else none
theorem rowAt_nat {A : Acc} {k : Nat} : A.rowAt (k : Int) = A.rows[k]? := by
  unfold Acc.rowAt
  rw [if_pos (by omega), Int.toNat_natCast]
theorem rowAt_bad {A : Acc} {n : Int} (h : ¬ (0 ≤ n ∧ n < A.rows.length)) : A.rowAt n = none := by
  unfold Acc.rowAt
  by_cases h0 : 0 ≤ n
  · rw [if_pos h0, List.getElem?_eq_none (by omega)]
  · rw [if_neg h0]
def sp_Desk_insert (K : Fr) : Sp := fun vs H Q E => ∃ (dk : Addr) (n : Int) (z : List Nat), vs = [.ref dk, .int n, .str (SX.S z)] ∧ z.length ≤ 100 ∧ ∃ (G : Hp) (W : Wd) (A : Acc) (past : List Acc), W.Ok ∧ DeskAt K G H dk W A past ∧ AccOk W A ∧ past.length ≤ 1000 ∧
  OpQ K G H dk W A past (A.ins W n z) (fun H' => Q .non H') E
theorem ok_Desk_insert (T : Tx w K mg) : FnOk P w K mg base (L2N.CX P w) 6 (a_Desk_insert K) (fdOf K (a_Desk_insert K)) ["self", "number", "page"] (sp_Desk_insert K) := by
  refine (T.d_Desk_insert).ok sc_Desk_insert (fun vs H Q E h => ?_) (fun cdv A outer s H vs Q E hr h => ?_)
  · obtain ⟨_, _, _, rfl, _⟩ := h
    rfl
  refine ⟨_, (pss_cons (ps_if (pt_not (pt_chain op_le op_le pe_int (pv 1) (pe_callB call_len (by rfl) T.z_len (by decide +kernel) (pa_cons (pe_fld (pe_fld (pv 0) rfl) rfl) pa_nil))))
      (pss_one (L2N.ps_raise rfl (L2N.takes_of rfl rfl rfl rfl) (PMk5.pmk (pmk5_own T.ex_NoPage (einB_ok T.ei_NoPage).1 (einB_ok T.ei_NoPage).2 (q_NoPage T) T.b_NoPage_init (roomH_of (hr.mono (by decide))) rfl T.g_NoPage (pa_cons (pv 1) pa_nil)))))
      pss_nil)
      (pss_cons (ps_expr (pe_call (ok_check_page T) (hr.mono (by decide)) rfl T.g_check_page T.d_check_page.kp T.b_check_page .nil (L2N.passes_call (L2N.takes_of rfl rfl rfl rfl) (fun _ _ _ _ h => h)) (pa_cons (pe_fld (pv 0) rfl) (pa_cons (pv 2) pa_nil))))
      (pss_one (ps_expr (pe_meth (pv 0) T.cl_Desk T.m_Desk_put_at (ok_Desk_put_at T) (hr.mono (by decide)) T.b_Desk_put_at .nil (L2N.passes_call (L2N.takes_of rfl rfl rfl rfl) (fun _ _ _ _ h => h)) (pa_cons (pv 1) (pa_cons (pv 2) pa_nil))))))), ?_⟩
  obtain ⟨dk, n, z, rfl, hz, G, W, A, past, O, ⟨dx, c, st, pt, D⟩, ok, hpl, kq, kE⟩ := h
  have hd := D.at_
  have hG := D.ex
  obtain ⟨sx, h0, sh0, cd0, s1, s2, s3, s4⟩ := D.now
  walk_at "s"
  refine ite2 (fun h0n => ?_) (fun h0n => ?_)
  · have h0n := of_decide_eq_true h0n
    walk_at "s"
    refine ⟨_, _, _, _, _, rfl, (by walk_at "fact"), T.cl_Desk, T.n_Desk_now, dk2, ?_⟩
    walk_at "s"
    refine ⟨_, _, _, _, _, rfl, (by walk_at "fact"), T.cl_State, T.n_State_held, st1, ?_⟩
    walk_at "s"
    rw [List.length_map]
    by_cases hlt : n ≤ (A.rows.length : Int)
    · rw [decide_eq_true hlt]
      obtain ⟨k, rfl⟩ := Int.eq_ofNat_of_zero_le h0n
      walk_at "s"
      refine ⟨_, _, _, _, _, rfl, (by walk_at "fact"), T.cl_Desk, T.n_Desk_calendar, dk1, ?_⟩
      walk_at "s"
      refine ⟨c, z, rfl, W, O, D.cal.ex hG, by omega, fun hg H1 e1 => ?_, fun hg C d H1 hC e1 => ?_⟩
      · walk_at "s"
        refine ⟨_, _, _, rfl, e1 _ _ hd, dkNo (by decide +kernel) (by decide +kernel) (by decide +kernel), ?_⟩
        walk_at "s"
        have g0 : Gr G H (ext G H H1) H1 := Gr.pure hG e1
        refine ⟨dk, _, _, rfl, k, .kn z, rfl, rfl, hz, ext G H H1, W, A, past, ⟨dx, c, st, pt, D.keep g0 (by rw [e1 _ _ hd, hd])⟩, ok, hpl, ?_⟩
        have er : A.ins W (k : Int) z = A.putAt k (.kn z) := by
          unfold Acc.ins
          rw [if_pos ⟨⟨by omega, hlt⟩, hg⟩, Int.toNat_natCast]
        exact ⟨fun A' G2 H9 e g f D' => kq A' G2 H9 (er.trans e) (g0.trans g) ((Ex.frm e1).trans f) D', fun e C d H' hC e' => kE (er.trans e) C d H' hC (e1.trans e')⟩
      · exact kE (if_neg fun q => hg q.2) C d H1 hC e1
    · rw [decide_eq_false hlt]
      walk_at "s"
      intro d nd
      exact kE (if_neg fun q => hlt q.1.2) _ _ _ (roll_NoPage T) (Ex.new nd)
  · have h0n : ¬ (0 : Int) ≤ n := fun z => h0n (decide_eq_true z)
    walk_at "s"
    intro d nd
    exact kE (if_neg fun q => h0n q.1.1) _ _ _ (roll_NoPage T) (Ex.new nd)
def sp_Desk_put (K : Fr) : Sp := fun vs H Q E => ∃ (dk : Addr) (z : List Nat), vs = [.ref dk, .str (SX.S z)] ∧ z.length ≤ 100 ∧ ∃ (G : Hp) (W : Wd) (A : Acc) (past : List Acc), W.Ok ∧ DeskAt K G H dk W A past ∧ AccOk W A ∧ past.length ≤ 1000 ∧
  OpQ K G H dk W A past (A.ins W A.rows.length z) (fun H' => Q .non H') E
theorem ok_Desk_put (T : Tx w K mg) : FnOk P w K mg base (L2N.CX P w) 7 (a_Desk_put K) (fdOf K (a_Desk_put K)) ["self", "page"] (sp_Desk_put K) := by
  refine (T.d_Desk_put).ok sc_Desk_put (fun vs H Q E h => ?_) (fun cdv A outer s H vs Q E hr h => ?_)
  · obtain ⟨_, _, rfl, _⟩ := h
    rfl
  refine ⟨_, (pss_one (ps_expr (pe_meth (pv 0) T.cl_Desk T.m_Desk_insert (ok_Desk_insert T) (hr.mono (by decide)) T.b_Desk_insert .nil (L2N.passes_call (L2N.takes_of rfl rfl rfl rfl) (fun _ _ _ _ h => h)) (pa_cons (pe_callB call_len (by rfl) T.z_len (by decide +kernel) (pa_cons (pe_fld (pe_fld (pv 0) rfl) rfl) pa_nil)) (pa_cons (pv 1) pa_nil))))), ?_⟩
  obtain ⟨dk, z, rfl, hz, G, W, A, past, O, ⟨dx, c, st, pt, D⟩, ok, hpl, kq⟩ := h
  have hd := D.at_
  have hG := D.ex
  obtain ⟨sx, h0, sh0, cd0, s1, s2, s3, s4⟩ := D.now
  walk_at "s"
  refine ⟨_, _, _, rfl, hd, dkNo (by decide +kernel) (by decide +kernel) (by decide +kernel), ?_⟩
  walk_at "s"
  refine ⟨_, _, _, _, _, rfl, (by walk_at "fact"), T.cl_Desk, T.n_Desk_now, dk2, ?_⟩
  walk_at "s"
  refine ⟨_, _, _, _, _, rfl, (by walk_at "fact"), T.cl_State, T.n_State_held, st1, ?_⟩
  walk_at "s"
  rw [List.length_map]
  exact ⟨dk, _, z, rfl, hz, G, W, A, past, O, ⟨dx, c, st, pt, D⟩, ok, hpl, kq⟩
def Acc.setp (W : Wd) (A : Acc) (n : Int) (z : List Nat) : Option Acc := match A.rowAt n with
  | some (.kn _) => if W.good z then A.changeAt n.toNat (.kn z) else none
  | _ => none
def sp_Desk_setitem (K : Fr) : Sp := fun vs H Q E => ∃ (dk : Addr) (n : Int) (z : List Nat), vs = [.ref dk, .int n, .str (SX.S z)] ∧ z.length ≤ 100 ∧ ∃ (G : Hp) (W : Wd) (A : Acc) (past : List Acc), W.Ok ∧ DeskAt K G H dk W A past ∧ AccOk W A ∧ past.length ≤ 1000 ∧
  OpQ K G H dk W A past (A.setp W n z) (fun H' => Q .non H') E
theorem ok_Desk_setitem (T : Tx w K mg) : FnOk P w K mg base (L2N.CX P w) 6 (a_Desk_setitem K) (fdOf K (a_Desk_setitem K)) ["self", "number", "page"] (sp_Desk_setitem K) := by
  refine (T.d_Desk_setitem).ok sc_Desk_setitem (fun vs H Q E h => ?_) (fun cdv A outer s H vs Q E hr h => ?_)
  · obtain ⟨_, _, _, rfl, _⟩ := h
    rfl
  refine ⟨_, (pss_cons (ps_if (pt_not (pt_val (pe_callB call_isi (by rfl) T.z_isinstance (by decide +kernel) (pa_cons (pe_meth (pv 0) T.cl_Desk T.m_Desk_page_at (ok_Desk_page_at T) (hr.mono (by decide)) T.b_Desk_page_at .nil (L2N.passes_call (L2N.takes_of rfl rfl rfl rfl) (fun _ _ _ _ h => h)) (pa_cons (pv 1) pa_nil)) (pa_cons (pe_bltn (v := .ty "str") (by rfl) T.z_str (by decide +kernel) rfl) pa_nil)))))
      (pss_one (L2N.ps_raise rfl (L2N.takes_of rfl rfl rfl rfl) (PMk5.pmk (pmk5_own T.ex_PageLost (einB_ok T.ei_PageLost).1 (einB_ok T.ei_PageLost).2 (q_PageLost T) T.b_PageLost_init (roomH_of (hr.mono (by decide))) rfl T.g_PageLost (pa_cons (pv 1) pa_nil)))))
      pss_nil)
      (pss_cons (ps_expr (pe_call (ok_check_page T) (hr.mono (by decide)) rfl T.g_check_page T.d_check_page.kp T.b_check_page .nil (L2N.passes_call (L2N.takes_of rfl rfl rfl rfl) (fun _ _ _ _ h => h)) (pa_cons (pe_fld (pv 0) rfl) (pa_cons (pv 2) pa_nil))))
      (pss_one (ps_expr (pe_meth (pv 0) T.cl_Desk T.m_Desk_change (ok_Desk_change T) (hr.mono (by decide)) T.b_Desk_change .nil (L2N.passes_call (L2N.takes_of rfl rfl rfl rfl) (fun _ _ _ _ h => h)) (pa_cons (pv 1) (pa_cons (pv 2) pa_nil))))))), ?_⟩
  obtain ⟨dk, n, z, rfl, hz, G, W, A, past, O, ⟨dx, c, st, pt, D⟩, ok, hpl, kq, kE⟩ := h
  have hd := D.at_
  have hG := D.ex
  walk_at "s"
  refine ⟨_, _, _, rfl, hd, dkNo (by decide +kernel) (by decide +kernel) (by decide +kernel), ?_⟩
  walk_at "s"
  refine ⟨dk, n, rfl, G, W, A, past, ⟨dx, c, st, pt, D⟩, ok, fun k r hn hr => ?_, fun hv C d H' hC e => kE (by unfold Acc.setp; rw [rowAt_bad hv]) C d H' hC e⟩
  subst hn
  have hkl := (List.getElem?_eq_some_iff.mp hr).1
  cases r with
  | lo m =>
    walk_at "s"
    refine go_isiI ?_
    walk_at "s"
    intro d nd
    exact kE (by unfold Acc.setp; rw [rowAt_nat, hr]) _ _ _ (roll_PageLost T) (Ex.new nd)
  | kn y =>
    walk_at "s"
    refine go_isiS ?_
    walk_at "s"
    refine ⟨_, _, _, _, _, rfl, (by walk_at "fact"), T.cl_Desk, T.n_Desk_calendar, dk1, ?_⟩
    walk_at "s"
    refine ⟨c, z, rfl, W, O, D.cal.ex hG, by omega, fun hg H1 e1 => ?_, fun hg C d H1 hC e1 => ?_⟩
    · walk_at "s"
      refine ⟨_, _, _, rfl, e1 _ _ hd, dkNo (by decide +kernel) (by decide +kernel) (by decide +kernel), ?_⟩
      walk_at "s"
      have g0 : Gr G H (ext G H H1) H1 := Gr.pure hG e1
      refine ⟨dk, _, _, rfl, k, .kn z, rfl, rfl, hz, ext G H H1, W, A, past, ⟨dx, c, st, pt, D.keep g0 (by rw [e1 _ _ hd, hd])⟩, ok, hpl, hkl, ?_⟩
      have er : A.setp W (k : Int) z = A.changeAt k (.kn z) := by
        unfold Acc.setp
        rw [rowAt_nat, hr]
        show (if W.good z then _ else _) = _
        rw [if_pos hg, Int.toNat_natCast]
      exact ⟨fun A' G2 H9 e g f D' => kq A' G2 H9 (er.trans e) (g0.trans g) ((Ex.frm e1).trans f) D', fun e C d H' hC e' => kE (er.trans e) C d H' hC (e1.trans e')⟩
    · exact kE (by unfold Acc.setp; rw [rowAt_nat, hr]; exact if_neg hg) C d H1 hC e1
def Acc.takep (A : Acc) (n : Int) : Option Acc := match A.rowAt n with
  | some _ => some { A with rows := delAt A.rows n.toNat }
  | none => none
def sp_Desk_take (K : Fr) : Sp := fun vs H Q E => ∃ (dk : Addr) (n : Int), vs = [.ref dk, .int n] ∧ ∃ (G : Hp) (W : Wd) (A : Acc) (past : List Acc), DeskAt K G H dk W A past ∧ AccOk W A ∧ past.length ≤ 1000 ∧
  OpQ K G H dk W A past (A.takep n) (fun H' => ∀ v, Q v H') E
theorem ok_Desk_take (T : Tx w K mg) : FnOk P w K mg base (L2N.CX P w) 5 (a_Desk_take K) (fdOf K (a_Desk_take K)) ["self", "number"] (sp_Desk_take K) := by
  refine (T.d_Desk_take).ok sc_Desk_take (fun vs H Q E h => ?_) (fun cdv A outer s H vs Q E hr h => ?_)
  · obtain ⟨_, _, rfl, _⟩ := h
    rfl
  refine ⟨_, (pss_cons (ps_set (i := 2) sc_Desk_take.nd rfl (Or.inl rfl) (pe_meth (pv 0) T.cl_Desk T.m_Desk_page_at (ok_Desk_page_at T) (hr.mono (by decide)) T.b_Desk_page_at .nil (L2N.passes_call (L2N.takes_of rfl rfl rfl rfl) (fun _ _ _ _ h => h)) (pa_cons (pv 1) pa_nil)))
      (pss_cons (ps_expr (pe_meth (pv 0) T.cl_Desk T.m_Desk_hold (ok_Desk_hold T) (hr.mono (by decide)) T.b_Desk_hold .nil pass0 (pa_cons (pe_op op_cat (pe_slice sl_list (pe_fld (pe_fld (pv 0) rfl) rfl) po_none (po_some (pv 1))) (pe_slice sl_list (pe_fld (pe_fld (pv 0) rfl) rfl) (po_some (pe_op op_add (pv 1) pe_int)) po_none)) pa_nil)))
      (pss_one (ps_ret (pv 2))))), ?_⟩
  obtain ⟨dk, n, rfl, G, W, A, past, ⟨dx, c, st, pt, D⟩, ok, hpl, kq, kE⟩ := h
  have hd := D.at_
  have hG := D.ex
  obtain ⟨sx, h0, sh0, cd0, s1, s2, s3, s4⟩ := D.now
  walk_at "s"
  refine ⟨_, _, _, rfl, hd, dkNo (by decide +kernel) (by decide +kernel) (by decide +kernel), ?_⟩
  walk_at "s"
  refine ⟨dk, n, rfl, G, W, A, past, ⟨dx, c, st, pt, D⟩, ok, fun k r hn hr => ?_, fun hv C d H' hC e => kE (by unfold Acc.takep; rw [rowAt_bad hv]) C d H' hC e⟩
  subst hn
  have hkl := (List.getElem?_eq_some_iff.mp hr).1
  walk_at "s"
  refine ⟨_, _, _, rfl, hd, dkNo (by decide +kernel) (by decide +kernel) (by decide +kernel), ?_⟩
  walk_at "s"
  refine ⟨_, _, _, _, _, rfl, (by walk_at "fact"), T.cl_Desk, T.n_Desk_now, dk2, ?_⟩
  walk_at "s"
  refine ⟨_, _, _, _, _, rfl, (by walk_at "fact"), T.cl_State, T.n_State_held, st1, ?_⟩
  walk_at "s"
  refine go_slL (by walk_at "seq") ?_
  intro m1 nm1; generalize hEm1 : upd _ m1 _ = H4; have eH4 := exN nm1 hEm1; have hm1 := atN hEm1; clear hEm1
  rw [cut_to] at hm1
  walk_at "s"
  refine ⟨_, _, _, _, _, rfl, (by walk_at "fact"), T.cl_Desk, T.n_Desk_now, dk2, ?_⟩
  walk_at "s"
  refine ⟨_, _, _, _, _, rfl, (by walk_at "fact"), T.cl_State, T.n_State_held, st1, ?_⟩
  walk_at "s"
  refine go_slL (by walk_at "seq") ?_
  intro m4 nm4; generalize hEm4 : upd _ m4 _ = H7; have eH7 := exN nm4 hEm4; have hm4 := atN hEm4; clear hEm4
  rw [show (k : Int) + 1 = ((k + 1 : Nat) : Int) by omega, cut_from] at hm4
  refine go_cat (by walk_at "fact") hm4 (by rw [List.length_take, List.length_drop, List.length_map]; have := ok.len; omega) ?_
  intro m5 nm5; generalize hEm5 : upd _ m5 _ = H8; have eH8 := exN nm5 hEm5; have hm5 := atN hEm5; clear hEm5
  have e8 : Ex H H8 := by walk_at "ex"
  have n5 : H m5 = none := fresh_back (by walk_at "ex") nm5
  have g0 : Gr G H (ext G H H8) H8 := Gr.pure hG e8
  walk_at "s"
  refine ⟨dk, m5, rfl, ext G H H8, W, A, delAt A.rows k, past, ⟨dx, c, st, pt, D.keep g0 (by rw [e8 _ _ hd, hd])⟩, ?_, ?_, hpl, fun G2 H9 g f D' => ?_⟩
  · rw [ext_new n5, hm5]
    unfold delAt
    rw [List.map_append, List.map_take, List.map_drop]
  · unfold delAt
    rw [List.length_append, List.length_take, List.length_drop]
    have := ok.len
    omega
  · walk_at "s"
    exact kq _ G2 H9 (by unfold Acc.takep; rw [rowAt_nat, hr, Int.toNat_natCast]) (g0.trans g) ((Ex.frm e8).trans f) D' _
/-! W13 -/

def Acc.losep (A : Acc) (n : Int) : Option Acc := match A.rowAt n with
  | some (.kn y) => A.changeAt n.toNat (.lo y.length)
  | _ => none
def sp_Desk_lose (K : Fr) : Sp := fun vs H Q E => ∃ (dk : Addr) (n : Int), vs = [.ref dk, .int n] ∧ ∃ (G : Hp) (W : Wd) (A : Acc) (past : List Acc), DeskAt K G H dk W A past ∧ AccOk W A ∧ past.length ≤ 1000 ∧
  OpQ K G H dk W A past (A.losep n) (fun H' => Q .non H') E
theorem ok_Desk_lose (T : Tx w K mg) : FnOk P w K mg base (L2N.CX P w) 6 (a_Desk_lose K) (fdOf K (a_Desk_lose K)) ["self", "number"] (sp_Desk_lose K) := by
  refine (T.d_Desk_lose).ok sc_Desk_lose (fun vs H Q E h => ?_) (fun cdv A outer s H vs Q E hr h => ?_)
  · obtain ⟨_, _, rfl, _⟩ := h
    rfl
  refine ⟨_, (pss_cons (ps_set (i := 2) sc_Desk_lose.nd rfl (Or.inl rfl) (pe_meth (pv 0) T.cl_Desk T.m_Desk_page_at (ok_Desk_page_at T) (hr.mono (by decide)) T.b_Desk_page_at .nil (L2N.passes_call (L2N.takes_of rfl rfl rfl rfl) (fun _ _ _ _ h => h)) (pa_cons (pv 1) pa_nil)))
      (pss_cons (ps_if (pt_not (pt_val (pe_callB call_isi (by rfl) T.z_isinstance (by decide +kernel) (pa_cons (pv 2) (pa_cons (pe_bltn (v := .ty "str") (by rfl) T.z_str (by decide +kernel) rfl) pa_nil)))))
      (pss_one (L2N.ps_raise rfl (L2N.takes_of rfl rfl rfl rfl) (PMk5.pmk (pmk5_own T.ex_PageLost (einB_ok T.ei_PageLost).1 (einB_ok T.ei_PageLost).2 (q_PageLost T) T.b_PageLost_init (roomH_of (hr.mono (by decide))) rfl T.g_PageLost (pa_cons (pv 1) pa_nil)))))
      pss_nil)
      (pss_one (ps_expr (pe_meth (pv 0) T.cl_Desk T.m_Desk_change (ok_Desk_change T) (hr.mono (by decide)) T.b_Desk_change .nil (L2N.passes_call (L2N.takes_of rfl rfl rfl rfl) (fun _ _ _ _ h => h)) (pa_cons (pv 1) (pa_cons (pe_callB call_len (by rfl) T.z_len (by decide +kernel) (pa_cons (pv 2) pa_nil)) pa_nil))))))), ?_⟩
  obtain ⟨dk, n, rfl, G, W, A, past, ⟨dx, c, st, pt, D⟩, ok, hpl, kq, kE⟩ := h
  have hd := D.at_
  have hG := D.ex
  walk_at "s"
  refine ⟨_, _, _, rfl, hd, dkNo (by decide +kernel) (by decide +kernel) (by decide +kernel), ?_⟩
  walk_at "s"
  refine ⟨dk, n, rfl, G, W, A, past, ⟨dx, c, st, pt, D⟩, ok, fun k r hn hr => ?_, fun hv C d H' hC e => kE (by unfold Acc.losep; rw [rowAt_bad hv]) C d H' hC e⟩
  subst hn
  have hkl := (List.getElem?_eq_some_iff.mp hr).1
  have hrm := List.mem_of_getElem? hr
  cases r with
  | lo m =>
    walk_at "s"
    refine go_isiI ?_
    walk_at "s"
    intro d nd
    exact kE (by unfold Acc.losep; rw [rowAt_nat, hr]) _ _ _ (roll_PageLost T) (Ex.new nd)
  | kn y =>
    have hy : y.length ≤ 16 := by have := size_tot hrm; have := ok.tot; exact Nat.le_trans (show y.length ≤ _ from size_tot hrm) ok.tot
    walk_at "s"
    refine go_isiS ?_
    walk_at "s"
    refine ⟨_, _, _, rfl, hd, dkNo (by decide +kernel) (by decide +kernel) (by decide +kernel), ?_⟩
    walk_at "s"
    refine ⟨_, _, rfl, ⟨by rw [SX.S_len]; exact sz_of (by omega), rfl⟩, ?_⟩
    walk_at "s"
    rw [SX.S_len]
    refine ⟨dk, _, _, rfl, k, .lo y.length, rfl, rfl, (by show y.length ≤ 100; omega), G, W, A, past, ⟨dx, c, st, pt, D⟩, ok, hpl, hkl, ?_⟩
    have er : A.losep (k : Int) = A.changeAt k (.lo y.length) := by
      unfold Acc.losep
      rw [rowAt_nat, hr]
      show A.changeAt (k : Int).toNat _ = _
      rw [Int.toNat_natCast]
    exact ⟨fun A' G2 H9 e g f D' => kq A' G2 H9 (er.trans e) g f D', fun e C d H' hC e' => kE (er.trans e) C d H' hC e'⟩
def Acc.findp (W : Wd) (A : Acc) (n : Int) (z : List Nat) : Option Acc := match A.rowAt n with
  | some (.lo m) => if W.good z ∧ z.length = m then A.changeAt n.toNat (.kn z) else none
  | _ => none
def sp_Desk_find (K : Fr) : Sp := fun vs H Q E => ∃ (dk : Addr) (n : Int) (z : List Nat), vs = [.ref dk, .int n, .str (SX.S z)] ∧ z.length ≤ 100 ∧ ∃ (G : Hp) (W : Wd) (A : Acc) (past : List Acc), W.Ok ∧ DeskAt K G H dk W A past ∧ AccOk W A ∧ past.length ≤ 1000 ∧
  OpQ K G H dk W A past (A.findp W n z) (fun H' => Q .non H') E
theorem ok_Desk_find (T : Tx w K mg) : FnOk P w K mg base (L2N.CX P w) 6 (a_Desk_find K) (fdOf K (a_Desk_find K)) ["self", "number", "page"] (sp_Desk_find K) := by
  refine (T.d_Desk_find).ok sc_Desk_find (fun vs H Q E h => ?_) (fun cdv A outer s H vs Q E hr h => ?_)
  · obtain ⟨_, _, _, rfl, _⟩ := h
    rfl
  refine ⟨_, (pss_cons (ps_set (i := 3) sc_Desk_find.nd rfl (Or.inl rfl) (pe_meth (pv 0) T.cl_Desk T.m_Desk_page_at (ok_Desk_page_at T) (hr.mono (by decide)) T.b_Desk_page_at .nil (L2N.passes_call (L2N.takes_of rfl rfl rfl rfl) (fun _ _ _ _ h => h)) (pa_cons (pv 1) pa_nil)))
      (pss_cons (ps_if (pt_val (pe_callB call_isi (by rfl) T.z_isinstance (by decide +kernel) (pa_cons (pv 3) (pa_cons (pe_bltn (v := .ty "str") (by rfl) T.z_str (by decide +kernel) rfl) pa_nil))))
      (pss_one (L2N.ps_raise rfl (L2N.takes_of rfl rfl rfl rfl) (PMk5.pmk (pmk5_own T.ex_NotLost (einB_ok T.ei_NotLost).1 (einB_ok T.ei_NotLost).2 (q_NotLost T) T.b_NotLost_init (roomH_of (hr.mono (by decide))) rfl T.g_NotLost (pa_cons (pv 1) pa_nil)))))
      pss_nil)
      (pss_cons (ps_expr (pe_call (ok_check_page T) (hr.mono (by decide)) rfl T.g_check_page T.d_check_page.kp T.b_check_page .nil (L2N.passes_call (L2N.takes_of rfl rfl rfl rfl) (fun _ _ _ _ h => h)) (pa_cons (pe_fld (pv 0) rfl) (pa_cons (pv 2) pa_nil))))
      (pss_cons (ps_if (pt_cmpR op_ne (pe_callB call_len (by rfl) T.z_len (by decide +kernel) (pa_cons (pv 2) pa_nil)) (pv 3) (by first | exact nomark _ | rfl))
      (pss_one (L2N.ps_raise rfl (L2N.takes_of rfl rfl rfl rfl) (PMk5.pmk (pmk5_own T.ex_BadSize (einB_ok T.ei_BadSize).1 (einB_ok T.ei_BadSize).2 (q_BadSize T) T.b_BadSize_init (roomH_of (hr.mono (by decide))) rfl T.g_BadSize (pa_cons (pe_callB call_len (by rfl) T.z_len (by decide +kernel) (pa_cons (pv 2) pa_nil)) pa_nil)))))
      pss_nil)
      (pss_one (ps_expr (pe_meth (pv 0) T.cl_Desk T.m_Desk_change (ok_Desk_change T) (hr.mono (by decide)) T.b_Desk_change .nil (L2N.passes_call (L2N.takes_of rfl rfl rfl rfl) (fun _ _ _ _ h => h)) (pa_cons (pv 1) (pa_cons (pv 2) pa_nil))))))))), ?_⟩
  obtain ⟨dk, n, z, rfl, hz, G, W, A, past, O, ⟨dx, c, st, pt, D⟩, ok, hpl, kq, kE⟩ := h
  have hd := D.at_
  have hG := D.ex
  walk_at "s"
  refine ⟨_, _, _, rfl, hd, dkNo (by decide +kernel) (by decide +kernel) (by decide +kernel), ?_⟩
  walk_at "s"
  refine ⟨dk, n, rfl, G, W, A, past, ⟨dx, c, st, pt, D⟩, ok, fun k r hn hr => ?_, fun hv C d H' hC e => kE (by unfold Acc.findp; rw [rowAt_bad hv]) C d H' hC e⟩
  subst hn
  have hkl := (List.getElem?_eq_some_iff.mp hr).1
  cases r with
  | kn y =>
    walk_at "s"
    refine go_isiS ?_
    walk_at "s"
    intro d nd
    exact kE (by unfold Acc.findp; rw [rowAt_nat, hr]) _ _ _ (roll_NotLost T) (Ex.new nd)
  | lo m =>
    walk_at "s"
    refine go_isiI ?_
    walk_at "s"
    refine ⟨_, _, _, _, _, rfl, (by walk_at "fact"), T.cl_Desk, T.n_Desk_calendar, dk1, ?_⟩
    walk_at "s"
    have en : ∀ hg : ¬ (W.good z ∧ z.length = m), A.findp W (k : Int) z = none := fun hg => by
      unfold Acc.findp
      rw [rowAt_nat, hr]
      exact if_neg hg
    refine ⟨c, z, rfl, W, O, D.cal.ex hG, by omega, fun hg H1 e1 => ?_, fun hg C d H1 hC e1 => ?_⟩
    · walk_at "s"
      refine ⟨_, _, rfl, ⟨by rw [SX.S_len]; exact sz_of (by omega), rfl⟩, ?_⟩
      walk_at "s"
      rw [SX.S_len]
      by_cases hm : z.length = m
      · rw [show decide (V.int (z.length : Int) = Pg.v (.lo m)) = true from decide_eq_true (by rw [hm]; rfl)]
        walk_at "s"
        refine ⟨_, _, _, rfl, e1 _ _ hd, dkNo (by decide +kernel) (by decide +kernel) (by decide +kernel), ?_⟩
        walk_at "s"
        have g0 : Gr G H (ext G H H1) H1 := Gr.pure hG e1
        refine ⟨dk, _, _, rfl, k, .kn z, rfl, rfl, hz, ext G H H1, W, A, past, ⟨dx, c, st, pt, D.keep g0 (by rw [e1 _ _ hd, hd])⟩, ok, hpl, hkl, ?_⟩
        have er : A.findp W (k : Int) z = A.changeAt k (.kn z) := by
          unfold Acc.findp
          rw [rowAt_nat, hr]
          show (if W.good z ∧ z.length = m then _ else _) = _
          rw [if_pos ⟨hg, hm⟩, Int.toNat_natCast]
        exact ⟨fun A' G2 H9 e g f D' => kq A' G2 H9 (er.trans e) (g0.trans g) ((Ex.frm e1).trans f) D', fun e C d H' hC e' => kE (er.trans e) C d H' hC (e1.trans e')⟩
      · rw [show decide (V.int (z.length : Int) = Pg.v (.lo m)) = false from decide_eq_false (fun q => hm (by have := V.int.inj q; omega))]
        walk_at "s"
        refine ⟨_, _, rfl, ⟨by rw [SX.S_len]; exact sz_of (by omega), rfl⟩, ?_⟩
        walk_at "s"
        intro d nd
        exact kE (en fun q => hm q.2) _ _ _ (roll_BadSize T) (Ex.mut e1 (fresh_back e1 nd))
    · exact kE (en fun q => hg q.1) C d H1 hC e1
def sp_Desk_lay (K : Fr) : Sp := fun vs H Q _ => ∃ (dk : Addr) (cd : V), vs = [.ref dk, cd] ∧ ∃ (G : Hp) (W : Wd) (A : Acc) (card : Option (List Int)) (past : List Acc), DeskAt K G H dk W A past ∧ AccOk W A ∧ past.length ≤ 1000 ∧ CardAt K G cd card ∧
  ∀ G' H', Gr G H G' H' → Frm [dk] H H' → DeskAt K G' H' dk W { A with card := card } (past ++ [A]) → Q .non H'
theorem ok_Desk_lay (T : Tx w K mg) : FnOk P w K mg base CX0 4 (a_Desk_lay K) (fdOf K (a_Desk_lay K)) ["self", "card"] (sp_Desk_lay K) := by
  refine (T.d_Desk_lay).ok sc_Desk_lay (fun vs H Q E h => ?_) (fun cdv A outer s H vs Q E hr h => ?_)
  · obtain ⟨_, _, rfl, _⟩ := h
    rfl
  refine ⟨_, PSs.nox (pss_one (ps_expr (pe_meth (pv 0) T.cl_Desk T.m_Desk_step (ok_Desk_step T) (hr.mono (by decide)) T.b_Desk_step .nil pass0 (pa_cons (pe_fld (pe_fld (pv 0) rfl) rfl) (pa_cons (pv 1) (pa_cons (pe_fld (pe_fld (pv 0) rfl) rfl) pa_nil)))))), ?_⟩
  obtain ⟨dk, cd, rfl, G, W, A, card, past, ⟨dx, c, st, pt, D⟩, ok, hpl, hcd, k⟩ := h
  have hd := D.at_
  have hG := D.ex
  obtain ⟨sx, h0, sh0, cd0, s1, s2, s3, s4⟩ := D.now
  walk_at "s"
  refine ⟨_, _, _, rfl, hd, dkNo (by decide +kernel) (by decide +kernel) (by decide +kernel), ?_⟩
  walk_at "s"
  refine ⟨_, _, _, _, _, rfl, (by walk_at "fact"), T.cl_Desk, T.n_Desk_now, dk2, ?_⟩
  walk_at "s"
  refine ⟨_, _, _, _, _, rfl, (by walk_at "fact"), T.cl_State, T.n_State_held, st1, ?_⟩
  walk_at "s"
  refine ⟨_, _, _, _, _, rfl, (by walk_at "fact"), T.cl_Desk, T.n_Desk_now, dk2, ?_⟩
  walk_at "s"
  refine ⟨_, _, _, _, _, rfl, (by walk_at "fact"), T.cl_State, T.n_State_kept_bound, st4, ?_⟩
  walk_at "s"
  exact ⟨dk, h0, cd, A.bound, rfl, G, W, A, { A with card := card }, past, ⟨dx, c, st, pt, D⟩, s2, hcd, rfl, by have := ok.len; show A.rows.length ≤ 100; omega, hpl, k⟩
def Acc.tearp (A : Acc) : Option Acc := match A.card with
  | none => none
  | some _ => some { A with card := none }
def sp_Desk_tear (K : Fr) : Sp := fun vs H Q E => ∃ (dk : Addr), vs = [.ref dk] ∧ ∃ (G : Hp) (W : Wd) (A : Acc) (past : List Acc), DeskAt K G H dk W A past ∧ AccOk W A ∧ past.length ≤ 1000 ∧
  OpQ K G H dk W A past A.tearp (fun H' => Q .non H') E
theorem ok_Desk_tear (T : Tx w K mg) : FnOk P w K mg base (L2N.CX P w) 5 (a_Desk_tear K) (fdOf K (a_Desk_tear K)) ["self"] (sp_Desk_tear K) := by
  refine (T.d_Desk_tear).ok sc_Desk_tear (fun vs H Q E h => ?_) (fun cdv A outer s H vs Q E hr h => ?_)
  · obtain ⟨_, rfl, _⟩ := h
    rfl
  refine ⟨_, (pss_cons (ps_if (pt_cmpR op_isN (pe_fld (pe_fld (pv 0) rfl) rfl) pe_non (by first | exact nomark _ | rfl))
      (pss_one (L2N.ps_raise rfl (L2N.takes_of rfl rfl rfl rfl) (pmk_own0 PySem.F.excBase_ValueError T.xi_NoCard T.g_NoCard T.ex_NoCard.kC (raises_own T.ex_NoCard.exC T.ex_NoCard.tyC))))
      pss_nil)
      (pss_one (ps_expr (pe_meth (pv 0) T.cl_Desk T.m_Desk_lay (ok_Desk_lay T) (hr.mono (by decide)) T.b_Desk_lay .nil pass0 (pa_cons pe_non pa_nil))))), ?_⟩
  obtain ⟨dk, rfl, G, W, A, past, ⟨dx, c, st, pt, D⟩, ok, hpl, kq, kE⟩ := h
  have hd := D.at_
  have hG := D.ex
  obtain ⟨sx, h0, sh0, cd0, s1, s2, s3, s4⟩ := D.now
  walk_at "s"
  refine ⟨_, _, _, _, _, rfl, (by walk_at "fact"), T.cl_Desk, T.n_Desk_now, dk2, ?_⟩
  walk_at "s"
  refine ⟨_, _, _, _, _, rfl, (by walk_at "fact"), T.cl_State, T.n_State_kept_card, st3, ?_⟩
  walk_at "s"
  cases hc : A.card with
  | none =>
    rw [hc] at s4
    have e : cd0 = .non := s4
    subst e
    refine ⟨rfl, _, rfl, ?_⟩
    refine iteYes (c := V.non = V.non) rfl ?_
    exact kE (by unfold Acc.tearp; rw [hc]) _ _ _ (roll_NoCard T) (Ex.refl _)
  | some hs =>
    rw [hc] at s4
    obtain ⟨cc, rfl, _⟩ := s4
    refine ⟨rfl, _, rfl, ?_⟩
    refine iteNo (c := V.ref cc = V.non) (fun z => V.noConfusion z) ?_
    walk_at "s"
    refine ⟨_, _, _, rfl, hd, dkNo (by decide +kernel) (by decide +kernel) (by decide +kernel), ?_⟩
    walk_at "s"
    exact ⟨dk, _, rfl, G, W, A, none, past, ⟨dx, c, st, pt, D⟩, ok, hpl, rfl, fun G2 H9 g f D' => kq _ G2 H9 (by unfold Acc.tearp; rw [hc]) g f D'⟩
def Acc.bndp (A : Acc) (n : Int) : Option Acc := if ((if (A.rows.length : Int) > 1 then (A.rows.length : Int) else 1) ≤ n) ∧ n ≤ 8 then some { A with bound := n.toNat } else none
def sp_Desk_change_bound (K : Fr) : Sp := fun vs H Q E => ∃ (dk : Addr) (n : Int), vs = [.ref dk, .int n] ∧ ∃ (G : Hp) (W : Wd) (A : Acc) (past : List Acc), DeskAt K G H dk W A past ∧ AccOk W A ∧ past.length ≤ 1000 ∧
  OpQ K G H dk W A past (A.bndp n) (fun H' => Q .non H') E
theorem ok_Desk_change_bound (T : Tx w K mg) : FnOk P w K mg base (L2N.CX P w) 4 (a_Desk_change_bound K) (fdOf K (a_Desk_change_bound K)) ["self", "number"] (sp_Desk_change_bound K) := by
  refine (T.d_Desk_change_bound).ok sc_Desk_change_bound (fun vs H Q E h => ?_) (fun cdv A outer s H vs Q E hr h => ?_)
  · obtain ⟨_, _, rfl, _⟩ := h
    rfl
  refine ⟨_, (pss_cons (ps_if (pt_not (pt_chain op_le op_le (pe_callB (call_max2 rfl) (by rfl) T.z_max (by decide +kernel) (pa_cons pe_int (pa_cons (pe_callB call_len (by rfl) T.z_len (by decide +kernel) (pa_cons (pe_fld (pe_fld (pv 0) rfl) rfl) pa_nil)) pa_nil))) (pv 1) (pe_gI T.i_MOST_PAGES)))
      (pss_one (L2N.ps_raise rfl (L2N.takes_of rfl rfl rfl rfl) (PMk5.pmk (pmk5_own T.ex_BadSize (einB_ok T.ei_BadSize).1 (einB_ok T.ei_BadSize).2 (q_BadSize T) T.b_BadSize_init (roomH_of (hr.mono (by decide))) rfl T.g_BadSize (pa_cons (pv 1) pa_nil)))))
      pss_nil)
      (pss_one (ps_expr (pe_meth (pv 0) T.cl_Desk T.m_Desk_step (ok_Desk_step T) (hr.mono (by decide)) T.b_Desk_step .nil pass0 (pa_cons (pe_fld (pe_fld (pv 0) rfl) rfl) (pa_cons (pe_fld (pe_fld (pv 0) rfl) rfl) (pa_cons (pv 1) pa_nil))))))), ?_⟩
  obtain ⟨dk, n, rfl, G, W, A, past, ⟨dx, c, st, pt, D⟩, ok, hpl, kq, kE⟩ := h
  have hd := D.at_
  have hG := D.ex
  obtain ⟨sx, h0, sh0, cd0, s1, s2, s3, s4⟩ := D.now
  walk_at "s"
  refine ⟨_, _, _, _, _, rfl, (by walk_at "fact"), T.cl_Desk, T.n_Desk_now, dk2, ?_⟩
  walk_at "s"
  refine ⟨_, _, _, _, _, rfl, (by walk_at "fact"), T.cl_State, T.n_State_held, st1, ?_⟩
  walk_at "s"
  rw [List.length_map]
  refine ⟨_, _, rfl, ?_⟩
  walk_at "s"
  by_cases h1 : (if (A.rows.length : Int) > 1 then (A.rows.length : Int) else 1) ≤ n
  · refine iteYes h1 ?_
    walk_at "s"
    by_cases h2 : n ≤ 8
    · refine iteNS h2 ?_
      walk_at "s"
      refine ⟨_, _, _, rfl, hd, dkNo (by decide +kernel) (by decide +kernel) (by decide +kernel), ?_⟩
      walk_at "s"
      refine ⟨_, _, _, _, _, rfl, (by walk_at "fact"), T.cl_Desk, T.n_Desk_now, dk2, ?_⟩
      walk_at "s"
      refine ⟨_, _, _, _, _, rfl, (by walk_at "fact"), T.cl_State, T.n_State_held, st1, ?_⟩
      walk_at "s"
      refine ⟨_, _, _, _, _, rfl, (by walk_at "fact"), T.cl_Desk, T.n_Desk_now, dk2, ?_⟩
      walk_at "s"
      refine ⟨_, _, _, _, _, rfl, (by walk_at "fact"), T.cl_State, T.n_State_kept_card, st3, ?_⟩
      walk_at "s"
      obtain ⟨k, rfl⟩ := Int.eq_ofNat_of_zero_le (show 0 ≤ n by split at h1 <;> omega)
      exact ⟨dk, h0, cd0, k, rfl, G, W, A, { A with bound := k }, past, ⟨dx, c, st, pt, D⟩, s2, s4, rfl, by have := ok.len; show A.rows.length ≤ 100; omega, hpl, fun G2 H9 g f D' => kq _ G2 H9 (if_pos ⟨h1, h2⟩) g f D'⟩
    · refine iteNNo h2 ?_
      walk_at "s"
      intro d nd
      exact kE (if_neg fun q => h2 q.2) _ _ _ (roll_BadSize T) (Ex.new nd)
  · refine iteNo h1 ?_
    walk_at "s"
    intro d nd
    exact kE (if_neg fun q => h1 q.1) _ _ _ (roll_BadSize T) (Ex.new nd)
/-! W14 -/

theorem paired_unsnoc {α β : Type} {R : α → β → Prop} : ∀ {xs : List α} {ys : List β} {y : β}, Paired R xs (ys ++ [y]) → ∃ xs' x, xs = xs' ++ [x] ∧ Paired R xs' ys ∧ R x y
  | _, [], _, .cons h .nil => ⟨[], _, rfl, .nil, h⟩
  | _, _ :: ys, _, .cons h t => by
    obtain ⟨xs', x, e, p, r⟩ := paired_unsnoc t
    exact ⟨_ :: xs', x, by rw [e]; rfl, .cons h p, r⟩
theorem cut_last {ys : List V} {v : V} : cutV (ys ++ [v]) none (some (-1)) = ys := by
  unfold cutV
  have e : HT.sIx (ys ++ [v]).length (ys ++ [v]).length (some (-1)) = ys.length := by
    show (if (-1 : Int) < 0 then ((-1 : Int) + ((ys ++ [v]).length : Int)).toNat else min (-1 : Int).toNat (ys ++ [v]).length) = _
    rw [if_pos (by decide), List.length_append]
    show ((-1 : Int) + ((ys.length + 1 : Nat) : Int)).toNat = _
    omega
  rw [HT.sIx_none, e, List.drop_zero, Nat.sub_zero, List.take_left]
theorem not_full {ys : List V} {v : V} : ¬ (HT.sIx (ys ++ [v]).length 0 none = 0 ∧ HT.sIx (ys ++ [v]).length (ys ++ [v]).length (some (-1)) = (ys ++ [v]).length) := fun h => by
  have e : HT.sIx (ys ++ [v]).length (ys ++ [v]).length (some (-1)) = ys.length := by
    show (if (-1 : Int) < 0 then ((-1 : Int) + ((ys ++ [v]).length : Int)).toNat else min (-1 : Int).toNat (ys ++ [v]).length) = _
    rw [if_pos (by decide), List.length_append]
    show ((-1 : Int) + ((ys.length + 1 : Nat) : Int)).toNat = _
    omega
  have h2 := h.2
  rw [e, List.length_append] at h2
  have h3 : ys.length = ys.length + 1 := h2
  omega
def sp_Desk_undo (K : Fr) : Sp := fun vs H Q E => ∃ (dk : Addr), vs = [.ref dk] ∧ ∃ (G : Hp) (W : Wd) (A : Acc) (past : List Acc), DeskAt K G H dk W A past ∧ past.length ≤ 1000 ∧
  (past = [] → E (.ref (He.ga K "NothingToUndo")) none H) ∧ (∀ p' A', past = p' ++ [A'] → ∀ G' H', Gr G H G' H' → Frm [dk] H H' → DeskAt K G' H' dk W A' p' → Q .non H')
theorem ok_Desk_undo (T : Tx w K mg) : FnOk P w K mg base (L2N.CX P w) 1 (a_Desk_undo K) (fdOf K (a_Desk_undo K)) ["self"] (sp_Desk_undo K) := by
  refine (T.d_Desk_undo).ok sc_Desk_undo (fun vs H Q E h => ?_) (fun cdv A outer s H vs Q E hr h => ?_)
  · obtain ⟨_, rfl, _⟩ := h
    rfl
  refine ⟨_, (pss_cons (ps_if (pt_cmpR op_eq (pe_callB call_len (by rfl) T.z_len (by decide +kernel) (pa_cons (pe_fld (pv 0) rfl) pa_nil)) pe_int (by first | exact nomark _ | rfl))
      (pss_one (L2N.ps_raise rfl (L2N.takes_of rfl rfl rfl rfl) (pmk_own0 PySem.F.excBase_ValueError T.xi_NothingToUndo T.g_NothingToUndo T.ex_NothingToUndo.kC (raises_own T.ex_NothingToUndo.exC T.ex_NothingToUndo.tyC))))
      pss_nil)
      (pss_cons (ps_fld (pv 0) (pe_ix ix_tup (pe_fld (pv 0) rfl) (pe_un un_neg pe_int) (fun _ _ => rfl)) rfl)
      (pss_one (ps_fld (pv 0) (pe_slice sl_tupA (pe_fld (pv 0) rfl) po_none (po_some (pe_un un_neg pe_int))) rfl)))), ?_⟩
  obtain ⟨dk, rfl, G, W, A, past, ⟨dx, c, st, pt, D⟩, hpl, kE, kq⟩ := h
  have hd := D.at_
  have hG := D.ex
  obtain ⟨ss, hss, hps⟩ := D.pst
  have hlen := Paired.length hps
  walk_at "s"
  refine ⟨_, _, _, _, _, rfl, (by walk_at "fact"), T.cl_Desk, T.n_Desk_past, dk3, ?_⟩
  walk_at "s"
  rw [List.length_map, hlen]
  rcases List.eq_nil_or_concat past with rfl | ⟨p', A', rfl⟩
  · refine iteYes rfl ?_
    exact kE rfl
  · rw [List.concat_eq_append] at *
    obtain ⟨ss', a, rfl, hp', ha⟩ := paired_unsnoc hps
    refine iteNo (fun z => by have z := V.int.inj z; rw [List.length_append] at z; have z2 : ((p'.length + 1 : Nat) : Int) = 0 := z; omega) ?_
    walk_at "s"
    refine ⟨_, _, _, _, _, rfl, (by walk_at "fact"), T.cl_Desk, T.n_Desk_past, dk3, ?_⟩
    walk_at "s"
    rw [List.map_append] at hss
    refine go_ixT (ex_t hG hss) (atI_last _ _) ?_
    walk_at "s"
    refine ⟨_, _, _, _, rfl, hd, T.cl_Desk, T.n_Desk_now, (by exact (show 3 < 1000 by decide)), ?_⟩
    generalize hEH1 : upd _ dk _ = H1; have fH1 := frmP hEH1; have aH1 := atN hEH1; clear hEH1
    rw [dkP2] at aH1
    have f1 : Ex G H1 := frm_none fH1 hG (fun x m => by rcases List.mem_cons.mp m with rfl | m; exact D.no; cases m)
    walk_at "s"
    refine ⟨_, _, _, _, _, rfl, (by walk_at "fact"), T.cl_Desk, T.n_Desk_past, dk3, ?_⟩
    walk_at "s"
    refine ⟨pt, _, rfl, ex_t f1 hss, fun h => absurd h not_full, fun _ => ?_⟩
    intro q nq; generalize hEq : upd _ q _ = H2; have eH2 := exN nq hEq; have hq := atN hEq; clear hEq
    have eqq : cutV (List.map V.ref ss' ++ [V.ref a]) none (some (-1)) = ss'.map V.ref := cut_last
    have hq2 : H2 q = some (.tup (ss'.map V.ref)) := hq.trans (congrArg (fun z => some (HO.tup z)) eqq)
    walk_at "s"
    refine ⟨_, _, _, _, rfl, eH2 _ _ aH1, T.cl_Desk, T.n_Desk_past, (by exact (show 3 < 1000 by decide)), ?_⟩
    generalize hEH3 : upd _ dk _ = H3; have fH3 := frmP hEH3; have aH3 := atN hEH3; clear hEH3
    rw [dkP3] at aH3
    have f3 : Frm [dk] H H3 := (fH1.trans (Ex.frm eH2)).trans fH3
    have n1 : ∀ {b : Addr}, b ≠ dk → b ∉ [dk] := fun h m => by
      rcases List.mem_cons.mp m with z | m
      · exact h z
      · cases m
    have nqd : q ≠ dk := fun z => by rw [z, aH1] at nq; cases nq
    have nqH : H q = none := by
      cases e : H q with
      | none => rfl
      | some o =>
        have := fH1 q o (n1 nqd) e
        rw [nq] at this
        cases this
    have g : Gr G H (ext G H H3) H3 := Gr.of (S := [dk]) hG f3 (fun a m => by rcases List.mem_cons.mp m with rfl | m; exact D.no; cases m) (fun a m _ => by rcases List.mem_cons.mp m with rfl | m; rw [aH3]; exact (fun z => nomatch z); cases m)
    refine kq p' A' rfl _ H3 g f3 ⟨dx, c, a, q, ⟨g.up, g.old dk (by rw [hd]; exact fun z => nomatch z) D.no, aH3, D.cal.ex g.ex, ha.ex g.ex, ss', st_of ?_, paired_mono (fun _ _ z => z.ex g.ex) hp'⟩⟩
    rw [ext_new nqH]
    exact fH3 _ _ (n1 nqd) hq2
def sp_Desk_card (K : Fr) : Sp := fun vs H Q _ => ∃ (dk : Addr), vs = [.ref dk] ∧ ∃ (G : Hp) (W : Wd) (A : Acc) (past : List Acc), DeskAt K G H dk W A past ∧ ∀ cd, CardAt K G cd A.card → Q cd H
theorem ok_Desk_card (T : Tx w K mg) : FnOk P w K mg base CX0 1 (a_Desk_card K) (fdOf K (a_Desk_card K)) ["self"] (sp_Desk_card K) := by
  refine (T.d_Desk_card).ok sc_Desk_card (fun vs H Q E h => ?_) (fun cdv A outer s H vs Q E hr h => ?_)
  · obtain ⟨_, rfl, _⟩ := h
    rfl
  refine ⟨_, PSs.nox (pss_one (ps_ret (pe_fld (pe_fld (pv 0) rfl) rfl))), ?_⟩
  obtain ⟨dk, rfl, G, W, A, past, ⟨dx, c, st, pt, D⟩, k⟩ := h
  have hd := D.at_
  have hG := D.ex
  obtain ⟨sx, h0, sh0, cd0, s1, s2, s3, s4⟩ := D.now
  walk_at "s"
  refine ⟨_, _, _, _, _, rfl, (by walk_at "fact"), T.cl_Desk, T.n_Desk_now, dk2, ?_⟩
  walk_at "s"
  refine ⟨_, _, _, _, _, rfl, (by walk_at "fact"), T.cl_State, T.n_State_kept_card, st3, ?_⟩
  exact k cd0 s4
def sp_Desk_bound (K : Fr) : Sp := fun vs H Q _ => ∃ (dk : Addr), vs = [.ref dk] ∧ ∃ (G : Hp) (W : Wd) (A : Acc) (past : List Acc), DeskAt K G H dk W A past ∧ Q (.int A.bound) H
theorem ok_Desk_bound (T : Tx w K mg) : FnOk P w K mg base CX0 1 (a_Desk_bound K) (fdOf K (a_Desk_bound K)) ["self"] (sp_Desk_bound K) := by
  refine (T.d_Desk_bound).ok sc_Desk_bound (fun vs H Q E h => ?_) (fun cdv A outer s H vs Q E hr h => ?_)
  · obtain ⟨_, rfl, _⟩ := h
    rfl
  refine ⟨_, PSs.nox (pss_one (ps_ret (pe_fld (pe_fld (pv 0) rfl) rfl))), ?_⟩
  obtain ⟨dk, rfl, G, W, A, past, ⟨dx, c, st, pt, D⟩, k⟩ := h
  have hd := D.at_
  have hG := D.ex
  obtain ⟨sx, h0, sh0, cd0, s1, s2, s3, s4⟩ := D.now
  walk_at "s"
  refine ⟨_, _, _, _, _, rfl, (by walk_at "fact"), T.cl_Desk, T.n_Desk_now, dk2, ?_⟩
  walk_at "s"
  refine ⟨_, _, _, _, _, rfl, (by walk_at "fact"), T.cl_State, T.n_State_kept_bound, st4, ?_⟩
  exact k
def sp_Desk_entries (K : Fr) : Sp := fun vs H Q _ => ∃ (dk : Addr) (n : Int), vs = [.ref dk, .int n] ∧ ∃ (G : Hp) (W : Wd) (A : Acc) (past : List Acc) (k : Nat) (r : Pg), DeskAt K G H dk W A past ∧ AccOk W A ∧ n = k ∧ A.rows[k]? = some r ∧ Q (.int r.size) H
theorem ok_Desk_entries (T : Tx w K mg) : FnOk P w K mg base CX0 4 (a_Desk_entries K) (fdOf K (a_Desk_entries K)) ["self", "number"] (sp_Desk_entries K) := by
  refine (T.d_Desk_entries).ok sc_Desk_entries (fun vs H Q E h => ?_) (fun cdv A outer s H vs Q E hr h => ?_)
  · obtain ⟨_, _, rfl, _⟩ := h
    rfl
  refine ⟨_, PSs.nox (pss_one (ps_ret (pe_call (ok_size_of T) (hr.mono (by decide)) rfl T.g_size_of T.d_size_of.kp T.b_size_of .nil pass0 (pa_cons (pe_meth (pv 0) T.cl_Desk T.m_Desk_page_at (ok_Desk_page_at T) (hr.mono (by decide)) T.b_Desk_page_at .nil passE0 (pa_cons (pv 1) pa_nil)) pa_nil)))), ?_⟩
  obtain ⟨dk, n, rfl, G, W, A, past, k, r, ⟨dx, c, st, pt, D⟩, ok, rfl, hr, q⟩ := h
  have hd := D.at_
  walk_at "s"
  refine ⟨_, _, _, rfl, hd, dkNo (by decide +kernel) (by decide +kernel) (by decide +kernel), ?_⟩
  walk_at "s"
  refine ⟨dk, _, rfl, G, W, A, past, ⟨dx, c, st, pt, D⟩, ok, fun k' r' hk' hr' => ?_, fun hv => absurd ⟨by omega, by have := (List.getElem?_eq_some_iff.mp hr).1; omega⟩ hv⟩
  have e : k' = k := by omega
  subst e
  rw [hr] at hr'
  have e2 := Option.some.inj hr'
  subst e2
  walk_at "s"
  exact ⟨_, rfl, r, rfl, ok.rows.2 r (List.mem_of_getElem? hr), q⟩
/-! W15 -/

def Pg.z : Pg → List Nat
  | .kn z => z
  | .lo _ => []
def Acc.joined (A : Acc) : List Nat := (A.rows.map Pg.z).flatten
theorem lost_none {rows : List Pg} (h : lostAt rows = none) : ∀ r ∈ rows, r = .kn r.z := fun r hr => by
  unfold lostAt at h
  rw [List.findIdx?_eq_none_iff] at h
  have := h r hr
  cases r with
  | kn z => rfl
  | lo n => cases this
theorem known_map {rows : List Pg} (h : ∀ r ∈ rows, r = .kn r.z) : rows.map Pg.v = ((rows.map Pg.z).map SX.S).map V.str := by
  rw [List.map_map, List.map_map]
  refine List.map_congr_left fun r hr => ?_
  rw [h r hr]
  rfl
theorem known_tot : ∀ {rows : List Pg}, (∀ r ∈ rows, r = .kn r.z) → (rows.map Pg.z).flatten.length = Acc.tot rows
  | [], _ => rfl
  | r :: rows, h => by
    have ih := known_tot fun x hx => h x (List.mem_cons_of_mem _ hx)
    unfold Acc.tot at ih ⊢
    rw [List.map_cons, List.flatten_cons, List.length_append, ih, List.map_cons, List.sum_cons]
    have e := h r (List.mem_cons_self ..)
    rw [show r.size = r.z.length by rw [e]; rfl]
theorem AccOk.good {W : Wd} {A : Acc} (ok : AccOk W A) (h : lostAt A.rows = none) : W.good A.joined := by
  refine ⟨fun c hc => ?_, by unfold Acc.joined; rw [known_tot (lost_none h)]; exact ok.tot⟩
  obtain ⟨q, hq, hcq⟩ := List.mem_flatten.mp hc
  obtain ⟨r, hr, rfl⟩ := List.mem_map.mp hq
  have e := lost_none h r hr
  exact ok.let_ r.z (e ▸ hr) c hcq
def sp_Desk_cast (K : Fr) : Sp := fun vs H Q E => ∃ (dk : Addr), vs = [.ref dk] ∧ ∃ (G : Hp) (W : Wd) (A : Acc) (past : List Acc), W.Ok ∧ DeskAt K G H dk W A past ∧ AccOk W A ∧
  (lostAt A.rows = none → ∀ x H', Ex H H' → CastNew K H H' x (W.card A.joined) → Q (.ref x) H') ∧ ∀ k : Nat, lostAt A.rows = some k → ∀ d H', Ex H H' → H' d = some (.xd [("number", .int k)]) → E (.ref (He.ga K "PageLost")) (some d) H'
theorem ok_Desk_cast (T : Tx w K mg) : FnOk P w K mg base (L2N.CX P w) 7 (a_Desk_cast K) (fdOf K (a_Desk_cast K)) ["self"] (sp_Desk_cast K) := by
  refine (T.d_Desk_cast).ok sc_Desk_cast (fun vs H Q E h => ?_) (fun cdv A outer s H vs Q E hr h => ?_)
  · obtain ⟨_, rfl, _⟩ := h
    rfl
  refine ⟨_, (pss_cons (ps_expr (pe_meth0 (pv 0) T.cl_Desk T.m_Desk_check_known (ok_Desk_check_known T) (hr.mono (by decide)) T.b_Desk_check_known .nil (L2N.passes_call (L2N.takes_of rfl rfl rfl rfl) (fun _ _ _ _ h => h))))
      (pss_one (ps_ret (pe_call (ok_cast_of T) (hr.mono (by decide)) rfl T.g_cast_of T.d_cast_of.kp T.b_cast_of .nil pass0 (pa_cons (pe_fld (pv 0) rfl) (pa_cons (pe_bm PySem.F.plainAttrs_str PySem.F.slot_str_join PySem.F.type_str_join mt_join pe_str (pa_cons (pe_fld (pe_fld (pv 0) rfl) rfl) pa_nil)) pa_nil)))))), ?_⟩
  obtain ⟨dk, rfl, G, W, A, past, O, ⟨dx, c, st, pt, D⟩, ok, kq, kE⟩ := h
  have hd := D.at_
  have hG := D.ex
  obtain ⟨sx, h0, sh0, cd0, s1, s2, s3, s4⟩ := D.now
  walk_at "s"
  refine ⟨_, _, _, rfl, hd, dkNo (by decide +kernel) (by decide +kernel) (by decide +kernel), ?_⟩
  walk_at "s"
  refine ⟨dk, rfl, G, W, A, past, ⟨dx, c, st, pt, D⟩, ok, fun hn H1 e1 => ?_, fun k hk d H' e hx => kE k hk d H' e hx⟩
  have hg := ok.good hn
  have hkn := lost_none hn
  walk_at "s"
  refine ⟨_, _, _, _, _, rfl, (by walk_at "fact"), T.cl_Desk, T.n_Desk_calendar, dk1, ?_⟩
  walk_at "s"
  refine ⟨_, _, _, _, _, rfl, (by walk_at "fact"), T.cl_Desk, T.n_Desk_now, dk2, ?_⟩
  walk_at "s"
  refine ⟨_, _, _, _, _, rfl, (by walk_at "fact"), T.cl_State, T.n_State_held, st1, ?_⟩
  refine ⟨SX.S [], h0, (A.rows.map Pg.z).map SX.S, rfl, rfl, .inl (by rw [← known_map hkn]; exact sq_of (by walk_at "fact")), ?_, ?_⟩
  · rw [SX.lens, SX.S_len, ← List.length_flatten, known_tot hkn]
    have := ok.tot
    show _ + _ * 0 ≤ _
    omega
  rw [join0]
  walk_at "s"
  refine ⟨c, _, rfl, W, O, (D.cal.ex hG).ex e1, hg, fun x H2 e2 hc => ?_⟩
  obtain ⟨dx', t, n1, n2, h1, h2⟩ := hc
  exact kq hn x H2 (e1.trans e2) ⟨dx', t, fresh_back e1 n1, fresh_back e1 n2, h1, h2⟩
noncomputable def Acc.markp (W : Wd) (A : Acc) : Option Acc := match lostAt A.rows with
  | none => some { A with card := some (W.card A.joined) }
  | some _ => none
def sp_Desk_mark (K : Fr) : Sp := fun vs H Q E => ∃ (dk : Addr), vs = [.ref dk] ∧ ∃ (G : Hp) (W : Wd) (A : Acc) (past : List Acc), W.Ok ∧ DeskAt K G H dk W A past ∧ AccOk W A ∧ past.length ≤ 1000 ∧
  OpQ K G H dk W A past (A.markp W) (fun H' => Q .non H') E
theorem ok_Desk_mark (T : Tx w K mg) : FnOk P w K mg base (L2N.CX P w) 8 (a_Desk_mark K) (fdOf K (a_Desk_mark K)) ["self"] (sp_Desk_mark K) := by
  refine (T.d_Desk_mark).ok sc_Desk_mark (fun vs H Q E h => ?_) (fun cdv A outer s H vs Q E hr h => ?_)
  · obtain ⟨_, rfl, _⟩ := h
    rfl
  refine ⟨_, (pss_one (ps_expr (pe_meth (pv 0) T.cl_Desk T.m_Desk_lay (ok_Desk_lay T) (hr.mono (by decide)) T.b_Desk_lay .nil pass0 (pa_cons (pe_meth0 (pv 0) T.cl_Desk T.m_Desk_cast (ok_Desk_cast T) (hr.mono (by decide)) T.b_Desk_cast .nil (L2N.passes_call (L2N.takes_of rfl rfl rfl rfl) (fun _ _ _ _ h => h))) pa_nil)))), ?_⟩
  obtain ⟨dk, rfl, G, W, A, past, O, ⟨dx, c, st, pt, D⟩, ok, hpl, kq, kE⟩ := h
  have hd := D.at_
  have hG := D.ex
  walk_at "s"
  refine ⟨_, _, _, rfl, hd, dkNo (by decide +kernel) (by decide +kernel) (by decide +kernel), ?_⟩
  walk_at "s"
  refine ⟨_, _, _, rfl, hd, dkNo (by decide +kernel) (by decide +kernel) (by decide +kernel), ?_⟩
  walk_at "s"
  refine ⟨dk, rfl, G, W, A, past, O, ⟨dx, c, st, pt, D⟩, ok, fun hn x H1 e1 hc => ?_, fun k hk d H' e hx => kE (by unfold Acc.markp; rw [hk]) _ _ _ (roll_PageLost T) e⟩
  have g0 : Gr G H (ext G H H1) H1 := Gr.pure hG e1
  walk_at "s"
  exact ⟨dk, _, rfl, ext G H H1, W, A, some (W.card A.joined), past, ⟨dx, c, st, pt, D.keep g0 (by rw [e1 _ _ hd, hd])⟩, ok, hpl, ⟨x, rfl, hc.ext_⟩, fun G2 H9 g f D' => kq _ G2 H9 (by unfold Acc.markp; rw [hn]) (g0.trans g) ((Ex.frm e1).trans f) D'⟩
theorem lex1 {a b : Nat} : ([a] < [b]) ↔ a < b := by
  constructor
  · intro h
    cases h with
    | rel h => exact h
    | cons h => cases h
  · intro h
    exact .rel h
def sp_is_rising (K : Fr) : Sp := fun vs H Q _ => ∃ v, vs = [v] ∧ ∃ z : List Nat, v = .str (SX.S z) ∧ z.Pairwise (· < ·) ∧ (∀ c ∈ z, 97 ≤ c ∧ c ≤ 122) ∧ Q (.bl true) H
theorem ok_is_rising (T : Tx w K mg) : FnOk P w K mg base CX0 1 (a_is_rising K) (fdOf K (a_is_rising K)) ["word"] (sp_is_rising K) := by
  refine (T.d_is_rising).ok sc_is_rising (fun vs H Q E h => ?_) (fun cdv A outer s H vs Q E hr h => ?_)
  · obtain ⟨_, rfl, _⟩ := h
    rfl
  refine ⟨_, PSs.nox (pss_cons (ps_set (i := 1) sc_is_rising.nd rfl (Or.inl rfl) pe_str)
      (pss_cons (ps_for PassesOwn.never rfl (pi_str (pv 0)) (pg_name (i := 2) sc_is_rising.nd rfl (Or.inl rfl))
      (pss_cons (ps_if (PW.pt (pw_or (pt_cmpR op_notIn_sign (pv 2) (pe_gS T.s_LETTERS) (by first | exact nomark _ | rfl)) (pw_or1 (pt_cmpR op_le_str (pv 2) (pv 1) (by first | exact nomark _ | rfl)))))
        (pss_one (ps_ret pe_bl))
        pss_nil)
        (pss_one (ps_set (i := 1) sc_is_rising.nd rfl (Or.inl rfl) (pv 2)))))
      (pss_one (ps_ret pe_bl)))), ?_⟩
  obtain ⟨v, rfl, z, rfl, hs, hr, k⟩ := h
  walk_at "s"
  refine for_J (J := Its (SX.S z)) (n := z.length) (it := fun i => .str (SX.S [z.getD i 0])) (fun i σ H' => H' = H ∧ ∃ b v, σ = [some (.str (SX.S z)), some (.str (SX.S b)), v] ∧ (b = [] ∨ ∃ j, j < i ∧ b = [z.getD j 0])) ⟨rfl, [], _, rfl, .inl rfl⟩ (fun _ _ _ _ _ => gives_str) ?_ ?_
  · rintro i σ H' hi ⟨rfl, b, v, rfl, hb⟩
    have hzi : z[i]? = some (z.getD i 0) := by simp [List.getD, hi]
    have hm := hr _ (List.mem_of_getElem? hzi)
    walk_at "s"
    rw [az_eq, show decide (z.getD i 0 ∈ (SX.S az).cps.toList) = true from decide_eq_true (az_mem.mpr hm)]
    walk_at "s"
    have hlt : b < [z.getD i 0] := by
      rcases hb with rfl | ⟨j, hj, rfl⟩
      · exact .nil
      · refine lex1.mpr ?_
        have h1 := List.pairwise_iff_getElem.mp hs j i (by omega) hi hj
        have e1 : z.getD j 0 = z[j]'(by omega) := by simp [List.getD, show j < z.length by omega]
        have e2 : z.getD i 0 = z[i] := by simp [List.getD, hi]
        rw [e1, e2]
        exact h1
    rw [show decide ((SX.S b).cps.toList < (SX.S [z.getD i 0]).cps.toList) = true from decide_eq_true hlt]
    walk_at "s"
    exact ⟨rfl, _, _, rfl, .inr ⟨i, by omega, rfl⟩⟩
  · rintro σ H' ⟨rfl, b, v, rfl, hb⟩
    walk_at "s"
    exact k
/-! W16 -/

theorem Wd.word_asc {W : Wd} (O : W.Ok) (x : Nat) : (W.word x).Pairwise (· < ·) := List.Pairwise.filter _ O.asc
def sp_Calendar_init (K : Fr) : Sp := fun vs H Q _ => ∃ (x a : Addr), vs = [.ref x, .ref a] ∧ ∃ (dx : Addr) (W : Wd), W.Ok ∧ SqL K H a (W.words.map fun z => V.str (SX.S z)) ∧ H x = some (.ins (He.ga K "Calendar") dx []) ∧
  ∀ ws H', H ws = none → H' x = some (.ins (He.ga K "Calendar") dx (klF (.ref ws))) → H' ws = some (.lst (W.words.map fun z => V.str (SX.S z))) → Frm [x] H H' → Q .non H'
theorem ok_Calendar_init (T : Tx w K mg) : FnOk P w K mg base CX0 2 (a_Calendar_init K) (fdOf K (a_Calendar_init K)) ["self", "words"] (sp_Calendar_init K) := by
  refine (T.d_Calendar_init).ok sc_Calendar_init (fun vs H Q E h => ?_) (fun cdv A outer s H vs Q E hr h => ?_)
  · obtain ⟨_, _, rfl, _⟩ := h
    rfl
  refine ⟨_, PSs.nox (pss_cons (ps_if (pt_not (pt_chain op_le op_le pe_int (pe_callB call_len (by rfl) T.z_len (by decide +kernel) (pa_cons (pv 1) pa_nil)) (pe_gI T.i_MOST_PLACES)))
      (pss_one ps_never)
      pss_nil)
      (pss_cons (ps_for PassesOwn.never rfl (pi_enum rfl T.z_enumerate (pa_cons (pv 1) pa_nil)) (pg_tup rfl (pgs_cons (pg_name (i := 2) sc_Calendar_init.nd rfl (Or.inl rfl)) (pgs_cons (pg_name (i := 3) sc_Calendar_init.nd rfl (Or.inl rfl)) pgs_nil)))
      (pss_one (ps_if (pt_not (pt_val (pe_call (ok_is_rising T) (hr.mono (by decide)) rfl T.g_is_rising T.d_is_rising.kp T.b_is_rising .nil pass0 (pa_cons (pv 3) pa_nil))))
        (pss_one ps_never)
        pss_nil)))
      (pss_one (ps_fld (pv 0) (pe_callTy call_list_of (by rfl) T.z_list (by decide +kernel) (pa_cons (pv 1) pa_nil)) rfl)))), ?_⟩
  obtain ⟨x, a, rfl, dx, W, O, ha, hx, k⟩ := h
  have hp := O.pos
  have hp3 := O.le
  have hwl : (W.words.map fun z => V.str (SX.S z)).length = W.p := by rw [List.length_map, Wd.words_len]
  walk_at "s"
  rw [hwl]
  refine iteYes (by omega) ?_
  walk_at "s"
  refine iteNS (by omega) ?_
  walk_at "s"
  refine ⟨_, _, rfl, ha, ?_⟩
  refine for_enum (fun i σ H' => Ex H H' ∧ ∃ v1 v2, σ = [some (.ref x), some (.ref a), v1, v2]) ⟨Ex.refl _, _, _, rfl⟩ (fun i σ H' _ p => ex_l p.1 ha) ?_ ?_
  · rintro i v σ H' hi ⟨e3, v1, v2, rfl⟩
    rw [List.getElem?_map] at hi
    obtain ⟨q, hq, rfl⟩ := Option.map_eq_some_iff.mp hi
    obtain ⟨x', _, rfl⟩ := List.mem_map.mp (List.mem_of_getElem? hq)
    intro T2 nT2; generalize hET2 : upd _ T2 _ = H2; have eH2 := exN nT2 hET2; have hT2 := atN hET2; clear hET2
    walk_at "s"
    refine ⟨_, rfl, W.word x', rfl, W.word_asc O x', fun c hc => O.rng c (Wd.word_sub hc).1, ?_⟩
    walk_at "s"
    exact ⟨e3.trans eH2, _, _, rfl⟩
  · rintro σ H' ⟨e3, v1, v2, rfl⟩
    walk_at "s"
    refine ⟨a, _, rfl, .inl (ex_l e3 ha), ?_⟩
    intro ws nws; generalize hEws : upd _ ws _ = H2; have eH2 := exN nws hEws; have hws := atN hEws; clear hEws
    walk_at "s"
    refine ⟨_, _, _, _, rfl, eH2 _ _ (e3 _ _ hx), T.cl_Calendar, T.n_Calendar_words, (by exact (show 0 < 1000 by decide)), ?_⟩
    have nx : ws ≠ x := (ne_of_none (e3 _ _ hx) nws).symm
    exact k ws _ (fresh_back e3 nws) upd_same (by rw [upd_ne nx]; exact hws) ((Ex.frm (e3.trans eH2)).upd (.inl (List.mem_cons_self ..)))
def shw (z : List Nat) : List Nat := if z = [] then [45] else z
/-- the calendar's text -/
def Wd.text (W : Wd) : Str := Txt.join " " ((W.words.map shw).map SX.S)
theorem dash_eq : ("-" : Str) = SX.S [45] := by decide +kernel
theorem empty_eq : ("" : Str) = SX.S [] := by decide +kernel
theorem shw_len {z : List Nat} {n : Nat} (h : z.length ≤ n) (hn : 1 ≤ n) : (shw z).length ≤ n := by
  unfold shw
  split
  · exact hn
  · exact h
theorem text_len {W : Wd} (O : W.Ok) : ((((W.words.map shw).map SX.S)).map (·.length)).sum + ((W.words.map shw).map SX.S).length * (" " : Str).length ≤ 16777216 := by
  rw [SX.lens]
  have h := sum_le (n := 4) (ps := W.words.map shw) fun q hq => by
    obtain ⟨z, hz, rfl⟩ := List.mem_map.mp hq
    obtain ⟨x, _, rfl⟩ := List.mem_map.mp hz
    exact shw_len (Nat.le_trans Wd.word_len O.len.2) (by decide)
  rw [List.length_map, Wd.words_len] at h
  rw [List.length_map, List.length_map, Wd.words_len, show (" " : Str).length = 1 by decide +kernel]
  have := O.le
  omega
def sp_Calendar_text (K : Fr) : Sp := fun vs H Q _ => ∃ (c : Addr), vs = [.ref c] ∧ ∃ W : Wd, W.Ok ∧ CalAt K H c W ∧ RetV (.str W.text) H Q
theorem ok_Calendar_text (T : Tx w K mg) : FnOk P w K mg base CX0 1 (a_Calendar_text K) (fdOf K (a_Calendar_text K)) ["self"] (sp_Calendar_text K) := by
  refine (T.d_Calendar_text).ok sc_Calendar_text (fun vs H Q E h => ?_) (fun cdv A outer s H vs Q E hr h => ?_)
  · obtain ⟨_, rfl, _⟩ := h
    rfl
  refine ⟨_, PSs.nox (pss_one (ps_ret (pe_bm PySem.F.plainAttrs_str PySem.F.slot_str_join PySem.F.type_str_join mt_join pe_str (pa_cons (pe_lc (own := [("word", 1)]) (g := gName 1) (tt := tYes) rfl sc_Calendar_text.nd (pi_list (pe_fld (pv 0) rfl)) (blkOk_by (N := N_Calendar_text) (sc := defScope s_Calendar_text) (by decide +kernel)) (fun _ _ _ _ _ => pg_name (i := 1) sc_Calendar_text.nd rfl (Or.inl rfl)) (fun _ _ _ _ _ => pts_nil) (fun _ _ _ _ _ => (pe_ifExp (pt_cmpR op_eq (pv 1) pe_str (by first | exact nomark _ | rfl)) pe_str (pv 1)))) pa_nil)))), ?_⟩
  obtain ⟨c, rfl, W, O, ⟨dx, ws, h1, h2⟩, k⟩ := h
  walk_at "s"
  refine el_cM (fun z => V.str (SX.S z)) (fun _ => true) (fun z => .str (SX.S (shw z))) ?_ (sq_of h2) (by rw [Wd.words_len]; have := O.le; omega) (fun _ => rfl) (fun _ _ _ _ => et_yes) (fun z hz H1 e1 _ => ?_) H (Ex.refl H) _ fun q H1 nq e1 hq => ?_
  · intro H1 e1 Q1 q1
    walk_at "s"
    refine ⟨_, _, _, _, _, rfl, (by walk_at "fact"), T.cl_Calendar, T.n_Calendar_words, kl1, ?_⟩
    exact q1 _ (Ex.refl _)
  · intro H1 e1 Q1 q1
    walk_at "s"
    rw [empty_eq, isS]
    unfold shw at q1
    by_cases hz : z = []
    · rw [if_pos hz] at q1
      refine iteYes hz ?_
      walk_at "s"
      rw [dash_eq]
      exact q1 _ (Ex.refl _)
    · rw [if_neg hz] at q1
      refine iteNo hz ?_
      walk_at "s"
      exact q1 _ (Ex.refl _)
  rw [filter_yes] at hq
  walk_at "s"
  refine ⟨_, q, (W.words.map shw).map SX.S, rfl, rfl, .inl (sq_of (by rw [List.map_map, List.map_map]; exact hq)), text_len O, ?_⟩
  exact k H1 e1
def sp_Desk_init (K : Fr) : Sp := fun vs H Q _ => ∃ (x c : Addr) (b : Int), vs = [.ref x, .ref c, .int b] ∧ ∃ (G : Hp) (dx : Addr) (W : Wd) (k : Nat), b = k ∧ 1 ≤ k ∧ k ≤ 8 ∧ Ex G H ∧ G x = none ∧ CalAt K G c W ∧ H x = some (.ins (He.ga K "Desk") dx []) ∧
  ∀ G' H', Gr G H G' H' → Frm [x] H H' → DeskAt K G' H' x W ⟨[], none, k⟩ [] → Q .non H'
theorem ok_Desk_init (T : Tx w K mg) : FnOk P w K mg base CX0 3 (a_Desk_init K) (fdOf K (a_Desk_init K)) ["self", "calendar", "bound"] (sp_Desk_init K) := by
  refine (T.d_Desk_init).ok sc_Desk_init (fun vs H Q E h => ?_) (fun cdv A outer s H vs Q E hr h => ?_)
  · obtain ⟨_, _, _, rfl, _⟩ := h
    rfl
  refine ⟨_, PSs.nox (pss_cons (ps_if (pt_not (pt_chain op_le op_le pe_int (pv 2) (pe_gI T.i_MOST_PAGES)))
      (pss_one ps_never)
      pss_nil)
      (pss_cons (ps_fld (pv 0) (pv 1) rfl)
      (pss_cons (ps_fld (pv 0) (pe_make T.mk_State (ok_State_init T) (hr.mono (by decide)) rfl T.g_State T.b_State_init .nil pass0 (pa_cons (pe_lst pa_nil) (pa_cons (pe_lst pa_nil) (pa_cons pe_non (pa_cons (pv 2) pa_nil))))) rfl)
      (pss_one (ps_fld (pv 0) (pe_tup pa_nil) rfl))))), ?_⟩
  obtain ⟨x, c, b, rfl, G, dx, W, k, rfl, hb1, hb8, hG, hno, hc, hx, kq⟩ := h
  walk_at "s"
  refine iteYes (by omega) ?_
  walk_at "s"
  refine iteNS (by omega) ?_
  walk_at "s"
  refine ⟨_, _, _, _, rfl, hx, T.cl_Desk, T.n_Desk_calendar, (by exact (show 0 < 1000 by decide)), ?_⟩
  generalize hEH1 : upd _ x _ = H1; have fH1 := frmP hEH1; have aH1 := atN hEH1; clear hEH1
  rw [put1] at aH1
  walk_at "s"
  intro l1 nl1; generalize hEl1 : upd _ l1 _ = H2; have eH2 := exN nl1 hEl1; have hl1 := atN hEl1; clear hEl1
  walk_at "s"
  intro l2 nl2; generalize hEl2 : upd _ l2 _ = H3; have eH3 := exN nl2 hEl2; have hl2 := atN hEl2; clear hEl2
  walk_at "s"
  intro y dy ny ndy ney
  have n1 : ∀ {b : Addr}, b ≠ x → b ∉ [x] := fun h m => by
    rcases List.mem_cons.mp m with z | m
    · exact h z
    · cases m
  have nyx : y ≠ x := fun z => by
    have := eH3 _ _ (eH2 _ _ aH1)
    rw [z, this] at ny
    cases ny
  have f3 : Frm [x] H H3 := fH1.trans (Ex.frm (eH2.trans eH3))
  have nyH : H y = none := by
    cases q : H y with
    | none => rfl
    | some o =>
      have := f3 y o (n1 nyx) q
      rw [ny] at this
      cases this
  refine ⟨y, _, _, _, _, rfl, dy, upd_same, fun H6 h6 f6 => ⟨rfl, ?_⟩⟩
  have f36 : Frm [y] H3 H6 := (Ex.frm (mkEx ny ndy ney)).trans f6
  have n2 : ∀ {b : Addr} {o : HO}, H3 b = some o → b ∉ [y] := fun h m => by
    rcases List.mem_cons.mp m with z | m
    · rw [z, ny] at h; cases h
    · cases m
  have ax6 := f36 x _ (n2 (eH3 _ _ (eH2 _ _ aH1))) (eH3 _ _ (eH2 _ _ aH1))
  walk_at "s"
  refine ⟨_, _, _, _, rfl, ax6, T.cl_Desk, T.n_Desk_now, (by exact (show 1 < 1000 by decide)), ?_⟩
  generalize hEH7 : upd _ x _ = H7; have fH7 := frmP hEH7; have aH7 := atN hEH7; clear hEH7
  walk_at "s"
  intro t nt; generalize hEt : upd _ t _ = H8; have eH8 := exN nt hEt; have ht := atN hEt; clear hEt
  walk_at "s"
  refine ⟨_, _, _, _, rfl, eH8 _ _ aH7, T.cl_Desk, T.n_Desk_past, (by rw [puN (by decide +kernel) put1]; exact (show 2 < 1000 by decide)), ?_⟩
  generalize hEH9 : upd _ x _ = H9; have fH9 := frmP hEH9; have aH9 := atN hEH9; clear hEH9
  rw [← put1, dkP] at aH9
  have f6 : Frm [x] H H6 := (f3.trans (Ex.frm (mkEx ny ndy ney))).fresh f6 (fun o h => by rw [nyH] at h; cases h)
  have f9 : Frm [x] H H9 := ((f6.trans fH7).trans (Ex.frm eH8)).trans fH9
  have g : Gr G H (ext G H H9) H9 := Gr.of (S := [x]) hG f9 (fun a m => by rcases List.mem_cons.mp m with rfl | m; exact hno; cases m) (fun a m _ => by rcases List.mem_cons.mp m with rfl | m; rw [aH9]; exact (fun z => nomatch z); cases m)
  have ntx : t ≠ x := fun z => by rw [z, aH7] at nt; cases nt
  have fin : ∀ {b : Addr} {o : HO}, b ≠ x → H6 b = some o → H9 b = some o := fun h e => fH9 _ _ (n1 h) (eH8 _ _ (fH7 _ _ (n1 h) e))
  have nl1x : l1 ≠ x := fun z => by rw [z, aH1] at nl1; cases nl1
  have nl2x : l2 ≠ x := fun z => by have := eH2 _ _ aH1; rw [z, this] at nl2; cases nl2
  have back : ∀ {b : Addr} {H' : Hp}, Frm [x] H H' → b ≠ x → H' b = none → H b = none := fun f h e => by
    rename_i b H'
    cases q : H b with
    | none => rfl
    | some o =>
      have := f b o (n1 h) q
      rw [e] at this
      cases this
  have l1H : H l1 = none := back fH1 nl1x nl1
  have l2H : H l2 = none := back (fH1.trans (Ex.frm eH2)) nl2x nl2
  have tH : H t = none := back (f6.trans fH7) ntx nt
  refine kq _ H9 g f9 ⟨dx, c, y, t, ⟨g.up, g.old x (by rw [hx]; exact fun z => nomatch z) hno, aH9, hc.ex g.ex, ⟨dy, l1, l2, .non, ?_, ?_, ?_, rfl⟩, [], st_of ?_, .nil⟩⟩
  · rw [ext_new nyH]
    exact fin nyx h6
  · rw [ext_new l1H]
    exact fin nl1x (f36 _ _ (n2 (eH3 _ _ hl1)) (eH3 _ _ hl1))
  · rw [ext_new l2H]
    exact fin nl2x (f36 _ _ (n2 hl2) hl2)
  · rw [ext_new tH]
    exact fH9 _ _ (n1 ntx) ht
/-! W17 -/

/-! ### deeds -/
def dg : List Nat := (List.range 10).map (· + 48)
theorem dg_eq : ("0123456789" : Str) = SX.S dg := by decide +kernel
def isNum (w : List Nat) : Bool := if (1 ≤ w.length ∧ w.length ≤ 3) ∧ ∀ c ∈ w, c ∈ dg then (w.length == 1 || w.getD 0 0 != 48) else false
theorem zero_eq : ("0" : Str) = SX.S [48] := by decide +kernel
theorem any_id (l : List Bool) : l.any id = l.any fun b => b := rfl
def sp_is_number (K : Fr) : Sp := fun vs H Q _ => ∃ v, vs = [v] ∧ ∃ z : List Nat, v = .str (SX.S z) ∧ z.length ≤ 100 ∧ RetV (.bl (isNum z)) H Q
theorem ok_is_number (T : Tx w K mg) : FnOk P w K mg base CX0 1 (a_is_number K) (fdOf K (a_is_number K)) ["word"] (sp_is_number K) := by
  refine (T.d_is_number).ok sc_is_number (fun vs H Q E h => ?_) (fun cdv A outer s H vs Q E hr h => ?_)
  · obtain ⟨_, rfl, _⟩ := h
    rfl
  refine ⟨_, PSs.nox (pss_cons (ps_if (PW.pt (pw_or (pt_not (pt_chain op_le op_le pe_int (pe_callB call_len (by rfl) T.z_len (by decide +kernel) (pa_cons (pv 0) pa_nil)) (pe_gI T.i_MOST_DIGITS))) (pw_or1 (pt_val (pe_callB (cr_any rfl) (by rfl) T.z_any (by decide +kernel) (pa_cons (pe_lc (own := [("digit", 1)]) (g := gName 1) (tt := tYes) rfl sc_is_number.nd (pi_str (pv 0)) (blkOk_by (N := N_is_number) (sc := defScope s_is_number) (by decide +kernel)) (fun _ _ _ _ _ => pg_name (i := 1) sc_is_number.nd rfl (Or.inl rfl)) (fun _ _ _ _ _ => pts_nil) (fun _ _ _ _ _ => (pe_cmpR op_notIn_sign (pv 1) (pe_gS T.s_DIGITS_deeds) (by first | exact nomark _ | rfl)))) pa_nil))))))
      (pss_one (ps_ret pe_bl))
      pss_nil)
      (pss_one (ps_ret (pe_or (pe_cmpR op_eq (pe_callB call_len (by rfl) T.z_len (by decide +kernel) (pa_cons (pv 0) pa_nil)) pe_int (by first | exact nomark _ | rfl)) (pe_one (pe_cmpR op_ne (pe_ix ix_str (pv 0) pe_int (fun _ _ => rfl)) pe_str (by first | exact nomark _ | rfl))))))), ?_⟩
  obtain ⟨v, rfl, z, rfl, hz, k⟩ := h
  have lenS : sizeLine ≥ (SX.S z).length := by rw [SX.S_len]; exact sz_of (by omega)
  have no : ¬ ((1 ≤ z.length ∧ z.length ≤ 3) ∧ ∀ c ∈ z, c ∈ dg) → isNum z = false := fun h => if_neg h
  walk_at "s"
  refine ⟨_, _, rfl, ⟨lenS, rfl⟩, ?_⟩
  walk_at "s"
  rw [SX.S_len]
  by_cases h1 : 1 ≤ z.length
  · refine iteYes (by omega) ?_
    walk_at "s"
    by_cases h3 : z.length ≤ 3
    · rw [decide_eq_true (show (z.length : Int) ≤ 3 by omega)]
      walk_at "s"
      refine el_cMS (fun _ => true) (fun c => .bl (!decide (c ∈ dg))) (ev_var rfl) (by omega) (fun _ => rfl) (fun _ _ _ _ => et_yes) (fun c hc H1 e1 _ => ?_) H (Ex.refl H) _ fun q H1 nq e1 hq => ?_
      · intro H2 e2 Q2 q2
        walk_at "s"
        rw [dg_eq]
        exact q2 _ (Ex.refl _)
      rw [filter_yes] at hq
      walk_at "s"
      refine ⟨q, z.map fun c => !decide (c ∈ dg), rfl, sq_of (by rw [List.map_map]; exact hq), ?_⟩
      walk_at "s"
      by_cases hd : ∀ c ∈ z, c ∈ dg
      · have e : (z.map fun c => !decide (c ∈ dg)).any id = false := by
          rw [List.any_eq_false]
          intro b hb
          obtain ⟨c, hc, rfl⟩ := List.mem_map.mp hb
          show ¬ (!decide (c ∈ dg)) = true
          rw [decide_eq_true (hd c hc)]
          decide
        rw [e]
        walk_at "s"
        refine ⟨_, _, rfl, ⟨lenS, rfl⟩, ?_⟩
        walk_at "s"
        rw [SX.S_len]
        have er : isNum z = (z.length == 1 || z.getD 0 0 != 48) := if_pos ⟨⟨h1, h3⟩, hd⟩
        by_cases hl : z.length = 1
        · refine iteYes (by rw [hl]; rfl) ?_
          have : isNum z = true := by rw [er, hl]; rfl
          rw [this] at k
          exact k _ e1
        · refine iteNo (fun q => hl (by have := V.int.inj q; omega)) ?_
          walk_at "s"
          have hz0 : z[0]? = some (z.getD 0 0) := by simp [List.getD, show 0 < z.length by omega]
          refine go_ixS (by omega) (show atI z ((0 : Nat) : Int) = _ from atI_nat hz0) ?_
          walk_at "s"
          rw [zero_eq, isS]
          have : isNum z = !decide ([z.getD 0 0] = [48]) := by
            rw [er, show (z.length == 1) = false from beq_false_of_ne hl, Bool.false_or]
            by_cases h48 : z.getD 0 0 = 48
            · rw [h48]; rfl
            · rw [decide_eq_false (fun q => h48 (List.cons.inj q).1), bne_iff_ne.mpr h48]; rfl
          rw [this] at k
          exact k _ e1
      · have e : (z.map fun c => !decide (c ∈ dg)).any id = true := by
          rw [List.any_eq_true]
          have ⟨c, hc⟩ := Classical.not_forall.mp hd
          have ⟨hm, hn⟩ := Classical.not_imp.mp hc
          exact ⟨true, List.mem_map.mpr ⟨c, hm, by rw [decide_eq_false hn]; rfl⟩, rfl⟩
        rw [e]
        walk_at "s"
        rw [no fun q => hd q.2] at k
        exact k _ e1
    · rw [decide_eq_false (show ¬ (z.length : Int) ≤ 3 by omega)]
      walk_at "s"
      rw [no fun q => h3 q.1.2] at k
      exact k _ (Ex.refl _)
  · refine iteNo (by omega) ?_
    walk_at "s"
    rw [no fun q => h1 q.1.1] at k
    exact k _ (Ex.refl _)
def sp_page_of_word (K : Fr) : Sp := fun vs H Q _ => ∃ v, vs = [v] ∧ ∃ z : List Nat, v = .str (SX.S z) ∧ Q (.str (SX.S (if z = [45] then [] else z))) H
theorem ok_page_of_word (T : Tx w K mg) : FnOk P w K mg base CX0 1 (a_page_of_word K) (fdOf K (a_page_of_word K)) ["word"] (sp_page_of_word K) := by
  refine (T.d_page_of_word).ok sc_page_of_word (fun vs H Q E h => ?_) (fun cdv A outer s H vs Q E hr h => ?_)
  · obtain ⟨_, rfl, _⟩ := h
    rfl
  refine ⟨_, PSs.nox (pss_one (ps_ret (pe_ifExp (pt_cmpR op_eq (pv 0) pe_str (by first | exact nomark _ | rfl)) pe_str (pv 0)))), ?_⟩
  obtain ⟨v, rfl, z, rfl, k⟩ := h
  walk_at "s"
  rw [dash_eq, isS]
  by_cases h : z = [45]
  · rw [if_pos h] at k
    refine iteYes h ?_
    walk_at "s"
    rw [empty_eq]
    exact k
  · rw [if_neg h] at k
    refine iteNo h ?_
    walk_at "s"
    exact k
def sp_word_of_page (K : Fr) : Sp := fun vs H Q _ => ∃ v, vs = [v] ∧ ∃ z : List Nat, v = .str (SX.S z) ∧ Q (.str (SX.S (shw z))) H
theorem ok_word_of_page (T : Tx w K mg) : FnOk P w K mg base CX0 1 (a_word_of_page K) (fdOf K (a_word_of_page K)) ["page"] (sp_word_of_page K) := by
  refine (T.d_word_of_page).ok sc_word_of_page (fun vs H Q E h => ?_) (fun cdv A outer s H vs Q E hr h => ?_)
  · obtain ⟨_, rfl, _⟩ := h
    rfl
  refine ⟨_, PSs.nox (pss_one (ps_ret (pe_ifExp (pt_cmpR op_eq (pv 0) pe_str (by first | exact nomark _ | rfl)) pe_str (pv 0)))), ?_⟩
  obtain ⟨v, rfl, z, rfl, k⟩ := h
  unfold shw at k
  walk_at "s"
  rw [empty_eq, isS]
  by_cases h : z = []
  · rw [if_pos h] at k
    refine iteYes h ?_
    walk_at "s"
    rw [dash_eq]
    exact k
  · rw [if_neg h] at k
    refine iteNo h ?_
    walk_at "s"
    exact k
/-! W18 -/

inductive Kd where
  | put | insert | set | find | take | lose | bound | mark | tear
  deriving DecidableEq
def Kd.nm : Kd → Str
  | .put => "put" | .insert => "insert" | .set => "set" | .find => "find" | .take => "take" | .lose => "lose" | .bound => "bound" | .mark => "mark" | .tear => "tear"
def Kd.hasN : Kd → Bool
  | .insert | .set | .find | .take | .lose | .bound => true
  | _ => false
def Kd.hasP : Kd → Bool
  | .put | .insert | .set | .find => true
  | _ => false
structure Stp where
  kd : Kd
  num : Int
  page : List Nat
def Kd.cs (k : Kd) : List Nat := k.nm.cps.toList
theorem Kd.S_cs (k : Kd) : SX.S k.cs = k.nm := SX.S_tl _
def numT (n : Int) : List Nat := (nm n).cps.toList
theorem S_numT (n : Int) : SX.S (numT n) = nm n := SX.S_tl _
def Stp.args (s : Stp) : List (List Nat) := (if s.kd.hasN then [numT s.num] else []) ++ (if s.kd.hasP then [shw s.page] else [])
def Stp.parts (s : Stp) : List (List Nat) := s.kd.cs :: s.args
def Stp.line (s : Stp) : List Nat := TL.joinL [32] s.parts
def Kd.form (k : Kd) : List V := (if k.hasN then [V.str "number"] else []) ++ (if k.hasP then [V.str "page"] else [])
/-- steps as the law makes them -/
structure Stp.Ok (s : Stp) : Prop where
  lo : -1 ≤ s.num
  hi : s.num < 100
  pg : ∀ c ∈ s.page, c = 65 ∨ (97 ≤ c ∧ c ≤ 122)
  len : s.page.length ≤ 20
theorem num_facts : ∀ n : Nat, n < 100 → isNum (numT (n : Int)) = true ∧ (numT (n : Int)).length ≤ 2 ∧ 32 ∉ numT (n : Int) ∧ intText? (nm (n : Int)) = some (n : Int) := by decide +kernel
theorem neg_facts : isNum (numT (-1)) = false ∧ (numT (-1)).length = 2 ∧ 32 ∉ numT (-1) := by decide +kernel
theorem cs_facts (k : Kd) : 32 ∉ k.cs ∧ k.cs.length ≤ 6 := by cases k <;> decide +kernel
theorem Stp.Ok.numT {s : Stp} (o : s.Ok) : (Dk.numT s.num).length ≤ 2 ∧ 32 ∉ Dk.numT s.num := by
  rcases Int.lt_or_le s.num 0 with h | h
  · rw [show s.num = -1 by have := o.lo; omega]
    exact ⟨by rw [neg_facts.2.1]; decide, neg_facts.2.2⟩
  · obtain ⟨n, hn⟩ := Int.eq_ofNat_of_zero_le h
    rw [hn]
    have := o.hi
    have f := num_facts n (by omega)
    exact ⟨f.2.1, f.2.2.1⟩
theorem Stp.Ok.shw {s : Stp} (o : s.Ok) : (Dk.shw s.page).length ≤ 20 ∧ 32 ∉ Dk.shw s.page := by
  refine ⟨shw_len o.len (by decide), ?_⟩
  unfold Dk.shw
  split
  · decide
  · intro h
    have := o.pg 32 h
    omega
theorem Stp.Ok.parts {s : Stp} (o : s.Ok) : ∀ p ∈ s.parts, 32 ∉ p ∧ p.length ≤ 20 := fun p hp => by
  unfold Stp.parts Stp.args at hp
  rcases List.mem_cons.mp hp with rfl | hp
  · have := cs_facts s.kd
    exact ⟨this.1, by omega⟩
  · rcases List.mem_append.mp hp with h | h
    · split at h
      · rw [List.mem_singleton.mp h]
        exact ⟨o.numT.2, by have := o.numT.1; omega⟩
      · cases h
    · split at h
      · rw [List.mem_singleton.mp h]
        exact ⟨o.shw.2, o.shw.1⟩
      · cases h
theorem joinL_len : ∀ {ps : List (List Nat)}, (∀ p ∈ ps, p.length ≤ 20) → (TL.joinL [32] ps).length ≤ ps.length * 21
  | [], _ => Nat.zero_le _
  | [p], h => by
    have := h p (List.mem_cons_self ..)
    show p.length ≤ 1 * 21
    omega
  | p :: q :: r, h => by
    have h1 := h p (List.mem_cons_self ..)
    have h2 := joinL_len (ps := q :: r) fun x hx => h x (List.mem_cons_of_mem _ hx)
    show (p ++ ([32] ++ TL.joinL [32] (q :: r))).length ≤ (r.length + 1 + 1) * 21
    have h3 : (q :: r).length = r.length + 1 := rfl
    rw [h3] at h2
    rw [List.length_append, List.length_append]
    show p.length + (1 + _) ≤ _
    omega
theorem args_len (s : Stp) : s.args.length = s.kd.form.length ∧ s.args.length ≤ 2 := by
  unfold Stp.args Kd.form
  cases s.kd.hasN <;> cases s.kd.hasP <;> exact ⟨rfl, by first | exact (show 0 ≤ 2 by decide) | exact (show 1 ≤ 2 by decide) | exact (show 2 ≤ 2 by decide)⟩
theorem Stp.Ok.split {s : Stp} (o : s.Ok) : Txt.split (SX.S s.line) " " = s.parts.map SX.S := by
  rw [show (" " : Str) = SX.S [32] by decide +kernel, SX.split_S (by decide) (by decide)]
  unfold Stp.line
  rw [SX.spl_join (c := 32) (sep := []) (parts := s.parts) (List.cons_ne_nil _ _) fun p hp => (o.parts p hp).1]
theorem Stp.Ok.line_len {s : Stp} (o : s.Ok) : s.line.length ≤ 100 := by
  have h := joinL_len (ps := s.parts) fun p hp => (o.parts p hp).2
  have h2 := (args_len s).2
  have h3 : s.parts.length = s.args.length + 1 := rfl
  rw [h3] at h
  show (TL.joinL [32] s.parts).length ≤ 100
  omega
theorem form_at (T : Tx w K mg) (k : Kd) : ∃ a, PySem.W.nsIn K (He.ga K "FORMS") k.nm = some (some (.ref a)) ∧ ∀ H, SqT K H a k.form := by
  cases k
  · exact T.f_put
  · exact T.f_insert
  · exact T.f_set
  · exact T.f_find
  · exact T.f_take
  · exact T.f_lose
  · exact T.f_bound
  · exact T.f_mark
  · exact T.f_tear
/-- what stands at place i of the form and of the line's arguments -/
theorem arg_at {s : Stp} {i : Nat} {x : V} {y : List Nat} (hx : s.kd.form[i]? = some x) (hy : s.args[i]? = some y) :
    (x = .str "number" ∧ y = numT s.num ∧ s.kd.hasN = true ∧ i = 0) ∨ (x = .str "page" ∧ y = shw s.page ∧ s.kd.hasP = true ∧ i = s.kd.hasN.toNat ∧ i + 1 = s.kd.form.length) := by
  unfold Kd.form at hx ⊢
  unfold Stp.args at hy
  cases hN : s.kd.hasN <;> cases hP : s.kd.hasP <;> rw [hN, hP] at hx hy
  · cases hx
  · match i, hx, hy with
    | 0, hx, hy => exact .inr ⟨(Option.some.inj hx).symm, (Option.some.inj hy).symm, rfl, rfl, rfl⟩
    | n + 1, hx, hy => cases hx
  · match i, hx, hy with
    | 0, hx, hy => exact .inl ⟨(Option.some.inj hx).symm, (Option.some.inj hy).symm, rfl, rfl⟩
    | n + 1, hx, hy => cases hx
  · match i, hx, hy with
    | 0, hx, hy => exact .inl ⟨(Option.some.inj hx).symm, (Option.some.inj hy).symm, rfl, rfl⟩
    | 1, hx, hy => exact .inr ⟨(Option.some.inj hx).symm, (Option.some.inj hy).symm, rfl, rfl, rfl⟩
    | n + 2, hx, hy => cases hx
def Stp.numV (s : Stp) : V := if s.kd.hasN then .int s.num else .non
def Stp.pgV (s : Stp) : V := if s.kd.hasP then .str (SX.S s.page) else .non
theorem shw_back {s : Stp} (o : s.Ok) : (if shw s.page = [45] then [] else shw s.page) = s.page := by
  unfold shw
  by_cases h : s.page = []
  · rw [if_pos h, if_pos rfl, h]
  · rw [if_neg h, if_neg]
    intro z
    have := o.pg 45 (by rw [z]; exact List.mem_cons_self ..)
    omega
theorem numS : ("number" : Str) ≠ "page" := by decide +kernel
def sp_deed_of (K : Fr) : Sp := fun vs H Q _ => ∃ v, vs = [v] ∧ ∃ s : Stp, s.Ok ∧ v = .str (SX.S s.line) ∧ ((s.kd.hasN = true ∧ s.num < 0) → RetV .non H Q) ∧ (¬ (s.kd.hasN = true ∧ s.num < 0) → ∀ t H', H t = none → Ex H H' → H' t = some (.tup [.str s.kd.nm, s.numV, s.pgV]) → Q (.ref t) H')
theorem ok_deed_of (T : Tx w K mg) : FnOk P w K mg base CX0 2 (a_deed_of K) (fdOf K (a_deed_of K)) ["line"] (sp_deed_of K) := by
  refine (T.d_deed_of).ok sc_deed_of (fun vs H Q E h => ?_) (fun cdv A outer s H vs Q E hr h => ?_)
  · obtain ⟨_, rfl, _⟩ := h
    rfl
  obtain ⟨es, nn, D⟩ := T.forms
  refine ⟨_, PSs.nox (pss_cons (ps_set (i := 1) sc_deed_of.nd rfl (Or.inl rfl) (pe_bm PySem.F.plainAttrs_str PySem.F.slot_str_split PySem.F.type_str_split mt_split (pv 0) (pa_cons pe_str pa_nil)))
      (pss_cons (ps_if (pt_cmpR (op_notIn_kd D) (pe_ix ix_list (pv 1) pe_int (fun _ _ => rfl)) (pe_gR T.g_FORMS) (by first | exact nomark _ | rfl))
      (pss_one (ps_ret pe_non))
      pss_nil)
      (pss_cons (ps_set (i := 2) sc_deed_of.nd rfl (Or.inl rfl) (pe_ix ix_kdict (pe_gR T.g_FORMS) (pe_ix ix_list (pv 1) pe_int (fun _ _ => rfl)) (fun _ _ => rfl)))
      (pss_cons (ps_if (pt_cmpR op_ne (pe_callB call_len (by rfl) T.z_len (by decide +kernel) (pa_cons (pv 1) pa_nil)) (pe_op op_add (pe_callB call_len (by rfl) T.z_len (by decide +kernel) (pa_cons (pv 2) pa_nil)) pe_int) (by first | exact nomark _ | rfl))
      (pss_one (ps_ret pe_non))
      pss_nil)
      (pss_cons (ps_set (i := 3) sc_deed_of.nd rfl (Or.inl rfl) pe_non)
      (pss_cons (ps_set (i := 4) sc_deed_of.nd rfl (Or.inl rfl) pe_non)
      (pss_cons (ps_for PassesOwn.never rfl (pi_zipM rfl T.z_zip (pa_cons (pv 2) (pa_cons (pe_slice sl_list (pv 1) (po_some pe_int) po_none) pa_nil))) (pg_tup rfl (pgs_cons (pg_name (i := 5) sc_deed_of.nd rfl (Or.inl rfl)) (pgs_cons (pg_name (i := 6) sc_deed_of.nd rfl (Or.inl rfl)) pgs_nil)))
      (pss_one (ps_if (pt_cmpR op_eq (pv 5) pe_str (by first | exact nomark _ | rfl))
        (pss_cons (ps_if (pt_not (pt_val (pe_call (ok_is_number T) (hr.mono (by decide)) rfl T.g_is_number T.d_is_number.kp T.b_is_number .nil pass0 (pa_cons (pv 6) pa_nil))))
          (pss_one (ps_ret pe_non))
          pss_nil)
          (pss_one (ps_set (i := 3) sc_deed_of.nd rfl (Or.inl rfl) (pe_callTy call_int_str (by rfl) T.z_int (by decide +kernel) (pa_cons (pv 6) pa_nil)))))
        (pss_cons (ps_if (pt_cmpR op_eq (pv 6) pe_str (by first | exact nomark _ | rfl))
          (pss_one (ps_ret pe_non))
          pss_nil)
          (pss_one (ps_set (i := 4) sc_deed_of.nd rfl (Or.inl rfl) (pe_call (ok_page_of_word T) (hr.mono (by decide)) rfl T.g_page_of_word T.d_page_of_word.kp T.b_page_of_word .nil pass0 (pa_cons (pv 6) pa_nil))))))))
      (pss_one (ps_ret (pe_tup (pa_cons (pe_ix ix_list (pv 1) pe_int (fun _ _ => rfl)) (pa_cons (pv 3) (pa_cons (pv 4) pa_nil))))))))))))), ?_⟩
  obtain ⟨v, rfl, s, o, rfl, kN, kT⟩ := h
  obtain ⟨fa, hf1, hfT⟩ := form_at T s.kd
  have al := args_len s
  have hlen : ((s.parts.map SX.S).map V.str).length = s.args.length + 1 := by rw [List.length_map, List.length_map]; rfl
  have h0 : ((s.parts.map SX.S).map V.str)[0]? = some (.str s.kd.nm) := by
    show some (V.str (SX.S s.kd.cs)) = _
    rw [Kd.S_cs]
  walk_at "s"
  refine ⟨by decide +kernel, by rw [SX.S_len]; have := o.line_len; exact sz_of (by omega), ?_⟩
  rw [o.split]
  intro ws nws; generalize hEws : upd _ ws _ = H1; have eH1 := exN nws hEws; have hws := atN hEws; clear hEws
  walk_at "s"
  refine go_ixL (by walk_at "seq") (show atI _ ((0 : Nat) : Int) = _ from atI_nat h0) ?_
  walk_at "s"
  refine ⟨_, _, rfl, rfl, hf1, ?_⟩
  refine ⟨true && false, rfl, ?_⟩
  refine iteF ?_
  walk_at "s"
  refine go_ixL (by walk_at "seq") (show atI _ ((0 : Nat) : Int) = _ from atI_nat h0) ?_
  have hk : KDct K w (He.ga K "FORMS") s.kd.nm (.ref fa) := ⟨es, nn, _, D.at_, D.lit, hf1, rfl⟩
  refine ⟨_, _, _, rfl, rfl, hk, ?_⟩
  walk_at "p"
  refine go_var (v := .ref ws) rfl ?_
  walk_at "p"
  refine ⟨_, _, rfl, .inl ⟨_, sq_of hws, rfl⟩, ?_⟩
  walk_at "p"
  refine go_var (v := .ref fa) rfl ?_
  walk_at "p"
  refine ⟨_, _, rfl, .inr ⟨_, hfT _, rfl⟩, ?_⟩
  walk_at "s"
  refine iteNS (by rw [hlen, al.1]; rfl) ?_
  walk_at "s"
  refine go_slL (by walk_at "seq") ?_
  intro m nm; generalize hEm : upd _ m _ = H2; have eH2 := exN nm hEm; have hm := atN hEm; clear hEm
  have hm2 : H2 m = some (.lst ((s.args.map SX.S).map V.str)) := hm.trans (congrArg (fun z => some (HO.lst z)) (show cutV _ (some ((1 : Nat) : Int)) none = _ from cut_from.trans rfl))
  walk_at "s"
  refine ⟨_, _, _, _, rfl, hfT _, sq_of hm2, ?_⟩
  refine for_zipM (xs := s.kd.form) (ys := (s.args.map SX.S).map V.str) (by rw [List.length_map, List.length_map, al.1]) (fun i σ H' => Ex H2 H' ∧ (s.kd.hasN = true → 1 ≤ i → 0 ≤ s.num) ∧ ∃ v5 v6, σ = [some (.str (SX.S s.line)), some (.ref ws), some (.ref fa), some (if s.kd.hasN = true ∧ 1 ≤ i then .int s.num else .non), some (if s.kd.hasP = true ∧ i = s.kd.form.length then .str (SX.S s.page) else .non), v5, v6])
    ⟨Ex.refl _, fun _ h => absurd h (by decide), none, none, ?_⟩ (fun i σ H' p => ⟨hfT _, sq_of (p.1 _ _ hm2)⟩) ?_ ?_
  · rw [if_neg (fun z => absurd z.2 (by decide)), if_neg (fun z => by
      have h1 := z.2
      have h2 := z.1
      unfold Kd.form at h1
      rw [h2, List.length_append] at h1
      have h3 : (if true = true then [V.str "page"] else []).length = 1 := rfl
      omega)]
    rfl
  · rintro i x y σ H' hx hy ⟨e3, hpos, v5, v6, rfl⟩
    rw [List.map_map, List.getElem?_map] at hy
    obtain ⟨q, hq, rfl⟩ := Option.map_eq_some_iff.mp hy
    intro T2 nT2; generalize hET2 : upd _ T2 _ = H3; have eH3 := exN nT2 hET2; have hT2 := atN hET2; clear hET2
    rcases arg_at hx hq with ⟨rfl, rfl, hN, rfl⟩ | ⟨rfl, rfl, hP, hi, hi1⟩
    · walk_at "s"
      refine iteYes rfl ?_
      walk_at "s"
      refine ⟨_, rfl, numT s.num, rfl, by have := o.numT.1; omega, fun H4 e4 => ?_⟩
      have ex4 : Ex H H4 := (((eH1.trans eH2).trans e3).trans eH3).trans e4
      walk_at "s"
      by_cases hneg : s.num < 0
      · have en : isNum (numT s.num) = false := by
          rw [show s.num = -1 by have := o.lo; omega]
          exact neg_facts.1
        rw [en]
        walk_at "s"
        exact kN ⟨hN, hneg⟩ H4 ex4
      · obtain ⟨n, hn⟩ := Int.eq_ofNat_of_zero_le (show 0 ≤ s.num by omega)
        have hi := o.hi
        have f := num_facts n (by omega)
        rw [← hn] at f
        rw [f.1]
        walk_at "s"
        refine ⟨_, s.num, rfl, by rw [S_numT]; exact f.2.2.2, by rw [SX.S_len]; omega, ?_⟩
        walk_at "s"
        refine ⟨(e3.trans eH3).trans e4, fun _ _ => by omega, some (.str "number"), some (.str (SX.S (numT s.num))), ?_⟩
        rw [if_pos (show s.kd.hasN = true ∧ 1 ≤ 0 + 1 from ⟨hN, by decide⟩)]
        have e1 : (if s.kd.hasP = true ∧ 0 = s.kd.form.length then V.str (SX.S s.page) else .non) = (if s.kd.hasP = true ∧ 0 + 1 = s.kd.form.length then V.str (SX.S s.page) else .non) := by
          rw [if_neg (fun z => by have := z.2; have := (List.getElem?_eq_some_iff.mp hx).1; omega), if_neg (fun z => by
            have h1 := z.2
            unfold Kd.form at h1
            rw [hN, z.1, List.length_append] at h1
            have h3 : (if true = true then [V.str "page"] else []).length = 1 := rfl
            have h4 : (if true = true then [V.str "number"] else []).length = 1 := rfl
            omega)]
        rw [e1]
        rfl
    · walk_at "s"
      refine iteNo (fun z => numS (V.str.inj z).symm) ?_
      walk_at "s"
      rw [empty_eq]
      have hne : shw s.page ≠ [] := by
        unfold shw
        split
        · exact List.cons_ne_nil _ _
        · assumption
      refine iteNo (fun z => hne (SX.S_inj (V.str.inj z))) ?_
      walk_at "s"
      refine ⟨_, rfl, shw s.page, rfl, ?_⟩
      rw [shw_back o]
      walk_at "s"
      refine ⟨e3.trans eH3, fun hN _ => hpos hN (by rw [hi, hN]; decide), some (.str "page"), some (.str (SX.S (shw s.page))), ?_⟩
      rw [if_pos (show s.kd.hasP = true ∧ i + 1 = s.kd.form.length from ⟨hP, hi1⟩)]
      have e1 : (if s.kd.hasN = true ∧ 1 ≤ i then V.int s.num else .non) = (if s.kd.hasN = true ∧ 1 ≤ i + 1 then V.int s.num else .non) := by
        cases hN : s.kd.hasN with
        | true => rw [if_pos ⟨rfl, by rw [hi, hN]; decide⟩, if_pos ⟨rfl, by omega⟩]
        | false => rw [if_neg (fun z => nomatch z.1), if_neg (fun z => nomatch z.1)]
      rw [e1]
      rfl
  · rintro σ H' ⟨e3, hpos, v5, v6, rfl⟩
    walk_at "s"
    refine go_ixL (by walk_at "seq") (show atI _ ((0 : Nat) : Int) = _ from atI_nat h0) ?_
    walk_at "s"
    intro t nt; generalize hEt : upd _ t _ = H4; have eH4 := exN nt hEt; have ht := atN hEt; clear hEt
    have hl1 : s.kd.hasN = true → 1 ≤ s.kd.form.length := fun h => by
      unfold Kd.form
      rw [h, List.length_append]
      exact Nat.le_add_right 1 _
    have ok : ¬ (s.kd.hasN = true ∧ s.num < 0) := fun z => by
      have := hpos z.1 (hl1 z.1)
      have := z.2
      omega
    refine kT ok t H4 (fresh_back ((eH1.trans eH2).trans e3) nt) (((eH1.trans eH2).trans e3).trans eH4) ?_
    rw [ht]
    congr 3
    have a1 : (if s.kd.hasN = true ∧ 1 ≤ s.kd.form.length then V.int s.num else .non) = s.numV := by
      unfold Stp.numV
      by_cases h : s.kd.hasN = true
      · rw [if_pos ⟨h, hl1 h⟩, if_pos h]
      · rw [if_neg (fun z => h z.1), if_neg h]
    have a2 : (if s.kd.hasP = true ∧ s.kd.form.length = s.kd.form.length then V.str (SX.S s.page) else .non) = s.pgV := by
      unfold Stp.pgV
      by_cases h : s.kd.hasP = true
      · rw [if_pos ⟨h, rfl⟩, if_pos h]
      · rw [if_neg (fun z => h z.1), if_neg h]
    rw [a1, a2]
/-! W19 -/

noncomputable def Acc.next (W : Wd) (A : Acc) (s : Stp) : Option Acc := match s.kd with
  | .put => A.ins W A.rows.length s.page
  | .insert => A.ins W s.num s.page
  | .set => A.setp W s.num s.page
  | .take => A.takep s.num
  | .lose => A.losep s.num
  | .find => A.findp W s.num s.page
  | .mark => A.markp W
  | .tear => A.tearp
  | .bound => A.bndp s.num
theorem mc_yes {x z : Str} {tb : TS} {tr : TMc} {D : Ends} {σ : L2.St} {H : Hp} (e : z = x) (h : tb D σ H) : mCase x tb tr (.str z) D σ H := ⟨z, rfl, by rw [if_pos e]; exact h⟩
theorem mc_no {x z : Str} {k : Kd} {tb : TS} {tr : TMc} {D : Ends} {σ : L2.St} {H : Hp} (e : z = k.nm) (n : k.nm ≠ x) (h : tr (.str z) D σ H) : mCase x tb tr (.str z) D σ H := ⟨z, rfl, by rw [if_neg (e ▸ n)]; exact h⟩
theorem go_setOwn {C : Addr} {sp : Sp} {E : XK} {o i v : V} {H : Hp} {Q : Hp → Prop} (h : ∃ a dx fs, o = .ref a ∧ H a = some (.ins C dx fs) ∧ sp [.ref a, i, v] H (fun _ H' => Q H') E) : rSetOwn C sp E o i v H Q := h
def sp_carry_out (K : Fr) : Sp := fun vs H Q E => ∃ (dk t : Addr), vs = [.ref dk, .ref t] ∧ ∃ s : Stp, s.Ok ∧ SqT K H t [.str s.kd.nm, s.numV, s.pgV] ∧ ∃ (G : Hp) (W : Wd) (A : Acc) (past : List Acc), W.Ok ∧ DeskAt K G H dk W A past ∧ AccOk W A ∧ past.length ≤ 1000 ∧
  OpQ K G H dk W A past (A.next W s) (fun H' => Q .non H') E
local macro_rules | `(tactic| walk_at "mc") => `(tactic| repeat first | with_reducible refine mc_yes (by with_unfolding_all exact rfl) ?_ | with_reducible refine mc_no (k := .put) (by with_unfolding_all exact rfl) (by with_unfolding_all decide +kernel) ?_ | with_reducible refine mc_no (k := .insert) (by with_unfolding_all exact rfl) (by with_unfolding_all decide +kernel) ?_ | with_reducible refine mc_no (k := .set) (by with_unfolding_all exact rfl) (by with_unfolding_all decide +kernel) ?_ | with_reducible refine mc_no (k := .take) (by with_unfolding_all exact rfl) (by with_unfolding_all decide +kernel) ?_ | with_reducible refine mc_no (k := .lose) (by with_unfolding_all exact rfl) (by with_unfolding_all decide +kernel) ?_ | with_reducible refine mc_no (k := .find) (by with_unfolding_all exact rfl) (by with_unfolding_all decide +kernel) ?_ | with_reducible refine mc_no (k := .mark) (by with_unfolding_all exact rfl) (by with_unfolding_all decide +kernel) ?_ | with_reducible refine mc_no (k := .tear) (by with_unfolding_all exact rfl) (by with_unfolding_all decide +kernel) ?_ | with_reducible refine mc_no (k := .bound) (by with_unfolding_all exact rfl) (by with_unfolding_all decide +kernel) ?_)
theorem ok_carry_out (T : Tx w K mg) : FnOk P w K mg base (L2N.CX P w) 9 (a_carry_out K) (fdOf K (a_carry_out K)) ["desk", "deed"] (sp_carry_out K) := by
  refine (T.d_carry_out).ok sc_carry_out (fun vs H Q E h => ?_) (fun cdv A outer s H vs Q E hr h => ?_)
  · obtain ⟨_, _, rfl, _⟩ := h
    rfl
  refine ⟨_, (pss_cons (ps_asg (pv 1) (pg_tup rfl (pgs_cons (pg_name (i := 2) sc_carry_out.nd rfl (Or.inl rfl)) (pgs_cons (pg_name (i := 3) sc_carry_out.nd rfl (Or.inl rfl)) (pgs_cons (pg_name (i := 4) sc_carry_out.nd rfl (Or.inl rfl)) pgs_nil)))))
      (pss_one (ps_match (pv 2) (pm_case (pss_one (ps_expr (pe_meth (pv 0) T.cl_Desk T.m_Desk_put (ok_Desk_put T) (hr.mono (by decide)) T.b_Desk_put .nil (L2N.passes_call (L2N.takes_of rfl rfl rfl rfl) (fun _ _ _ _ h => h)) (pa_cons (pv 4) pa_nil))))
      (pm_case (pss_one (ps_expr (pe_meth (pv 0) T.cl_Desk T.m_Desk_insert (ok_Desk_insert T) (hr.mono (by decide)) T.b_Desk_insert .nil (L2N.passes_call (L2N.takes_of rfl rfl rfl rfl) (fun _ _ _ _ h => h)) (pa_cons (pv 3) (pa_cons (pv 4) pa_nil)))))
      (pm_case (pss_one (ps_asg (pv 4) (pg_sub (pv 0) (pv 3) (set_own T.m_Desk_setitem T.nq_Desk (ok_Desk_setitem T) (hr.mono (by decide)) T.b_Desk_setitem (L2N.passes_call (L2N.takes_of rfl rfl rfl rfl) (fun _ _ _ _ h => h))))))
      (pm_case (pss_one (ps_expr (pe_meth (pv 0) T.cl_Desk T.m_Desk_take (ok_Desk_take T) (hr.mono (by decide)) T.b_Desk_take .nil (L2N.passes_call (L2N.takes_of rfl rfl rfl rfl) (fun _ _ _ _ h => h)) (pa_cons (pv 3) pa_nil))))
      (pm_case (pss_one (ps_expr (pe_meth (pv 0) T.cl_Desk T.m_Desk_lose (ok_Desk_lose T) (hr.mono (by decide)) T.b_Desk_lose .nil (L2N.passes_call (L2N.takes_of rfl rfl rfl rfl) (fun _ _ _ _ h => h)) (pa_cons (pv 3) pa_nil))))
      (pm_case (pss_one (ps_expr (pe_meth (pv 0) T.cl_Desk T.m_Desk_find (ok_Desk_find T) (hr.mono (by decide)) T.b_Desk_find .nil (L2N.passes_call (L2N.takes_of rfl rfl rfl rfl) (fun _ _ _ _ h => h)) (pa_cons (pv 3) (pa_cons (pv 4) pa_nil)))))
      (pm_case (pss_one (ps_expr (pe_meth0 (pv 0) T.cl_Desk T.m_Desk_mark (ok_Desk_mark T) (hr.mono (by decide)) T.b_Desk_mark .nil (L2N.passes_call (L2N.takes_of rfl rfl rfl rfl) (fun _ _ _ _ h => h)))))
      (pm_case (pss_one (ps_expr (pe_meth0 (pv 0) T.cl_Desk T.m_Desk_tear (ok_Desk_tear T) (hr.mono (by decide)) T.b_Desk_tear .nil (L2N.passes_call (L2N.takes_of rfl rfl rfl rfl) (fun _ _ _ _ h => h)))))
      (pm_case (pss_one (ps_expr (pe_meth (pv 0) T.cl_Desk T.m_Desk_change_bound (ok_Desk_change_bound T) (hr.mono (by decide)) T.b_Desk_change_bound .nil (L2N.passes_call (L2N.takes_of rfl rfl rfl rfl) (fun _ _ _ _ h => h)) (pa_cons (pv 3) pa_nil))))
      pm_nil)))))))))))), ?_⟩
  obtain ⟨dk, t, rfl, s, so, ht, G, W, A, past, O, ⟨dx, c, st, pt, D⟩, ok, hpl, kq⟩ := h
  have hd := D.at_
  have hl := so.len
  obtain ⟨kd, num, page⟩ := s
  have hl2 : page.length ≤ 100 := Nat.le_trans hl (by decide)
  walk_at "s"
  cases kd
  · walk_at "mc"
    walk_at "s"
    refine ⟨_, _, _, rfl, hd, dkNo (by decide +kernel) (by decide +kernel) (by decide +kernel), ?_⟩
    walk_at "s"
    exact ⟨dk, page, rfl, hl2, G, W, A, past, O, ⟨dx, c, st, pt, D⟩, ok, hpl, kq⟩
  · walk_at "mc"
    walk_at "s"
    refine ⟨_, _, _, rfl, hd, dkNo (by decide +kernel) (by decide +kernel) (by decide +kernel), ?_⟩
    walk_at "s"
    exact ⟨dk, num, page, rfl, hl2, G, W, A, past, O, ⟨dx, c, st, pt, D⟩, ok, hpl, kq⟩
  · walk_at "mc"
    walk_at "s"
    refine go_setOwn ⟨dk, _, _, rfl, hd, ?_⟩
    exact ⟨dk, num, page, rfl, hl2, G, W, A, past, O, ⟨dx, c, st, pt, D⟩, ok, hpl, kq⟩
  · walk_at "mc"
    walk_at "s"
    refine ⟨_, _, _, rfl, hd, dkNo (by decide +kernel) (by decide +kernel) (by decide +kernel), ?_⟩
    walk_at "s"
    exact ⟨dk, num, page, rfl, hl2, G, W, A, past, O, ⟨dx, c, st, pt, D⟩, ok, hpl, kq⟩
  · walk_at "mc"
    walk_at "s"
    refine ⟨_, _, _, rfl, hd, dkNo (by decide +kernel) (by decide +kernel) (by decide +kernel), ?_⟩
    walk_at "s"
    exact ⟨dk, num, rfl, G, W, A, past, ⟨dx, c, st, pt, D⟩, ok, hpl, fun A1 G1 H1 e g f D1 _ => kq.1 A1 G1 H1 e g f D1, kq.2⟩
  · walk_at "mc"
    walk_at "s"
    refine ⟨_, _, _, rfl, hd, dkNo (by decide +kernel) (by decide +kernel) (by decide +kernel), ?_⟩
    walk_at "s"
    exact ⟨dk, num, rfl, G, W, A, past, ⟨dx, c, st, pt, D⟩, ok, hpl, kq⟩
  · walk_at "mc"
    walk_at "s"
    refine ⟨_, _, _, rfl, hd, dkNo (by decide +kernel) (by decide +kernel) (by decide +kernel), ?_⟩
    walk_at "s"
    exact ⟨dk, num, rfl, G, W, A, past, ⟨dx, c, st, pt, D⟩, ok, hpl, kq⟩
  · walk_at "mc"
    walk_at "s"
    refine ⟨_, _, _, rfl, hd, dkNo (by decide +kernel) (by decide +kernel) (by decide +kernel), ?_⟩
    walk_at "s"
    exact ⟨dk, rfl, G, W, A, past, O, ⟨dx, c, st, pt, D⟩, ok, hpl, kq⟩
  · walk_at "mc"
    walk_at "s"
    refine ⟨_, _, _, rfl, hd, dkNo (by decide +kernel) (by decide +kernel) (by decide +kernel), ?_⟩
    walk_at "s"
    exact ⟨dk, rfl, G, W, A, past, ⟨dx, c, st, pt, D⟩, ok, hpl, kq⟩
/-! W20 -/

theorem no1 {a b : Addr} (h : b ≠ a) : b ∉ [a] := fun m => by
  rcases List.mem_cons.mp m with z | m
  · exact h z
  · cases m
theorem frm1 {G H H' : Hp} {x : Addr} (f : Frm [x] H H') (e : Ex G H) (n : G x = none) : Ex G H' := frm_none f e fun a m => by
  rcases List.mem_cons.mp m with rfl | m
  · exact n
  · cases m
theorem gr1 {G H H' : Hp} {x : Addr} (e : Ex G H) (f : Frm [x] H H') (n : G x = none) (d : H' x ≠ none) : Gr G H (ext G H H') H' := Gr.of (S := [x]) e f (fun a m => by
  rcases List.mem_cons.mp m with rfl | m
  · exact n
  · cases m) fun a m _ => by
  rcases List.mem_cons.mp m with rfl | m
  · exact d
  · cases m
def sp_Trial_init (K : Fr) : Sp := fun vs H Q _ => ∃ (x dk : Addr), vs = [.ref x, .ref dk] ∧ ∃ (G : Hp) (dx dxd : Addr) (c : V) (st pt : Addr) (ss : List Addr), Ex G H ∧ G x = none ∧ x ≠ dk ∧ H x = some (.ins (He.ga K "Trial") dx []) ∧ H dk = some (.ins (He.ga K "Desk") dxd (dkF c (.ref st) (.ref pt))) ∧ SqT K G pt (ss.map V.ref) ∧ ss.length ≤ 1000 ∧
  ∀ p H', H p = none → H' p = some (.tup ((ss ++ [st]).map V.ref)) → H' x = some (.ins (He.ga K "Trial") dx (trF (.ref dk) (.ref st) (.ref pt) (.ref p))) → Frm [x] H H' → Q .non H'
theorem ok_Trial_init (T : Tx w K mg) : FnOk P w K mg base CX0 1 (a_Trial_init K) (fdOf K (a_Trial_init K)) ["self", "desk"] (sp_Trial_init K) := by
  refine (T.d_Trial_init).ok sc_Trial_init (fun vs H Q E h => ?_) (fun cdv A outer s H vs Q E hr h => ?_)
  · obtain ⟨_, _, rfl, _⟩ := h
    rfl
  refine ⟨_, PSs.nox (pss_cons (ps_fld (pv 0) (pv 1) rfl)
      (pss_cons (ps_fld (pv 0) (pe_fld (pv 1) rfl) rfl)
      (pss_cons (ps_fld (pv 0) (pe_fld (pv 1) rfl) rfl)
      (pss_one (ps_fld (pv 0) (pe_op op_catA (pe_fld (pv 1) rfl) (pe_tup (pa_cons (pe_fld (pv 1) rfl) pa_nil))) rfl))))), ?_⟩
  obtain ⟨x, dk, rfl, G, dx, dxd, c, st, pt, ss, hG, nGx, nxd, hx, hd, hss, hl, k⟩ := h
  have nd : dk ≠ x := Ne.symm nxd
  walk_at "s"
  refine ⟨_, _, _, _, rfl, hx, T.cl_Trial, T.n_Trial_desk, (by decide), ?_⟩
  generalize hEH1 : upd _ x _ = H1; have fH1 := frmP hEH1; have aH1 := atN hEH1; clear hEH1
  have d1 := fH1 _ _ (no1 nd) hd
  rw [put1] at aH1
  walk_at "s"
  refine ⟨_, _, _, _, _, rfl, (by walk_at "fact"), T.cl_Desk, T.n_Desk_now, dk2, ?_⟩
  walk_at "s"
  refine ⟨_, _, _, _, rfl, aH1, T.cl_Trial, T.n_Trial_state, (by exact (show 1 < 1000 by decide)), ?_⟩
  generalize hEH2 : upd _ x _ = H2; have fH2 := frmP hEH2; have aH2 := atN hEH2; clear hEH2
  have d2 := fH2 _ _ (no1 nd) d1
  rw [puN (by decide +kernel) put1] at aH2
  walk_at "s"
  refine ⟨_, _, _, _, _, rfl, (by walk_at "fact"), T.cl_Desk, T.n_Desk_past, dk3, ?_⟩
  walk_at "s"
  refine ⟨_, _, _, _, rfl, aH2, T.cl_Trial, T.n_Trial_steps, (by exact (show 2 < 1000 by decide)), ?_⟩
  generalize hEH3 : upd _ x _ = H3; have fH3 := frmP hEH3; have aH3 := atN hEH3; clear hEH3
  have d3 := fH3 _ _ (no1 nd) d2
  rw [puN (by decide +kernel) (puN (by decide +kernel) put1)] at aH3
  walk_at "s"
  refine ⟨_, _, _, _, _, rfl, (by walk_at "fact"), T.cl_Desk, T.n_Desk_past, dk3, ?_⟩
  walk_at "s"
  refine ⟨_, _, _, _, _, rfl, (by walk_at "fact"), T.cl_Desk, T.n_Desk_now, dk2, ?_⟩
  walk_at "s"
  intro t1 nt1; generalize hEt1 : upd _ t1 _ = H4; have eH4 := exN nt1 hEt1; have ht1 := atN hEt1; clear hEt1
  have f3 : Frm [x] H H3 := (fH1.trans fH2).trans fH3
  have g3 : Ex G H3 := frm1 f3 hG nGx
  refine go_catA (xs := ss.map V.ref) (ex_t (g3.trans eH4) hss) ht1 (List.cons_ne_nil _ _) (by rw [List.length_map]; show ss.length + 1 ≤ _; omega) fun p H5 e5 hp hpn => ?_
  have np3 : H3 p = none := by
    rcases hpn with rfl | h
    · exact nt1
    · exact fresh_back eH4 h
  walk_at "s"
  refine ⟨_, _, _, _, rfl, e5 _ _ (eH4 _ _ aH3), T.cl_Trial, T.n_Trial_one_step_more, (by exact (show 3 < 1000 by decide)), ?_⟩
  generalize hEH6 : upd _ x _ = H6; have fH6 := frmP hEH6; have aH6 := atN hEH6; clear hEH6
  rw [puN (by decide +kernel) (puN (by decide +kernel) (puN (by decide +kernel) put1))] at aH6
  have npx : p ≠ x := fun z => by rw [z, aH3] at np3; cases np3
  have npH : H p = none := by
    cases q : H p with
    | none => rfl
    | some o =>
      have := f3 p o (no1 npx) q
      rw [np3] at this
      cases this
  refine k p H6 npH ?_ aH6 ((f3.trans (Ex.frm (eH4.trans e5))).trans fH6)
  rw [fH6 p _ (no1 npx) hp, List.map_append]
  rfl
def sp_Trial_enter (K : Fr) : Sp := fun vs H Q _ => ∃ v, vs = [v] ∧ Q v H
theorem ok_Trial_enter (T : Tx w K mg) : FnOk P w K mg base CX0 1 (a_Trial_enter K) (fdOf K (a_Trial_enter K)) ["self"] (sp_Trial_enter K) := by
  refine (T.d_Trial_enter).ok sc_Trial_enter (fun vs H Q E h => ?_) (fun cdv A outer s H vs Q E hr h => ?_)
  · obtain ⟨_, rfl, _⟩ := h
    rfl
  refine ⟨_, PSs.nox (pss_one (ps_ret (pv 0))), ?_⟩
  obtain ⟨v, rfl, k⟩ := h
  walk_at "s"
  exact k
def sp_Trial_exit (K : Fr) : Sp := fun vs H Q _ => ∃ (x : Addr) (kd b t : V), vs = [.ref x, kd, b, t] ∧ ∃ (dx dk dxd : Addr) (c n q sv pv ov : V), H x = some (.ins (He.ga K "Trial") dx (trF (.ref dk) sv pv ov)) ∧ H dk = some (.ins (He.ga K "Desk") dxd (dkF c n q)) ∧ x ≠ dk ∧
  ((kd = .non ∧ ∀ H', H' dk = some (.ins (He.ga K "Desk") dxd (dkF c n ov)) → Frm [dk] H H' → Q .non H') ∨ ((∃ C, kd = .ref C) ∧ ∀ H', H' dk = some (.ins (He.ga K "Desk") dxd (dkF c sv pv)) → Frm [dk] H H' → Q .non H'))
theorem q_Trial_exit (T : Tx w K mg) : FnQ P w K mg base 1 (a_Trial_exit K) (fdOf K (a_Trial_exit K)) ["self", "kind", "value", "trace"] (sp_Trial_exit K) := by
  refine fnq_of T.d_Trial_exit sc_Trial_exit (fun vs H Q E h => ?_) (fun cdv A outer s H vs Q E p hr h => ?_)
  · obtain ⟨_, _, _, _, rfl, _⟩ := h
    rfl
  refine ⟨_, (pss_one (ps_if (pt_cmpR op_isN (pv 1) pe_non (by first | exact nomark _ | rfl))
      (pss_one (ps_fld (pe_fld (pv 0) rfl) (pe_fld (pv 0) rfl) rfl))
      (pss_cons (ps_fld (pe_fld (pv 0) rfl) (pe_fld (pv 0) rfl) rfl)
        (pss_one (ps_fld (pe_fld (pv 0) rfl) (pe_fld (pv 0) rfl) rfl))))), ?_⟩
  obtain ⟨x, kd, b, t, rfl, dx, dk, dxd, c, n, q, sv, pv, ov, hx, hd, nxd, h⟩ := h
  walk_at "s"
  rcases h with ⟨rfl, k⟩ | ⟨⟨C, rfl⟩, k⟩
  · refine ⟨rfl, _, rfl, ?_⟩
    refine iteYes (c := V.non = V.non) rfl ?_
    walk_at "s"
    refine ⟨_, _, _, _, _, rfl, (by walk_at "fact"), T.cl_Trial, T.n_Trial_one_step_more, tr4, ?_⟩
    walk_at "s"
    refine ⟨_, _, _, _, _, rfl, (by walk_at "fact"), T.cl_Trial, T.n_Trial_desk, tr1, ?_⟩
    refine ⟨_, _, _, _, rfl, hd, T.cl_Desk, T.n_Desk_past, (by exact (show 3 < 1000 by decide)), ?_⟩
    generalize hEH1 : upd _ dk _ = H1; have fH1 := frmP hEH1; have aH1 := atN hEH1; clear hEH1
    rw [dkP3] at aH1
    exact k H1 aH1 fH1
  · refine ⟨rfl, _, rfl, ?_⟩
    refine iteNo (c := V.ref C = V.non) (fun z => V.noConfusion z) ?_
    walk_at "s"
    refine ⟨_, _, _, _, _, rfl, (by walk_at "fact"), T.cl_Trial, T.n_Trial_state, tr2, ?_⟩
    walk_at "s"
    refine ⟨_, _, _, _, _, rfl, (by walk_at "fact"), T.cl_Trial, T.n_Trial_desk, tr1, ?_⟩
    refine ⟨_, _, _, _, rfl, hd, T.cl_Desk, T.n_Desk_now, (by exact (show 3 < 1000 by decide)), ?_⟩
    generalize hEH1 : upd _ dk _ = H1; have fH1 := frmP hEH1; have aH1 := atN hEH1; clear hEH1
    rw [dkP2] at aH1
    have x1 := fH1 _ _ (no1 nxd) hx
    walk_at "s"
    refine ⟨_, _, _, _, _, rfl, (by walk_at "fact"), T.cl_Trial, T.n_Trial_steps, tr3, ?_⟩
    walk_at "s"
    refine ⟨_, _, _, _, _, rfl, (by walk_at "fact"), T.cl_Trial, T.n_Trial_desk, tr1, ?_⟩
    refine ⟨_, _, _, _, rfl, aH1, T.cl_Desk, T.n_Desk_past, (by exact (show 3 < 1000 by decide)), ?_⟩
    generalize hEH2 : upd _ dk _ = H2; have fH2 := frmP hEH2; have aH2 := atN hEH2; clear hEH2
    rw [dkP3] at aH2
    exact k H2 aH2 (fH1.trans fH2)
/-! W21 -/

/-! ### steps one behind another -/
theorem low_card {W : Wd} (O : W.Ok) {z : List Nat} (hg : W.good z) : Low (W.card z) := by
  refine ⟨?_, fun h hh => ?_⟩
  · unfold Wd.card
    rw [List.length_map, List.length_range]
    have := O.le
    omega
  · unfold Wd.card at hh
    obtain ⟨i, _, rfl⟩ := List.mem_map.mp hh
    have := O.hgt_ok hg (i : Int)
    omega
theorem tot_one (r : Pg) : Acc.tot [r] = r.size := by
  unfold Acc.tot
  rw [List.map_singleton, List.sum_singleton]
theorem tot_cut (rows : List Pg) (k : Nat) : Acc.tot (rows.take k) + Acc.tot (rows.drop k) = Acc.tot rows := by rw [← tot_app, List.take_append_drop]
theorem putAt_ok {W : Wd} {A A' : Acc} {k : Nat} {r : Pg} (ok : AccOk W A) (hr : ∀ z, r = .kn z → ∀ c ∈ z, c ∈ W.L) (h : A.putAt k r = some A') : AccOk W A' := by
  unfold Acc.putAt at h
  split at h
  · rename_i hc
    cases h
    refine ⟨?_, ?_, fun z hz c hc' => ?_, ok.card, ok.bnd⟩
    · show (insAt A.rows k r).length ≤ 8
      unfold insAt
      rw [List.length_append, List.length_append, List.length_take, List.length_drop]
      have := hc.1
      have := ok.bnd
      show _ + 1 + _ ≤ _
      omega
    · show Acc.tot (insAt A.rows k r) ≤ 16
      unfold insAt
      rw [tot_app, tot_app, tot_one]
      have := tot_cut A.rows k
      omega
    · have hz : Pg.kn z ∈ insAt A.rows k r := hz
      unfold insAt at hz
      rcases List.mem_append.mp hz with h | h
      · rcases List.mem_append.mp h with h | h
        · exact ok.let_ z (List.mem_of_mem_take h) c hc'
        · exact hr z (List.mem_singleton.mp h).symm c hc'
      · exact ok.let_ z (List.mem_of_mem_drop h) c hc'
  · cases h
theorem changeAt_ok {W : Wd} {A A' : Acc} {k : Nat} {r : Pg} (ok : AccOk W A) (hk : k < A.rows.length) (hr : ∀ z, r = .kn z → ∀ c ∈ z, c ∈ W.L) (h : A.changeAt k r = some A') : AccOk W A' := by
  unfold Acc.changeAt at h
  split at h
  · rename_i hc
    cases h
    refine ⟨by show (setAt A.rows k r).length ≤ 8; rw [setAt_len hk]; exact ok.len, hc, fun z hz c hc' => ?_, ok.card, ok.bnd⟩
    rcases setAt_mem hz with h | h
    · exact ok.let_ z h c hc'
    · exact hr z h.symm c hc'
  · cases h
theorem rowAt_lt {A : Acc} {n : Int} {r : Pg} (h : A.rowAt n = some r) : n.toNat < A.rows.length ∧ 0 ≤ n ∧ A.rows[n.toNat]? = some r := by
  unfold Acc.rowAt at h
  split at h
  · rename_i h0
    exact ⟨(List.getElem?_eq_some_iff.mp h).1, h0, h⟩
  · cases h
theorem AccOk.ins {W : Wd} {A A' : Acc} {n : Int} {z : List Nat} (ok : AccOk W A) (h : A.ins W n z = some A') : AccOk W A' := by
  unfold Acc.ins at h
  split at h
  · rename_i hc
    exact putAt_ok ok (fun y e c hy => hc.2.1 c (by cases e; exact hy)) h
  · cases h
theorem AccOk.next {W : Wd} (O : W.Ok) {A A' : Acc} {s : Stp} (ok : AccOk W A) (h : A.next W s = some A') : AccOk W A' := by
  obtain ⟨kd, num, page⟩ := s
  cases kd
  · exact ok.ins (show A.ins W A.rows.length page = some A' from h)
  · exact ok.ins (show A.ins W num page = some A' from h)
  · have h : A.setp W num page = some A' := h
    unfold Acc.setp at h
    split at h
    · rename_i y e
      split at h
      · rename_i hg
        exact changeAt_ok ok (rowAt_lt e).1 (fun q eq c hq => hg.1 c (by cases eq; exact hq)) h
      · cases h
    · cases h
  · have h : A.findp W num page = some A' := h
    unfold Acc.findp at h
    split at h
    · rename_i m e
      split at h
      · rename_i hg
        exact changeAt_ok ok (rowAt_lt e).1 (fun q eq c hq => hg.1.1 c (by cases eq; exact hq)) h
      · cases h
    · cases h
  · have h : A.takep num = some A' := h
    unfold Acc.takep at h
    split at h
    · rename_i r e
      cases h
      refine ⟨?_, ?_, fun z hz c hc' => ?_, ok.card, ok.bnd⟩
      · show (delAt A.rows num.toNat).length ≤ 8
        unfold delAt
        rw [List.length_append, List.length_take, List.length_drop]
        have := ok.len
        omega
      · show Acc.tot (delAt A.rows num.toNat) ≤ 16
        unfold delAt
        rw [tot_app]
        have h1 := tot_cut A.rows num.toNat
        have h2 := tot_cut (A.rows.drop num.toNat) 1
        rw [List.drop_drop] at h2
        have := ok.tot
        omega
      · have hz : Pg.kn z ∈ delAt A.rows num.toNat := hz
        unfold delAt at hz
        rcases List.mem_append.mp hz with h | h
        · exact ok.let_ z (List.mem_of_mem_take h) c hc'
        · exact ok.let_ z (List.mem_of_mem_drop h) c hc'
    · cases h
  · have h : A.losep num = some A' := h
    unfold Acc.losep at h
    split at h
    · rename_i y e
      exact changeAt_ok ok (rowAt_lt e).1 (fun q eq => by cases eq) h
    · cases h
  · have h : A.bndp num = some A' := h
    unfold Acc.bndp at h
    generalize hm : (if (A.rows.length : Int) > 1 then (A.rows.length : Int) else 1) = m at h
    have m1 : 1 ≤ m := by
      rw [← hm]
      split <;> omega
    by_cases hc : m ≤ num ∧ num ≤ 8
    · rw [if_pos hc] at h
      cases h
      refine ⟨ok.len, ok.tot, ok.let_, ok.card, ?_⟩
      show 1 ≤ num.toNat ∧ num.toNat ≤ 8
      omega
    · rw [if_neg hc] at h
      cases h
  · have h : A.markp W = some A' := h
    unfold Acc.markp at h
    split at h
    · rename_i e
      cases h
      exact ⟨ok.len, ok.tot, ok.let_, (fun hs eh => by cases eh; exact low_card O (ok.good e)), ok.bnd⟩
    · cases h
  · have h : A.tearp = some A' := h
    unfold Acc.tearp at h
    split at h
    · cases h
    · cases h
      exact ⟨ok.len, ok.tot, ok.let_, (fun hs eh => by cases eh), ok.bnd⟩
theorem rowAt_neg {A : Acc} {n : Int} (h : n < 0) : A.rowAt n = none := if_neg (by omega)
theorem next_neg {W : Wd} {A : Acc} {s : Stp} (h : s.kd.hasN = true) (hn : s.num < 0) : A.next W s = none := by
  obtain ⟨kd, num, page⟩ := s
  have hn : num < 0 := hn
  cases kd
  · cases h
  · exact if_neg fun z => by omega
  · show A.setp W num page = none
    unfold Acc.setp
    rw [rowAt_neg hn]
  · show A.findp W num page = none
    unfold Acc.findp
    rw [rowAt_neg hn]
  · show A.takep num = none
    unfold Acc.takep
    rw [rowAt_neg hn]
  · show A.losep num = none
    unfold Acc.losep
    rw [rowAt_neg hn]
  · refine if_neg fun z => ?_
    obtain ⟨h1, h2⟩ := z
    split at h1 <;> omega
  · cases h
  · cases h
noncomputable def Acc.go (W : Wd) : List Stp → Acc → Option Acc
  | [], A => some A
  | s :: r, A => (A.next W s).bind (Acc.go W r)
theorem go_snoc {W : Wd} {s : Stp} : ∀ {a : List Stp} {A : Acc}, Acc.go W (a ++ [s]) A = (Acc.go W a A).bind fun B => B.next W s
  | [], A => by
    show (A.next W s).bind (fun A => some A) = A.next W s
    cases A.next W s <;> rfl
  | t :: a, A => by
    show (A.next W t).bind (Acc.go W (a ++ [s])) = ((A.next W t).bind (Acc.go W a)).bind fun B => B.next W s
    cases A.next W t with
    | none => rfl
    | some B => exact go_snoc (a := a) (A := B)
theorem cls_obj {K : Fr} {C : Addr} {m : Str} {r : Option Value} (h : PySem.W.findIn K (.ref C) m = some r) : ∃ o, K.lookup C = some o ∧ ∀ v, o.data ≠ .cell v := by
  obtain ⟨cd, hcd, _⟩ := PySem.W.kw_along h
  unfold PySem.W.clsIn at hcd
  split at hcd
  · rename_i e
    exact ⟨_, e, fun v z => by cases z⟩
  · cases hcd
theorem roomM {k : Nat} {A : Around} {h : Option Value} (r : Room k A) : RoomH k (A.mark h) := ⟨r.dp, r.un⟩
theorem go_with {te : TE} {C : Addr} {spN spX : Sp} {tb : WX → TS} {Wout : WX} {D : Ends} {σ : L2.St} {H : Hp} (h : te σ H fun v H1 => ∃ x dx fs, v = .ref x ∧ H1 x = some (.ins C dx fs) ∧ spN [.ref x] H1 (fun _ H2 => tb (wWith spX x Wout) (endsX spX x D) σ H2) E0) : tWith te C spN spX tb Wout D σ H := h
theorem go_callS {sp : Sp} {E : L2.St → XK} {ta : TA} {σ : L2.St} {H : Hp} {Q : VK} (h : ta σ H fun vs H1 => sp vs H1 Q (E σ)) : tCallS sp E ta σ H Q := h
def tbE (K : Fr) (W : WX) : TS := tFor (iEnum K (tCons (tVar 1) tNil)) (gTup K 2 (gCons (gName 2) (gCons (gName 3) gNil)))
  (tSeq (tAsg (tCall (sp_deed_of K) [] E0 (tCons (tVar 3) tNil)) (gName 4))
  (tSeq (tIfS (tTest (tOp (fun x y H Q => y = .non ∧ Q (.bl (decide (x = .non))) H) (tVar 4) (tC .non)))
      (fun _ σ H => tRz (He.ga K "Refused") "index" (tCons (tVar 2) tNil) σ H fun cls d H' => tRz (He.ga K "BadText") "index" (tCons (tVar 2) tNil) σ H' fun _ _ H2 => W cls d σ H2) tNext)
  (fun D σ H => tDrop (tCallS (sp_carry_out K) (fun σ => WE (wAsX K (.ref (He.ga K "RollError")) 5 (fun cls => ∃ C, cls = .ref C ∧ IsRoll K C)
      (fun a _ _ => fun _ σ H => tRz (He.ga K "Refused") "index" (tCons (tVar 2) tNil) σ H fun cls d H' => tVar 5 σ H' fun v H2 => v = .ref a ∧ wGone 5 W cls d σ H2) W D) σ) (tCons (tVar 0) (tCons (tVar 4) tNil))) D σ H)))
def sp_enter (K : Fr) : Sp := fun vs H Q E => ∃ (dk a : Addr), vs = [.ref dk, .ref a] ∧ ∃ (ss : List Stp) (G : Hp) (W : Wd) (A : Acc) (past : List Acc), (∀ s ∈ ss, s.Ok) ∧ ss.length ≤ 20 ∧ W.Ok ∧ DeskAt K G H dk W A past ∧ AccOk W A ∧ past.length ≤ 900 ∧ SqL K G a (ss.map fun s => V.str (SX.S s.line)) ∧
  (∀ A', Acc.go W ss A = some A' → ∀ G' H', Gr G H G' H' → Frm [dk] H H' → DeskAt K G' H' dk W A' (past ++ [A]) → Q (.int ss.length) H') ∧
  (∀ (k : Nat) Ak s, Acc.go W (ss.take k) A = some Ak → ss[k]? = some s → Ak.next W s = none → ∀ d G' H', Gr G H G' H' → Frm [dk] H H' → DeskAt K G' H' dk W A past → H' d = some (.xd [("index", .int k)]) → E (.ref (He.ga K "Refused")) (some d) H')
theorem ok_enter (T : Tx w K mg) : FnOk P w K mg base (L2.CX P w) 10 (a_enter K) (fdOf K (a_enter K)) ["desk", "lines"] (sp_enter K) := by
  refine (T.d_enter).ok sc_enter (fun vs H Q E h => ?_) (fun cdv A outer s H vs Q E hr h => ?_)
  · obtain ⟨_, _, rfl, _⟩ := h
    rfl
  refine ⟨_, pss_cons (ps_with (C := He.ga K "Trial") (fe := a_Trial_enter K) (fx := a_Trial_exit K) (tb := tbE K) ⟨T.m_Trial_enter.at_, T.m_Trial_enter.fn, T.m_Trial_exit.at_, T.m_Trial_exit.fn⟩ (cls_obj T.m_Trial_enter.at_) rfl rfl
      (pe_make T.mk_Trial (ok_Trial_init T) (hr.mono (by decide)) (by rfl) T.g_Trial T.b_Trial_init .nil pass0 (pa_cons (pv 0) pa_nil))
      (ok_Trial_enter T) (hr.mono (by decide)) T.b_Trial_enter (q_Trial_exit T) T.b_Trial_exit (L2.takes_of rfl rfl rfl rfl)
      (fun W pn xe tkW po poA => pss_one (ps_for (by exact po) (by rfl) (pi_enum (by rfl) T.z_enumerate (pa_cons (pv 1) pa_nil)) (pg_tup (by rfl) (pgs_cons (pg_name (i := 2) sc_enter.nd rfl (Or.inl rfl)) (pgs_cons (pg_name (i := 3) sc_enter.nd rfl (Or.inl rfl)) pgs_nil)))
        (pss_cons (ps_set (i := 4) sc_enter.nd rfl (Or.inl rfl) (pe_call (ok_deed_of T) (hr.mono (by decide)) (by rfl) T.g_deed_of T.d_deed_of.kp T.b_deed_of .nil pass0 (pa_cons (pv 3) pa_nil)))
        (pss_cons (ps_if (pt_cmpR op_isN (pv 4) pe_non (nomark _))
          (pss_one (ps_raiseFrom rfl rfl (takes_zn (by exact tkW)) (pmk5_own T.ex_Refused (einB_ok T.ei_Refused).1 (einB_ok T.ei_Refused).2 (q_Refused T) T.b_Refused_init (roomH_of (hr.mono (by decide))) (by rfl) T.g_Refused (pa_cons (pv 2) pa_nil))
            (pmk5_own T.ex_BadText (einB_ok T.ei_BadText).1 (einB_ok T.ei_BadText).2 (q_BadText T) T.b_BadText_init (roomH_of (hr.mono (by decide))) (by rfl) T.g_BadText (pa_cons (pv 2) pa_nil)))) pss_nil)
        (pss_one (ps_try_asX (Good := fun cls => ∃ C, cls = .ref C ∧ IsRoll K C) rfl rfl rfl sc_enter.nd (i := 5) rfl rfl ⟨(by rfl), by decide, .inl T.g_RollError⟩ (by exact poA) (by exact tkW)
          (fun W2 pn2 xe2 tk2 po2 => pss_one (ps_expr (pe_callS (ok_carry_out T) (hr.mono (by decide)) (by rfl) T.g_carry_out T.d_carry_out.kp T.b_carry_out (fun σ => L2N.passAt tk2 σ) (pa_cons (pv 0) (pa_cons (pv 4) pa_nil)))))
          (fun a oe cls d pn3 hz hg tk3 hot => pss_one (ps_raiseFromH (t2 := tVar 5) rfl hot (List.mem_cons_self ..) (by
              obtain ⟨C, rfl, g⟩ := hg
              show Raises _ oe.cls
              rw [hz.1]
              exact raises_own g.ex g.ty) tk3
            (pmk5_own T.ex_Refused (einB_ok T.ei_Refused).1 (einB_ok T.ei_Refused).2 (q_Refused T) T.b_Refused_init (roomM (hr.mono (by decide))) (by rfl) T.g_Refused (pa_cons (pv 2) pa_nil)) (pv 5))))))))))
    (pss_one (ps_ret (pe_callB call_len (by rfl) T.z_len (by decide +kernel) (pa_cons (pv 1) pa_nil)))), ?_⟩
  obtain ⟨dk, a, rfl, ss, G, W, A, past, so, hl, O, ⟨dx, c, st, pt, D⟩, ok, hpl, hln, kq, kE⟩ := h
  have hd := D.at_
  have hG := D.ex
  obtain ⟨sl, hsl, hps⟩ := D.pst
  have hlen := Paired.length hps
  walk_at "s"
  refine go_with ?_
  walk_at "s"
  intro x dx' nx ndx nex
  have mk : Ex H (upd (upd H dx' (.own x)) x (.ins (He.ga K "Trial") dx' [])) := mkEx nx ndx nex
  have nGx : G x = none := fresh_back hG nx
  have nxd : x ≠ dk := fun z => by rw [z, hd] at nx; cases nx
  refine ⟨x, dk, rfl, G, dx', dx, .ref c, st, pt, sl, hG.trans mk, nGx, nxd, upd_same, mk _ _ hd, hsl, by omega, fun p H1 np hp hx f1 => ⟨rfl, ?_⟩⟩
  have e1 : Ex H H1 := frm_nil (((Ex.frm mk : Frm [] H _)).fresh f1 (fun o h => by rw [nx] at h; cases h))
  have npH : H p = none := fresh_back mk np
  have npd : p ≠ dk := fun z => by rw [z, hd] at npH; cases npH
  have g1 : Gr G H (ext G H H1) H1 := Gr.pure hG e1
  have hx1 : (ext G H H1) x = some (.ins (He.ga K "Trial") dx' (trF (.ref dk) (.ref st) (.ref pt) (.ref p))) := by rw [ext_new nx]; exact hx
  have hpast1 : PastAt K (ext G H H1) p (past ++ [A]) := ⟨sl ++ [st], st_of (by rw [ext_new npH]; exact hp), paired_snoc (paired_mono (fun _ _ z => z.ex g1.ex) hps) (D.now.ex g1.ex)⟩
  have D1 : DeskIn K (ext G H H1) H1 dk dx c st pt W A past := D.keep g1 (by rw [e1 _ _ hd, hd])
  generalize hG1 : ext G H H1 = G1 at g1 hx1 hpast1 D1
  clear hG1
  refine ⟨x, _, _, rfl, hx, _, rfl, ?_⟩
  show tbE K _ _ _ _
  unfold tbE
  walk_at "s"
  refine ⟨_, _, rfl, ex_l (hG.trans e1) hln, ?_⟩
  refine for_enum (xs := ss.map fun s => V.str (SX.S s.line)) (fun i σ H' => ∃ G' Ai pasti, Gr G1 H1 G' H' ∧ Frm [dk] H1 H' ∧ DeskAt K G' H' dk W Ai pasti ∧ AccOk W Ai ∧ pasti.length ≤ past.length + i ∧ Acc.go W (ss.take i) A = some Ai ∧ ∃ v2 v3 v4, σ = [some (.ref dk), some (.ref a), v2, v3, v4, none])
    ⟨G1, A, past, Gr.refl g1.up, Frm.refl _ _, ⟨dx, c, st, pt, D1⟩, ok, by omega, rfl, _, _, _, rfl⟩ (fun i σ H' _ p => ?_) ?_ ?_
  · obtain ⟨G', _, _, g, _⟩ := p
    exact ex_l (g1.ex.trans (g.ex.trans g.up)) hln
  · rintro i x9 σ H' hi ⟨G', Ai, pasti, g, f, ⟨dxi, ci, sti, pti, Di⟩, oki, hli, hgo, v2, v3, v4, rfl⟩
    rw [List.getElem?_map] at hi
    obtain ⟨s, hs, rfl⟩ := Option.map_eq_some_iff.mp hi
    have hil := (List.getElem?_eq_some_iff.mp hs).1
    have hso := so s (List.mem_of_getElem? hs)
    have hgo1 : Acc.go W (ss.take (i + 1)) A = Ai.next W s := by rw [take_snoc hs, go_snoc, hgo]; rfl
    have hdi := Di.at_
    -- a refused line
    have bad : Ai.next W s = none → ∀ σ9 H9 d, Ex H' H9 → H9 d = some (.xd [("index", .int i)]) → wWith (sp_Trial_exit K) x (fun cls d _ H => E cls d H) (.ref (He.ga K "Refused")) (some d) σ9 H9 := fun hn σ9 H9 d e9 hd9 => by
      have hx9 := e9 _ _ (g.up _ _ (g.ex _ _ hx1))
      have hk9 := e9 _ _ hdi
      refine ⟨_, rfl, fun b t => ⟨x, _, b, t, rfl, dx', dk, dxi, _, _, _, _, _, _, hx9, hk9, nxd, .inr ⟨⟨_, rfl⟩, fun H10 a10 f10 => ⟨rfl, ?_⟩⟩⟩⟩
      have gp : Gr G' H' (ext G' H' H9) H9 := Gr.pure g.up e9
      have nk : (ext G' H' H9) dk = none := gp.old dk (by rw [hdi]; exact fun z => nomatch z) Di.no
      have g10 := gr1 gp.up f10 nk (by rw [a10]; exact fun z => nomatch z)
      have gg := (g.trans gp).trans g10
      have dd : d ≠ dk := fun z => by rw [z, hk9] at hd9; cases hd9
      refine kE i Ai s hgo hs hn d _ H10 (g1.trans gg) ((Ex.frm e1).trans ((f.trans (Ex.frm e9)).trans f10)) ⟨dxi, ci, st, pt, ⟨gg.up, gg.old dk (by rw [D1.at_]; exact fun z => nomatch z) D1.no, a10, Di.cal.ex (gp.ex.trans g10.ex), D1.now.ex gg.ex, D1.pst.ex gg.ex⟩⟩ ?_
      exact f10 _ _ (no1 dd) hd9
    intro T2 nT2; generalize hET2 : upd _ T2 _ = H2; have eH2 := exN nT2 hET2; have hT2 := atN hET2; clear hET2
    walk_at "s"
    refine ⟨_, rfl, s, hso, rfl, fun hneg H3 e3 => ?_, fun hpos t H3 nt e3 ht => ?_⟩
    · walk_at "s"
      refine ⟨rfl, _, rfl, ?_⟩
      refine iteYes (c := V.non = V.non) rfl ?_
      refine go_rz ?_
      walk_at "s"
      intro d nd
      refine go_rz ?_
      walk_at "s"
      intro d2 nd2
      have nd' : d2 ≠ d := fun z => by rw [z, upd_same] at nd2; cases nd2
      exact bad (next_neg hneg.1 hneg.2) _ _ _ (((eH2.trans e3).trans (Ex.new nd)).trans (Ex.new nd2)) (by rw [upd_ne nd'.symm, upd_same])
    · walk_at "s"
      refine ⟨rfl, _, rfl, ?_⟩
      refine iteNo (c := V.ref t = V.non) (fun z => V.noConfusion z) ?_
      walk_at "s"
      refine go_callS ?_
      walk_at "s"
      have e23 : Ex H' H3 := eH2.trans e3
      have gp : Gr G' H' (ext G' H' H3) H3 := Gr.pure g.up e23
      refine ⟨dk, t, rfl, s, hso, st_of ht, ext G' H' H3, W, Ai, pasti, O, ⟨dxi, ci, sti, pti, Di.keep gp (by rw [e23 _ _ hdi, hdi])⟩, oki, by omega, fun A' G4 H4 e g4 f4 D' => ?_, fun e C d H4 hC e4 => ?_⟩
      · exact ⟨G4, A', pasti ++ [Ai], (g.trans gp).trans g4, (f.trans (Ex.frm e23)).trans f4, D', oki.next O e, by rw [List.length_append]; show _ + 1 ≤ _; omega, hgo1.trans e, _, _, _, rfl⟩
      · refine ⟨true, hC.m, fun _ => ⟨⟨C, rfl, hC⟩, fun a9 na => ?_⟩, fun q => nomatch q⟩
        refine go_rz ?_
        walk_at "s"
        intro d9 nd9
        refine go_var rfl ⟨rfl, ?_⟩
        exact bad e _ _ _ ((e23.trans e4).trans (Ex.new nd9)) upd_same
  · rintro σ H' ⟨G', Ai, pasti, g, f, ⟨dxi, ci, sti, pti, Di⟩, oki, hli, hgo, v2, v3, v4, rfl⟩
    rw [List.length_map, List.take_length] at hgo
    have hdi := Di.at_
    refine ⟨x, _, _, _, rfl, dx', dk, dxi, _, _, _, _, _, _, g.up _ _ (g.ex _ _ hx1), hdi, nxd, .inl ⟨rfl, fun H10 a10 f10 => ?_⟩⟩
    have g10 := gr1 g.up f10 Di.no (by rw [a10]; exact fun z => nomatch z)
    walk_at "s"
    refine ⟨_, _, rfl, .inl ⟨_, ex_l (g1.ex.trans (g.ex.trans (g10.ex.trans g10.up))) hln, rfl⟩, ?_⟩
    rw [List.length_map]
    have gg := g.trans g10
    exact kq Ai hgo _ H10 (g1.trans gg) ((Ex.frm e1).trans (f.trans f10)) ⟨dxi, ci, sti, p, ⟨gg.up, g10.old dk (by rw [hdi]; exact fun z => nomatch z) Di.no, a10, Di.cal.ex g10.ex, Di.now.ex g10.ex, hpast1.ex gg.ex⟩⟩
/-! W22 -/

/-! ### the desk's text -/
theorem s_len (x y : Str) : (x ++ y).length = x.length + y.length := by rw [TL.len_tl, TL.tl_append, List.length_append, ← TL.len_tl, ← TL.len_tl]
theorem joinL_le {a : List Nat} {n : Nat} : ∀ {ps : List (List Nat)}, (∀ p ∈ ps, p.length ≤ n) → (TL.joinL a ps).length ≤ ps.length * (n + a.length)
  | [], _ => Nat.zero_le _
  | [p], h => by
    have := h p (List.mem_cons_self ..)
    show p.length ≤ 1 * _
    omega
  | p :: q :: r, h => by
    have h1 := h p (List.mem_cons_self ..)
    have h2 := joinL_le (a := a) (ps := q :: r) fun x hx => h x (List.mem_cons_of_mem _ hx)
    show (p ++ (a ++ TL.joinL a (q :: r))).length ≤ (r.length + 1 + 1) * _
    have h3 : (q :: r).length = r.length + 1 := rfl
    rw [h3] at h2
    rw [List.length_append, List.length_append, Nat.add_mul (r.length + 1) 1]
    omega
theorem join_le {a : Str} {n : Nat} {ys : List Str} (h : ∀ y ∈ ys, y.length ≤ n) : (Txt.join a ys).length ≤ ys.length * (n + a.length) := by
  rw [TL.join_eq, TL.len_tl, TL.tl_join]
  have := joinL_le (a := TL.tl a) (n := n) (ps := ys.map TL.tl) fun p hp => by
    obtain ⟨y, hy, rfl⟩ := List.mem_map.mp hp
    rw [← TL.len_tl]
    exact h y hy
  rw [List.length_map, ← TL.len_tl] at this
  exact this
theorem sum_les {n : Nat} : ∀ {ys : List Str}, (∀ y ∈ ys, y.length ≤ n) → (ys.map (·.length)).sum ≤ ys.length * n
  | [], _ => Nat.zero_le _
  | y :: ys, h => by
    have h1 := h y (List.mem_cons_self ..)
    have h2 := sum_les fun x hx => h x (List.mem_cons_of_mem y hx)
    rw [List.map_cons, List.sum_cons, List.length_cons, Nat.add_mul]
    omega
def rowLine : Pg → Str
  | .kn z => "page " ++ SX.S (shw z)
  | .lo n => "lost " ++ nm (n : Int)
def Acc.cardL (A : Acc) : List Str := match A.card with
  | none => []
  | some hs => [("card " : Str) ++ commas hs]
def Acc.lines (W : Wd) (A : Acc) : List Str := [("calendar " : Str) ++ W.text, ("bound " : Str) ++ nm (A.bound : Int)] ++ A.rows.map rowLine ++ A.cardL
def Acc.text (W : Wd) (A : Acc) : Str := Txt.join "\n" (A.lines W)
theorem wtext_len {W : Wd} (O : W.Ok) : W.text.length ≤ 100 := by
  have h := join_le (a := " ") (n := 4) (ys := (W.words.map shw).map SX.S) fun y hy => by
    obtain ⟨q, hq, rfl⟩ := List.mem_map.mp hy
    obtain ⟨z, hz, rfl⟩ := List.mem_map.mp hq
    obtain ⟨x, _, rfl⟩ := List.mem_map.mp hz
    rw [SX.S_len]
    exact shw_len (Nat.le_trans Wd.word_len O.len.2) (by decide)
  rw [List.length_map, List.length_map, Wd.words_len, show (" " : Str).length = 1 by decide +kernel] at h
  have := O.le
  exact Nat.le_trans h (by omega)
theorem commas_len {hs : List Int} (L : Low hs) : (commas hs).length ≤ 100 := by
  have h := join_le (a := ",") (n := 3) (ys := hs.map nm) fun y hy => by
    obtain ⟨x, hx, rfl⟩ := List.mem_map.mp hy
    obtain ⟨h3, h4⟩ := L.2 x hx
    obtain ⟨n, rfl⟩ := Int.eq_ofNat_of_zero_le h3
    exact nm_len n (by omega)
  rw [List.length_map, show ("," : Str).length = 1 by decide +kernel] at h
  have := L.1
  exact Nat.le_trans h (by omega)
theorem log_ok {n : Nat} (h : n < 200) : (n : Int).natAbs.log2 < 1920 := Nat.lt_of_le_of_lt (Nat.log2_le_self _) (by omega)
theorem row_len {r : Pg} (h : r.size ≤ 16) : (rowLine r).length ≤ 120 := by
  cases r with
  | kn z =>
    have : (SX.S (shw z)).length ≤ 16 := by rw [SX.S_len]; exact shw_len h (by decide)
    show (("page " : Str) ++ SX.S (shw z)).length ≤ 120
    rw [s_len, show ("page " : Str).length = 5 by decide +kernel]
    omega
  | lo n =>
    have := nm_len n (Nat.lt_of_le_of_lt h (by decide))
    show (("lost " : Str) ++ nm (n : Int)).length ≤ 120
    rw [s_len, show ("lost " : Str).length = 5 by decide +kernel]
    omega
theorem AccOk.size {W : Wd} {A : Acc} (ok : AccOk W A) {r : Pg} (h : r ∈ A.rows) : r.size ≤ 16 := Nat.le_trans (size_tot h) ok.tot
theorem lines_len {W : Wd} {A : Acc} (O : W.Ok) (ok : AccOk W A) : (∀ l ∈ A.lines W, l.length ≤ 120) ∧ (A.lines W).length ≤ 11 := by
  refine ⟨fun l hl => ?_, ?_⟩
  · unfold Acc.lines at hl
    rcases List.mem_append.mp hl with h | h
    · rcases List.mem_append.mp h with h | h
      · rcases List.mem_cons.mp h with rfl | h
        · have := wtext_len O
          rw [s_len, show ("calendar " : Str).length = 9 by decide +kernel]
          omega
        · rw [List.mem_singleton.mp h]
          have := ok.bnd
          have := nm_len A.bound (by omega)
          rw [s_len, show ("bound " : Str).length = 6 by decide +kernel]
          omega
      · obtain ⟨r, hr, rfl⟩ := List.mem_map.mp h
        exact row_len (ok.size hr)
    · unfold Acc.cardL at h
      cases hc : A.card with
      | none => rw [hc] at h; cases h
      | some hs =>
        rw [hc] at h
        rw [List.mem_singleton.mp h]
        have := commas_len (ok.card hs hc)
        rw [s_len, show ("card " : Str).length = 5 by decide +kernel]
        omega
  · unfold Acc.lines
    rw [List.length_append, List.length_append, List.length_map]
    have := ok.len
    have : A.cardL.length ≤ 1 := by
      unfold Acc.cardL
      cases A.card with
      | none => exact Nat.zero_le _
      | some hs => exact Nat.le_refl _
    show 2 + _ + _ ≤ _
    omega
theorem text_ok {W : Wd} {A : Acc} (O : W.Ok) (ok : AccOk W A) : ((A.lines W).map (·.length)).sum + (A.lines W).length * ("\n" : Str).length ≤ 16777216 := by
  have h := lines_len O ok
  have h1 := sum_les h.1
  have h2 := h.2
  rw [show ("\n" : Str).length = 1 by decide +kernel]
  omega
theorem DeskIn.grow {G H H' : Hp} {dk dx c st pt : Addr} {W : Wd} {A : Acc} {past : List Acc} (D : DeskIn K G H dk dx c st pt W A past) (e : Ex H H') : DeskIn K G H' dk dx c st pt W A past := ⟨D.ex.trans e, D.no, e _ _ D.at_, D.cal, D.now, D.pst⟩
theorem go_iEO {C : Addr} {sp : Nat → Sp} {ta : TA} {σ : L2.St} {H : Hp} {R : It → Hp → Prop} (h : ta σ H fun vs H1 => ∃ a dx fs, vs = [.ref a] ∧ H1 a = some (.ins C dx fs) ∧
  ∀ n, sp n [.ref a] H1 (fun r H2 => ∃ it l : Addr, r = .ref it ∧ n ≤ it ∧ H2 it = some (ItO l it 0) ∧ R (Ite K l) (ItX.dropH H2 it)) E0) : iEnumO C K sp ta σ H R := h
def sp_Desk_iter (K : Fr) (n : Nat) : Sp := fun vs H Q _ => ∃ dk, vs = [.ref dk] ∧ ∃ (G : Hp) (W : Wd) (A : Acc) (past : List Acc), DeskAt K G H dk W A past ∧ ∀ l it, G l = some (.lst (A.rows.map Pg.shown)) → H it = none → n ≤ it → Q (.ref it) (upd H it (ItO l it 0))
theorem qn_Desk_iter (T : Tx w K mg) : FnN P w K mg base 1 (a_Desk_iter K) (fdOf K (a_Desk_iter K)) ["self"] (sp_Desk_iter K) := by
  refine fnn_of T.d_Desk_iter sc_Desk_iter (fun n vs H Q E h => ?_) (fun cdv A outer s H vs Q E hr h => ?_)
  · obtain ⟨_, rfl, _⟩ := h
    rfl
  refine ⟨_, pss_one (ps_ret (pe_callB ItX.call_iterN (by rfl) T.z_iter (by decide +kernel) (pa_cons (pe_fld (pe_fld (pv 0) rfl) rfl) pa_nil))), ?_⟩
  obtain ⟨dk, rfl, G, W, A, past, ⟨dx, c, st, pt, D⟩, k⟩ := h
  have hd := D.at_
  have hG := D.ex
  obtain ⟨sx, h0, sh0, cd0, s1, s2, s3, s4⟩ := D.now
  walk_at "s"
  refine ⟨_, _, _, _, _, rfl, (by walk_at "fact"), T.cl_Desk, T.n_Desk_now, dk2, ?_⟩
  walk_at "s"
  refine ⟨_, _, _, _, _, rfl, (by walk_at "fact"), T.cl_State, T.n_State_shown, st2, ?_⟩
  exact ⟨_, _, rfl, sq_of (hG _ _ s3), fun it nit hn => k _ it s3 nit hn⟩
def sp_write_desk (K : Fr) : Sp := fun vs H Q _ => ∃ (dk : Addr), vs = [.ref dk] ∧ ∃ (G : Hp) (W : Wd) (A : Acc) (past : List Acc), W.Ok ∧ DeskAt K G H dk W A past ∧ AccOk W A ∧ RetV (.str (A.text W)) H Q
theorem ok_write_desk (T : Tx w K mg) : FnOk P w K mg base CX0 5 (a_write_desk K) (fdOf K (a_write_desk K)) ["desk"] (sp_write_desk K) := by
  refine (T.d_write_desk).ok sc_write_desk (fun vs H Q E h => ?_) (fun cdv A outer s H vs Q E hr h => ?_)
  · obtain ⟨_, rfl, _⟩ := h
    rfl
  refine ⟨_, PSs.nox (pss_cons (ps_set (i := 1) sc_write_desk.nd rfl (Or.inl rfl) (pe_lst (pa_cons (pe_op op_add_str (pe_gS T.s_FIRST_WORD) (pe_meth0 (pe_fld (pv 0) rfl) T.cl_Calendar T.m_Calendar_text (ok_Calendar_text T) (hr.mono (by decide)) T.b_Calendar_text .nil pass0)) (pa_cons (pe_op op_add_str pe_str (pe_callTy call_str_int (by rfl) T.z_str (by decide +kernel) (pa_cons (pe_prop (pv 0) T.cl_Desk T.p_Desk_bound (ok_Desk_bound T) (hr.mono (by decide)) T.b_Desk_bound .nil pass0 rfl) pa_nil))) pa_nil))))
      (pss_cons (ps_for PassesOwn.never rfl (pi_enumOwn rfl T.z_enumerate T.m_Desk_iter (qn_Desk_iter T) (hr.mono (by decide)) T.b_Desk_iter (pa_cons (pv 0) pa_nil)) (pg_tup rfl (pgs_cons (pg_name (i := 2) sc_write_desk.nd rfl (Or.inl rfl)) (pgs_cons (pg_name (i := 3) sc_write_desk.nd rfl (Or.inl rfl)) pgs_nil)))
      (pss_one (ps_if (pt_cmpR op_isN (pv 3) pe_non (by first | exact nomark _ | rfl))
        (pss_one (ps_expr (pe_bm PySem.F.plainAttrs_list PySem.F.slot_list_append PySem.F.type_list_append mt_append (pv 1) (pa_cons (pe_op op_add_str pe_str (pe_callTy call_str_int (by rfl) T.z_str (by decide +kernel) (pa_cons (pe_meth (pv 0) T.cl_Desk T.m_Desk_entries (ok_Desk_entries T) (hr.mono (by decide)) T.b_Desk_entries .nil pass0 (pa_cons (pv 2) pa_nil)) pa_nil))) pa_nil))))
        (pss_one (ps_expr (pe_bm PySem.F.plainAttrs_list PySem.F.slot_list_append PySem.F.type_list_append mt_append (pv 1) (pa_cons (pe_op op_add_str pe_str (pe_call (ok_word_of_page T) (hr.mono (by decide)) rfl T.g_word_of_page T.d_word_of_page.kp T.b_word_of_page .nil pass0 (pa_cons (pv 3) pa_nil))) pa_nil)))))))
      (pss_cons (ps_if (pt_cmpR op_notN (pe_prop (pv 0) T.cl_Desk T.p_Desk_card (ok_Desk_card T) (hr.mono (by decide)) T.b_Desk_card .nil pass0 rfl) pe_non (by first | exact nomark _ | rfl))
      (pss_one (ps_expr (pe_bm PySem.F.plainAttrs_list PySem.F.slot_list_append PySem.F.type_list_append mt_append (pv 1) (pa_cons (pe_op op_add_str pe_str (pe_meth0 (pe_prop (pv 0) T.cl_Desk T.p_Desk_card (ok_Desk_card T) (hr.mono (by decide)) T.b_Desk_card .nil pass0 rfl) T.cl_Cast T.m_Cast_text (ok_Cast_text T) (hr.mono (by decide)) T.b_Cast_text .nil pass0)) pa_nil))))
      pss_nil)
      (pss_one (ps_ret (pe_bm PySem.F.plainAttrs_str PySem.F.slot_str_join PySem.F.type_str_join mt_join pe_str (pa_cons (pv 1) pa_nil))))))), ?_⟩
  obtain ⟨dk, rfl, G, W, A, past, O, ⟨dx, c, st, pt, D⟩, ok, k⟩ := h
  have hd := D.at_
  have hG := D.ex
  obtain ⟨sx, h0, sh0, cd0, s1, s2, s3, s4⟩ := D.now
  have keep : ∀ H', Ex H H' → DeskIn K G H' dk dx c st pt W A past := fun H' e => D.grow e
  obtain ⟨kx, kw, c1, c2⟩ := D.cal
  have bl := nm_len A.bound (by have := ok.bnd; omega)
  walk_at "s"
  refine ⟨_, _, _, _, _, rfl, (by walk_at "fact"), T.cl_Desk, T.n_Desk_calendar, dk1, ?_⟩
  refine ⟨c, _, _, rfl, hG _ _ c1, klNo (by decide +kernel), ?_⟩
  refine ⟨c, rfl, W, O, D.cal.ex hG, fun H1 e1 => ?_⟩
  have wl := wtext_len O
  refine ⟨_, _, rfl, rfl, sz_of (by rw [show ("calendar " : Str).length = 9 by decide +kernel]; omega), ?_⟩
  walk_at "s"
  refine ⟨dk, _, _, rfl, e1 _ _ hd, ?_⟩
  refine ⟨dk, rfl, _, W, A, past, ⟨_, _, _, _, keep H1 e1⟩, ?_⟩
  walk_at "s"
  refine ⟨log_ok (by have := ok.bnd; omega), ?_⟩
  refine ⟨_, _, rfl, rfl, sz_of (by rw [show ("bound " : Str).length = 6 by decide +kernel]; exact (show 6 + (nm (A.bound : Int)).length ≤ 100000 by omega)), ?_⟩
  walk_at "s"
  intro ls nls; generalize hEls : upd _ ls _ = H2; have eH2 := exN nls hEls; have hls := atN hEls; clear hEls
  have e2 : Ex H H2 := e1.trans eH2
  walk_at "s"
  refine go_iEO ?_
  walk_at "s"
  refine ⟨dk, _, _, rfl, e2 _ _ hd, fun n => ?_⟩
  refine ⟨dk, rfl, G, W, A, past, ⟨_, _, _, _, keep H2 e2⟩, fun l it hl nit hn => ⟨it, l, rfl, hn, upd_same, ?_⟩⟩
  rw [ItX.dropH_upd nit]
  have lH : H1 l = some (.lst (A.rows.map Pg.shown)) := e1 _ _ (hG _ _ hl)
  refine for_enum (xs := A.rows.map Pg.shown) (fun i σ H' => Ex H1 H' ∧ H' ls = some (.lst (([("calendar " : Str) ++ W.text, ("bound " : Str) ++ nm (A.bound : Int)] ++ (A.rows.take i).map rowLine).map V.str)) ∧ ∃ v2 v3, σ = [some (.ref dk), some (.ref ls), v2, v3]) ⟨eH2, hls, _, _, rfl⟩ (fun i σ H' _ p => sq_of (p.1 _ _ lH)) ?_ ?_
  · rintro i x σ H' hi ⟨e3, hls', v2, v3, rfl⟩
    rw [List.getElem?_map] at hi
    obtain ⟨r, hr, rfl⟩ := Option.map_eq_some_iff.mp hi
    have hil := (List.getElem?_eq_some_iff.mp hr).1
    have hsz := ok.size (List.mem_of_getElem? hr)
    have hn8 := ok.len
    intro T2 nT2; generalize hET2 : upd _ T2 _ = H3; have eH3 := exN nT2 hET2; have hT2 := atN hET2; clear hET2
    have hls3 := eH3 _ _ hls'
    have lz : (([("calendar " : Str) ++ W.text, ("bound " : Str) ++ nm (A.bound : Int)] ++ (A.rows.take i).map rowLine).map V.str).length < sizeLine := by
      rw [List.length_map, List.length_append, List.length_map, List.length_take]
      exact sz_lt (show 2 + _ < _ by omega)
    have fin : ∀ H4, Ex H3 H4 → ∀ v, v = V.str (rowLine r) → Ex H1 (upd H4 ls (.lst (([("calendar " : Str) ++ W.text, ("bound " : Str) ++ nm (A.bound : Int)] ++ (A.rows.take i).map rowLine).map V.str ++ [v]))) ∧
        upd H4 ls (.lst (([("calendar " : Str) ++ W.text, ("bound " : Str) ++ nm (A.bound : Int)] ++ (A.rows.take i).map rowLine).map V.str ++ [v])) ls = some (.lst (([("calendar " : Str) ++ W.text, ("bound " : Str) ++ nm (A.bound : Int)] ++ (A.rows.take (i + 1)).map rowLine).map V.str)) := fun H4 e4 v hv => by
      refine ⟨Ex.mut ((e3.trans eH3).trans e4) nls, ?_⟩
      rw [upd_same, hv, take_snoc hr, List.map_append (l₂ := [r]), ← List.append_assoc, List.map_append (l₂ := List.map rowLine [r])]
      rfl
    cases r with
    | kn z =>
      walk_at "s"
      refine ⟨rfl, _, rfl, ?_⟩
      refine iteNo (c := V.str (SX.S z) = V.non) (fun q => V.noConfusion q) ?_
      walk_at "s"
      refine ⟨_, rfl, z, rfl, ?_⟩
      have zl : (SX.S (shw z)).length ≤ 16 := by rw [SX.S_len]; exact shw_len hsz (by decide)
      refine ⟨_, _, rfl, rfl, sz_of (by rw [show ("page " : Str).length = 5 by decide +kernel]; omega), ?_⟩
      walk_at "s"
      refine ⟨ls, _, _, rfl, rfl, hls3, lz, ?_⟩
      obtain ⟨f1, f2⟩ := fin _ (Ex.refl _) _ rfl
      exact ⟨f1, f2, _, _, rfl⟩
    | lo n =>
      walk_at "s"
      refine ⟨rfl, _, rfl, ?_⟩
      refine iteYes (c := V.non = V.non) rfl ?_
      walk_at "s"
      refine ⟨_, _, _, rfl, (e1.trans (e3.trans eH3)) _ _ hd, dkNo (by decide +kernel) (by decide +kernel) (by decide +kernel), ?_⟩
      walk_at "s"
      refine ⟨dk, _, rfl, G, W, A, past, i, .lo n, ⟨_, _, _, _, keep _ (e1.trans (e3.trans eH3))⟩, ok, rfl, hr, ?_⟩
      walk_at "s"
      have hn16 : n ≤ 16 := hsz
      refine ⟨log_ok (show n < 200 by omega), ?_⟩
      have nl2 := nm_len n (by omega)
      refine ⟨_, _, rfl, rfl, sz_of (by rw [show ("lost " : Str).length = 5 by decide +kernel]; exact (show 5 + (nm (n : Int)).length ≤ 100000 by omega)), ?_⟩
      walk_at "s"
      refine ⟨ls, _, _, rfl, rfl, hls3, lz, ?_⟩
      obtain ⟨f1, f2⟩ := fin _ (Ex.refl _) _ rfl
      exact ⟨f1, f2, _, _, rfl⟩
  · rintro σ H' ⟨e3, hls', v2, v3, rfl⟩
    rw [List.length_map, List.take_length] at hls'
    have e13 := e1.trans e3
    walk_at "s"
    refine ⟨dk, _, _, rfl, e13 _ _ hd, ?_⟩
    refine ⟨dk, rfl, G, W, A, past, ⟨_, _, _, _, keep _ e13⟩, fun cd hcd => ?_⟩
    walk_at "s"
    refine ⟨rfl, _, rfl, ?_⟩
    cases hc : A.card with
    | none =>
      rw [hc] at hcd
      have ecd : cd = .non := hcd
      subst ecd
      rw [show (!decide (V.non = V.non)) = false from rfl]
      walk_at "s"
      refine ⟨_, ls, A.lines W, rfl, rfl, .inl (sq_of ?_), text_ok O ok, ?_⟩
      · rw [hls']
        unfold Acc.lines Acc.cardL
        rw [hc, List.append_nil]
      · exact k H' e13
    | some hs =>
      rw [hc] at hcd
      obtain ⟨cc, rfl, hcc⟩ := hcd
      have L := ok.card hs hc
      rw [show (!decide (V.ref cc = V.non)) = true from rfl]
      walk_at "s"
      refine ⟨dk, _, _, rfl, e13 _ _ hd, ?_⟩
      refine ⟨dk, rfl, G, W, A, past, ⟨_, _, _, _, keep _ e13⟩, fun cd2 hcd2 => ?_⟩
      rw [hc] at hcd2
      obtain ⟨c9, rfl, hc9⟩ := hcd2
      have hc9' := hc9.ex (hG.trans e13)
      obtain ⟨q1, q2, q3, q4⟩ := hc9'
      refine ⟨c9, _, _, rfl, q3, caNo (by decide +kernel), ?_⟩
      refine ⟨c9, rfl, hs, L, ⟨q1, q2, q3, q4⟩, fun H4 e4 => ?_⟩
      have cl := commas_len L
      refine ⟨_, _, rfl, rfl, sz_of (by rw [show ("card " : Str).length = 5 by decide +kernel]; omega), ?_⟩
      walk_at "s"
      have hls4 := e4 _ _ hls'
      refine ⟨ls, _, _, rfl, rfl, hls4, ?_, ?_⟩
      · rw [List.length_map, List.length_append, List.length_map]
        have := ok.len
        exact sz_lt (show 2 + _ < _ by omega)
      generalize hE5 : upd H4 ls _ = H5
      have a5 := atN hE5
      have e5 : Ex H1 H5 := hE5 ▸ Ex.mut (e3.trans e4) nls
      clear hE5
      walk_at "s"
      refine ⟨_, ls, A.lines W, rfl, rfl, .inl (sq_of ?_), text_ok O ok, ?_⟩
      · rw [a5]
        unfold Acc.lines Acc.cardL
        rw [hc, List.map_append (l₂ := [("card " : Str) ++ commas hs])]
        rfl
      · exact k H5 (e1.trans e5)
/-! W23 -/

/-! ### the law's helpers -/
section
variable {K : Fr} {σ : L2.St} {H : Hp} {t : TT} {te tl : TE} {j : Nat} {vs : List Nat} {α : Type} [Inhabited α] {xs : List α}
theorem el_cMN (f : α → V) (p : α → Bool) (g : α → V) (h : EvL tl σ H (xs.map f)) (hz : xs.length ≤ 40000) (hw : ∀ x, wipe ((wipe σ vs).set j (some x)) vs = wipe σ vs)
    (ht : ∀ x ∈ xs, ∀ H1, Ex H H1 → EvT t ((wipe σ vs).set j (some (f x))) H1 (p x)) (he : ∀ x ∈ xs, ∀ H1, Ex H H1 → p x = true → Ev te ((wipe σ vs).set j (some (f x))) H1 (g x)) :
    EvL (tLc (iList K tl) (gName j) t te vs) σ H ((xs.filter p).map g) := by
  have key : ∀ (i : Nat) (x : V), (xs.map f)[i]? = some x → xs.getD i default ∈ xs ∧ x = f (xs.getD i default) := fun i x hx => by
    rw [List.getElem?_map] at hx
    obtain ⟨y, hy, rfl⟩ := Option.map_eq_some_iff.mp hx
    have e : xs.getD i default = y := by simp [List.getD, hy]
    rw [e]
    exact ⟨List.mem_of_getElem? hy, rfl⟩
  have e := el_lcNL (K := K) (fun i => p (xs.getD i default)) (fun i => g (xs.getD i default)) h (by rw [List.length_map]; exact hz) hw (t := t) (te := te)
    (fun i x H1 e1 hi => by obtain ⟨m, rfl⟩ := key i x hi; exact ht _ m H1 e1) (fun i x H1 e1 hi hf => by obtain ⟨m, rfl⟩ := key i x hi; exact he _ m H1 e1 hf)
  rw [List.length_map, given_list] at e
  exact e
end
/-- the state that numbers are drawn from: it alone changes -/
def StaAt (G H : Hp) (st : Addr) : Prop := G st = none ∧ ∃ (cur idx : Nat) (cs : Addr) (cells : List Int), cells.length ≤ 63 ∧ H st = some (.lst [.int (cur : Int), .int (idx : Int), .ref cs]) ∧ G cs = some (.lst (cells.map V.int))
def sp_law_begin (K : Fr) : Sp := fun vs H Q _ => ∃ a, vs = [.ref a] ∧ ∃ xs : List Int, xs.length ≤ 40000 ∧ SqL K H a (xs.map V.int) ∧ ∀ (st cs : Addr) (cells : List Int) H', H st = none → H cs = none → st ≠ cs → Ex H H' → cells.length ≤ 63 → H' st = some (.lst [.int 0, .int 0, .ref cs]) → H' cs = some (.lst (cells.map V.int)) → Q (.ref st) H'
theorem ok_law_begin (T : Tx w K mg) : FnOk P w K mg base CX0 1 (a_law_begin K) (fdOf K (a_law_begin K)) ["_law_script"] (sp_law_begin K) := by
  refine (T.d_law_begin).ok sc_law_begin (fun vs H Q E h => ?_) (fun cdv A outer s H vs Q E hr h => ?_)
  · obtain ⟨_, rfl, _⟩ := h
    rfl
  refine ⟨_, PSs.nox (pss_one (ps_ret (pe_lst (pa_cons pe_int (pa_cons pe_int (pa_cons (pe_lc (own := [("_law_cell", 1)]) (g := gName 1) (tt := tYes) rfl sc_law_begin.nd (pi_list (pe_slice sl_list (pv 0) po_none (po_some pe_int))) (blkOk_by (N := N_law_begin) (sc := defScope s_law_begin) (by decide +kernel)) (fun _ _ _ _ _ => pg_name (i := 1) sc_law_begin.nd rfl (Or.inl rfl)) (fun _ _ _ _ _ => pts_nil) (fun _ _ _ _ _ => (pe_callTy call_int1 (by rfl) T.z_int (by decide +kernel) (pa_cons (pv 1) pa_nil)))) pa_nil)))))), ?_⟩
  obtain ⟨a, rfl, xs, hxl, hx, k⟩ := h
  walk_at "s"
  have ec : cutV (xs.map V.int) none (some 63) = (xs.take 63).map V.int := (cut_to (k := 63)).trans (List.map_take ..).symm
  refine el_cMN (xs := xs.take 63) V.int (fun _ => true) V.int ?_ (by rw [List.length_take]; omega) (fun _ => rfl) (fun _ _ _ _ => et_yes) (fun x hx H1 e1 _ => ?_) H (Ex.refl H) _ fun cs H1 ncs e1 hcs => ?_
  · rw [← ec]
    exact el_sl (ev_var rfl) eo_none (eo_some ev_c) hx
  · intro H2 e2 Q2 q2
    walk_at "s"
    exact .inl ⟨_, rfl, q2 _ (Ex.refl _)⟩
  rw [filter_yes] at hcs
  walk_at "s"
  intro st nst; generalize hEst : upd _ st _ = H2; have eH2 := exN nst hEst; have hst := atN hEst; clear hEst
  exact k st cs (xs.take 63) H2 (fresh_back e1 nst) ncs (ne_of_none hcs nst).symm (e1.trans eH2) (by rw [List.length_take]; omega) hst (eH2 _ _ hcs)
def sp_law_draw (K : Fr) : Sp := fun vs H Q _ => ∃ (st : Addr) (n : Int), vs = [.ref st, .int n] ∧ ∃ (G : Hp) (m : Nat), n = m ∧ 0 < m ∧ m ≤ 1000 ∧ Ex G H ∧ StaAt G H st ∧ ∀ (v : Nat) H', v < m → Ex G H' → StaAt G H' st → Frm [st] H H' → Q (.int (v : Int)) H'
theorem ok_law_draw (T : Tx w K mg) : FnOk P w K mg base CX0 1 (a_law_draw K) (fdOf K (a_law_draw K)) ["_law_state", "_law_limit"] (sp_law_draw K) := by
  refine (T.d_law_draw).ok sc_law_draw (fun vs H Q E h => ?_) (fun cdv A outer s H vs Q E hr h => ?_)
  · obtain ⟨_, _, rfl, _⟩ := h
    rfl
  refine ⟨_, PSs.nox (pss_cons (ps_set (i := 2) sc_law_draw.nd rfl (Or.inl rfl) (pe_ix ix_list (pv 0) pe_int (fun _ _ => rfl)))
      (pss_cons (ps_while PassesOwn.never (PW.pt (pw_and (pt_cmpR op_eq (pe_ix ix_list (pv 0) pe_int (fun _ _ => rfl)) pe_int (by first | exact nomark _ | rfl)) (pw_and1 (pt_cmpR op_lt (pe_ix ix_list (pv 0) pe_int (fun _ _ => rfl)) (pe_callB call_len (by rfl) T.z_len (by decide +kernel) (pa_cons (pv 2) pa_nil)) (by first | exact nomark _ | rfl)))))
      (pss_cons (ps_asg (pe_callB call_abs (by rfl) T.z_abs (by decide +kernel) (pa_cons (pe_callTy call_int1 (by rfl) T.z_int (by decide +kernel) (pa_cons (pe_ix ix_list (pv 2) (pe_ix ix_list (pv 0) pe_int (fun _ _ => rfl)) (fun _ _ => rfl)) pa_nil)) pa_nil)) (pg_sub (pv 0) pe_int set_list))
        (pss_one (ps_asg (pe_op op_add (pe_ix ix_list (pv 0) pe_int (fun _ _ => rfl)) pe_int) (pg_sub (pv 0) pe_int set_list)))))
      (pss_cons (ps_set (i := 3) sc_law_draw.nd rfl (Or.inl rfl) (pe_op op_modN (pe_callTy call_int1 (by rfl) T.z_int (by decide +kernel) (pa_cons (pe_ix ix_list (pv 0) pe_int (fun _ _ => rfl)) pa_nil)) (pv 1)))
      (pss_cons (ps_asg (pe_op op_fdivN (pe_callTy call_int1 (by rfl) T.z_int (by decide +kernel) (pa_cons (pe_ix ix_list (pv 0) pe_int (fun _ _ => rfl)) pa_nil)) (pv 1)) (pg_sub (pv 0) pe_int set_list))
      (pss_one (ps_ret (pv 3))))))), ?_⟩
  obtain ⟨st, n, rfl, G, m, rfl, hm, hm2, hG, ⟨nst, cur, idx, cs, cells, hc63, hst, hcs⟩, k⟩ := h
  walk_at "s"
  refine go_ixL (sq_of hst) (show atI _ ((2 : Nat) : Int) = some (.ref cs) from rfl) ?_
  walk_at "s"
  refine ⟨fun q σ H' => ∃ (cur idx : Nat), q = cells.length - idx ∧ H' st = some (.lst [.int (cur : Int), .int (idx : Int), .ref cs]) ∧ Frm [st] H H' ∧ σ = [some (.ref st), some (.int (m : Int)), some (.ref cs), none], ⟨_, cur, idx, rfl, hst, Frm.refl _ _, rfl⟩, fun q σ H' hw => ?_⟩
  obtain ⟨cur, idx, rfl, hst', f, rfl⟩ := hw
  have hG' := frm1 f hG nst
  walk_at "s"
  refine go_ixL (sq_of hst') (show atI _ ((0 : Nat) : Int) = some (.int (cur : Int)) from rfl) ?_
  walk_at "s"
  have hcs' := hG' _ _ hcs
  have go : ¬ (cur = 0 ∧ idx < cells.length) → tSeq (tAsg (tOp (rI (fun i j => j ≠ 0) fun i j => V.int (i.fmod j)) (tCB (fun xs H Q => (∃ i, xs = [V.int i] ∧ Q (V.int i) H) ∨ ∃ k, xs = [V.bl k] ∧ Q (V.int (if k = true then 1 else 0)) H) (tCons (tOp (rIxL K) (tVar 0) (tC (V.int 0))) tNil)) (tVar 1)) (gName 3))
      (tSeq (tAsg (tOp (rI (fun i j => j ≠ 0 ∧ j.natAbs < 1073741824) fun i j => V.int (i.fdiv j)) (tCB (fun xs H Q => (∃ i, xs = [V.int i] ∧ Q (V.int i) H) ∨ ∃ k, xs = [V.bl k] ∧ Q (V.int (if k = true then 1 else 0)) H) (tCons (tOp (rIxL K) (tVar 0) (tC (V.int 0))) tNil)) (tVar 1)) (gSub (tVar 0) (tC (V.int 0)) rSetL)) (tRet (tVar 3))) { nx := fun x H' => Q V.non H', rt := Q } [some (.ref st), some (.int (m : Int)), some (.ref cs), none] H' := fun _ => by
    walk_at "s"
    refine go_ixL (sq_of hst') (show atI _ ((0 : Nat) : Int) = some (.int (cur : Int)) from rfl) ?_
    refine .inl ⟨_, rfl, ?_⟩
    walk_at "s"
    refine go_rI (by show (m : Int) ≠ 0; omega) ?_
    walk_at "s"
    refine go_ixL (sq_of hst') (show atI _ ((0 : Nat) : Int) = some (.int (cur : Int)) from rfl) ?_
    refine .inl ⟨_, rfl, ?_⟩
    walk_at "s"
    refine go_rI ⟨by show (m : Int) ≠ 0; omega, by show (m : Int).natAbs < _; omega⟩ ?_
    walk_at "s"
    refine go_setL hst' (show ixN _ ((0 : Nat) : Int) = some 0 from rfl) ?_
    generalize hE : upd H' st _ = H2
    have a2 := atN hE
    have f2 := frmP hE
    clear hE
    walk_at "s"
    have ev : (cur : Int).fmod (m : Int) = ((cur % m : Nat) : Int) := by rw [Int.fmod_eq_emod_of_nonneg _ (by omega)]; rfl
    have ed : (cur : Int).fdiv (m : Int) = ((cur / m : Nat) : Int) := by rw [Int.fdiv_eq_ediv_of_nonneg _ (by omega)]; rfl
    rw [ed] at a2
    rw [ev]
    exact k _ H2 (Nat.mod_lt _ hm) (frm1 f2 hG' nst) ⟨nst, _, _, cs, cells, hc63, a2, hcs⟩ (f.trans f2)
  by_cases h0 : cur = 0
  · subst h0
    refine iteYes rfl ?_
    walk_at "s"
    refine go_ixL (sq_of hst') (show atI _ ((1 : Nat) : Int) = some (.int (idx : Int)) from rfl) ?_
    walk_at "s"
    rw [List.length_map]
    by_cases hi : idx < cells.length
    · refine iteYes (by omega) ?_
      refine ⟨_, fun _ _ n => n, ?_⟩
      walk_at "s"
      refine go_ixL (sq_of hst') (show atI _ ((1 : Nat) : Int) = some (.int (idx : Int)) from rfl) ?_
      have hci : (cells.map V.int)[idx]? = some (.int (cells.getD idx 0)) := by simp [List.getD, hi]
      refine go_ixL (sq_of hcs') (atI_nat hci) ?_
      refine .inl ⟨_, rfl, ?_⟩
      walk_at "s"
      refine go_setL hst' (show ixN _ ((0 : Nat) : Int) = some 0 from rfl) ?_
      generalize hE : upd H' st _ = H2
      have a2 := atN hE
      have f2 := frmP hE
      clear hE
      walk_at "s"
      refine go_ixL (sq_of a2) (show atI _ ((1 : Nat) : Int) = some (.int (idx : Int)) from rfl) ?_
      walk_at "s"
      refine go_setL a2 (show ixN _ ((1 : Nat) : Int) = some 1 from rfl) ?_
      refine ⟨cells.length - (idx + 1), by omega, (if cells.getD idx 0 < 0 then -cells.getD idx 0 else cells.getD idx 0).toNat, idx + 1, rfl, ?_, ?_, rfl⟩
      · rw [upd_same]
        have e : (((if cells.getD idx 0 < 0 then -cells.getD idx 0 else cells.getD idx 0).toNat : Nat) : Int) = if cells.getD idx 0 < 0 then -cells.getD idx 0 else cells.getD idx 0 := Int.toNat_of_nonneg (by split <;> omega)
        rw [e]
        rfl
      · exact (f.trans f2).trans (frm_upd (List.mem_cons_self ..))
    · refine iteNo (by omega) ?_
      exact go fun q => hi q.2
  · refine iteNo (fun z => h0 (by have := V.int.inj z; omega)) ?_
    exact go fun q => h0 q.1
/-! W24 -/

/-! accounts as the law holds them -/
def RowsAt (G : Hp) (h : Addr) (rows : List Pg) : Prop := ∃ ras : List Addr, G h = some (.lst (ras.map V.ref)) ∧ Paired (fun a (r : Pg) => G a = some (.lst [r.shown, .int (r.size : Int)])) ras rows
def LCard (G : Hp) (v : V) : Option (List Int) → Prop
  | none => v = .non
  | some hs => ∃ a, v = .ref a ∧ G a = some (.lst (hs.map V.int))
def AccAt (G : Hp) (a : Addr) (A : Acc) : Prop := ∃ h cd, G a = some (.lst [.ref h, cd, .int (A.bound : Int)]) ∧ RowsAt G h A.rows ∧ LCard G cd A.card
def StpAt (G : Hp) (a : Addr) (s : Stp) : Prop := G a = some (.lst [.str s.kd.nm, .int s.num, .str (SX.S s.page)])
theorem RowsAt.ex {G G' : Hp} {h : Addr} {rows : List Pg} (r : RowsAt G h rows) (e : Ex G G') : RowsAt G' h rows := by
  obtain ⟨ras, h1, h2⟩ := r
  exact ⟨ras, e _ _ h1, paired_mono (fun _ _ z => e _ _ z) h2⟩
theorem LCard.ex {G G' : Hp} {v : V} {o : Option (List Int)} (h : LCard G v o) (e : Ex G G') : LCard G' v o := by
  cases o with
  | none => exact h
  | some hs =>
    obtain ⟨a, h1, h2⟩ := h
    exact ⟨a, h1, e _ _ h2⟩
theorem AccAt.ex {G G' : Hp} {a : Addr} {A : Acc} (h : AccAt G a A) (e : Ex G G') : AccAt G' a A := by
  obtain ⟨h', cd, h1, h2, h3⟩ := h
  exact ⟨h', cd, e _ _ h1, h2.ex e, h3.ex e⟩
theorem StpAt.ex {G G' : Hp} {a : Addr} {s : Stp} (h : StpAt G a s) (e : Ex G G') : StpAt G' a s := e _ _ h
theorem rows_at {G : Hp} {h : Addr} {rows : List Pg} (r : RowsAt G h rows) {i : Nat} {x : Pg} (hx : rows[i]? = some x) : ∃ (ras : List Addr) (ra : Addr), G h = some (.lst (ras.map V.ref)) ∧ (ras.map V.ref)[i]? = some (.ref ra) ∧ G ra = some (.lst [x.shown, .int (x.size : Int)]) ∧ ras.length = rows.length := by
  obtain ⟨ras, h1, h2⟩ := r
  have hl := Paired.length h2
  have hi := (List.getElem?_eq_some_iff.mp hx).1
  have ha : ras[i]? = some (ras[i]'(by omega)) := List.getElem?_eq_getElem _
  obtain ⟨y, hy, hr⟩ := paired_at h2 ha
  rw [hx] at hy
  cases hy
  exact ⟨ras, _, h1, by rw [List.getElem?_map, ha]; rfl, hr, hl⟩
theorem rows_len {G : Hp} {h : Addr} {rows : List Pg} (r : RowsAt G h rows) : ∃ xs : List V, G h = some (.lst xs) ∧ xs.length = rows.length := by
  obtain ⟨ras, h1, h2⟩ := r
  exact ⟨_, h1, by rw [List.length_map]; exact Paired.length h2⟩
def sp_law_page_taken (K : Fr) : Sp := fun vs H Q _ => ∃ z L : List Nat, vs = [.str (SX.S z), .str (SX.S L)] ∧ z.length ≤ 100 ∧ Q (.bl (decide ((∀ c ∈ z, c ∈ L) ∧ z.length ≤ 16))) H
theorem ok_law_page_taken (T : Tx w K mg) : FnOk P w K mg base CX0 1 (a_law_page_taken K) (fdOf K (a_law_page_taken K)) ["_law_page", "_law_letters"] (sp_law_page_taken K) := by
  refine (T.d_law_page_taken).ok sc_law_page_taken (fun vs H Q E h => ?_) (fun cdv A outer s H vs Q E hr h => ?_)
  · obtain ⟨_, _, rfl, _⟩ := h
    rfl
  refine ⟨_, PSs.nox (pss_cons (ps_for PassesOwn.never rfl (pi_str (pv 0)) (pg_name (i := 2) sc_law_page_taken.nd rfl (Or.inl rfl))
      (pss_one (ps_if (pt_cmpR op_notIn_sign (pv 2) (pv 1) (by first | exact nomark _ | rfl))
        (pss_one (ps_ret pe_bl))
        pss_nil)))
      (pss_one (ps_ret (pe_cmpR op_le (pe_callB call_len (by rfl) T.z_len (by decide +kernel) (pa_cons (pv 0) pa_nil)) pe_int (by first | exact nomark _ | rfl))))), ?_⟩
  obtain ⟨z, L, rfl, hz, k⟩ := h
  walk_at "s"
  refine for_J (J := Its (SX.S z)) (n := z.length) (it := fun i => .str (SX.S [z.getD i 0])) (fun i σ H' => H' = H ∧ (∀ j, j < i → z.getD j 0 ∈ L) ∧ ∃ v, σ = [some (.str (SX.S z)), some (.str (SX.S L)), v]) ⟨rfl, fun _ h => absurd h (by omega), _, rfl⟩ (fun _ _ _ _ _ => gives_str) ?_ ?_
  · rintro i σ H' hi ⟨rfl, hg, v, rfl⟩
    walk_at "s"
    by_cases hm : z.getD i 0 ∈ L
    · rw [show decide (z.getD i 0 ∈ (SX.S L).cps.toList) = true from decide_eq_true hm]
      walk_at "s"
      refine ⟨rfl, fun j hj => ?_, _, rfl⟩
      by_cases hji : j = i
      · rw [hji]; exact hm
      · exact hg j (by omega)
    · rw [show decide (z.getD i 0 ∈ (SX.S L).cps.toList) = false from decide_eq_false hm]
      walk_at "s"
      rw [decide_eq_false fun q => hm (q.1 _ (getD_mem hi))] at k
      exact k
  · rintro σ H' ⟨rfl, hg, v, rfl⟩
    walk_at "s"
    refine ⟨_, _, rfl, ⟨by rw [SX.S_len]; exact sz_of (by omega), rfl⟩, ?_⟩
    walk_at "s"
    rw [SX.S_len]
    have e : decide ((z.length : Int) ≤ 16) = decide ((∀ c ∈ z, c ∈ L) ∧ z.length ≤ 16) := by
      have all : ∀ c ∈ z, c ∈ L := fun c hc => by
        obtain ⟨j, hj⟩ := List.getElem?_of_mem hc
        have e : z.getD j 0 = c := by simp [List.getD, hj]
        rw [← e]
        exact hg j (List.getElem?_eq_some_iff.mp hj).1
      by_cases h : z.length ≤ 16
      · rw [decide_eq_true (show (z.length : Int) ≤ 16 by omega), decide_eq_true ⟨all, h⟩]
      · rw [decide_eq_false (show ¬ (z.length : Int) ≤ 16 by omega), decide_eq_false fun q => h q.2]
    rw [e]
    exact k
def lostI (rows : List Pg) : Int := match lostAt rows with
  | some k => (k : Int)
  | none => -1
theorem lostAt_first {rows : List Pg} {i : Nat} {n : Nat} (hr : rows[i]? = some (.lo n)) (hg : ∀ (j : Nat) r, j < i → rows[j]? = some r → r.isLo = false) : lostAt rows = some i := by
  unfold lostAt
  rw [List.findIdx?_eq_some_iff_getElem]
  have hil := (List.getElem?_eq_some_iff.mp hr).1
  refine ⟨hil, ?_, fun j hj => ?_⟩
  · rw [(List.getElem?_eq_some_iff.mp hr).2]
    rfl
  · have h := hg j _ hj (List.getElem?_eq_getElem (by omega))
    rw [h]
    decide
theorem lostAt_none {rows : List Pg} (hg : ∀ (j : Nat) r, rows[j]? = some r → r.isLo = false) : lostAt rows = none := by
  unfold lostAt
  rw [List.findIdx?_eq_none_iff]
  intro r hr
  obtain ⟨j, hj⟩ := List.getElem?_of_mem hr
  exact hg j r hj
def sp_law_first_lost (K : Fr) : Sp := fun vs H Q _ => ∃ h, vs = [.ref h] ∧ ∃ rows : List Pg, rows.length ≤ 100 ∧ RowsAt H h rows ∧ Q (.int (lostI rows)) H
theorem ok_law_first_lost (T : Tx w K mg) : FnOk P w K mg base CX0 1 (a_law_first_lost K) (fdOf K (a_law_first_lost K)) ["_law_rows"] (sp_law_first_lost K) := by
  refine (T.d_law_first_lost).ok sc_law_first_lost (fun vs H Q E h => ?_) (fun cdv A outer s H vs Q E hr h => ?_)
  · obtain ⟨_, rfl, _⟩ := h
    rfl
  refine ⟨_, PSs.nox (pss_cons (ps_for PassesOwn.never rfl (pi_range1 rfl T.z_range (pa_cons (pe_callB call_len (by rfl) T.z_len (by decide +kernel) (pa_cons (pv 0) pa_nil)) pa_nil)) (pg_name (i := 1) sc_law_first_lost.nd rfl (Or.inl rfl))
      (pss_one (ps_if (pt_cmpR op_isN (pe_ix ix_list (pe_ix ix_list (pv 0) (pv 1) (fun _ _ => rfl)) pe_int (fun _ _ => rfl)) pe_non (by first | exact nomark _ | rfl))
        (pss_one (ps_ret (pv 1)))
        pss_nil)))
      (pss_one (ps_ret (pe_un un_neg pe_int)))), ?_⟩
  obtain ⟨h, rfl, rows, hl, hr, k⟩ := h
  obtain ⟨xs, hxs, hxl⟩ := rows_len hr
  walk_at "s"
  refine ⟨by omega, by rw [hxl]; omega, ?_⟩
  refine for_range (lo := 0) (n := ((xs.length : Nat) : Int).toNat) (fun i σ H' => H' = H ∧ (∀ (j : Nat) r, j < i → rows[j]? = some r → r.isLo = false) ∧ ∃ v, σ = [some (.ref h), v]) ⟨rfl, fun j _ hj => by omega, _, rfl⟩ ?_ ?_
  · rintro i σ H' hi ⟨rfl, hg, v, rfl⟩
    rw [Int.zero_add]
    have hi' : i < rows.length := by omega
    obtain ⟨r, hx⟩ : ∃ r, rows[i]? = some r := ⟨_, List.getElem?_eq_getElem hi'⟩
    obtain ⟨ras, ra, h1, h2, h3, _⟩ := rows_at hr hx
    walk_at "s"
    refine go_ixL (sq_of h1) (atI_nat h2) ?_
    walk_at "s"
    refine go_ixL (sq_of h3) (show atI _ ((0 : Nat) : Int) = some r.shown from rfl) ?_
    refine ⟨rfl, _, rfl, ?_⟩
    cases r with
    | kn z =>
      refine iteNo (c := Pg.shown (.kn z) = V.non) (fun q => V.noConfusion q) ?_
      refine ⟨rfl, fun j r hj e => ?_, _, rfl⟩
      by_cases hji : j = i
      · rw [hji, hx] at e
        rw [← Option.some.inj e]
        rfl
      · exact hg j r (by omega) e
    | lo n =>
      refine iteYes (c := Pg.shown (.lo n) = V.non) rfl ?_
      walk_at "s"
      unfold lostI at k
      rw [lostAt_first hx hg] at k
      exact k
  · rintro σ H' ⟨rfl, hg, v, rfl⟩
    walk_at "s"
    unfold lostI at k
    rw [lostAt_none fun j r hj => hg j r (by have := (List.getElem?_eq_some_iff.mp hj).1; omega) hj] at k
    exact k
/-! W25 -/

theorem ifT {c : Bool} {A B : Prop} (h : c = true) (a : A) : if c = true then A else B := by
  rw [if_pos h]
  exact a
theorem ifF {c : Bool} {A B : Prop} (h : c = false) (b : B) : if c = true then A else B := by
  rw [h]
  exact b
theorem sp_eq : (" " : Str) = SX.S [32] := by decide +kernel
theorem ln_p (z : List Nat) : ("put " : Str) ++ SX.S z = SX.S (TL.joinL [32] [Kd.cs .put, z]) := by
  rw [show ("put " : Str) = SX.S (Kd.cs .put ++ [32]) by decide +kernel, SX.S_cat, List.append_assoc]
  rfl
theorem ln_np (k : Kd) (n : Int) (z : List Nat) : k.nm ++ (" " : Str) ++ nm n ++ (" " : Str) ++ SX.S z = SX.S (TL.joinL [32] [k.cs, numT n, z]) := by
  rw [sp_eq, ← Kd.S_cs, ← S_numT, SX.S_cat, SX.S_cat, SX.S_cat, SX.S_cat, List.append_assoc, List.append_assoc, List.append_assoc]
  rfl
theorem ln_n (k : Kd) (n : Int) : k.nm ++ (" " : Str) ++ nm n = SX.S (TL.joinL [32] [k.cs, numT n]) := by
  rw [sp_eq, ← Kd.S_cs, ← S_numT, SX.S_cat, SX.S_cat, List.append_assoc]
  rfl
theorem kd_len (k : Kd) : k.nm.length ≤ 6 := by cases k <;> decide +kernel
def sp_law_line (K : Fr) : Sp := fun vs H Q _ => ∃ a, vs = [.ref a] ∧ ∃ s : Stp, s.Ok ∧ StpAt H a s ∧ RetV (.str (SX.S s.line)) H Q
theorem ok_law_line (T : Tx w K mg) : FnOk P w K mg base CX0 1 (a_law_line K) (fdOf K (a_law_line K)) ["_law_step_here"] (sp_law_line K) := by
  refine (T.d_law_line).ok sc_law_line (fun vs H Q E h => ?_) (fun cdv A outer s H vs Q E hr h => ?_)
  · obtain ⟨_, rfl, _⟩ := h
    rfl
  refine ⟨_, PSs.nox (pss_cons (ps_set (i := 1) sc_law_line.nd rfl (Or.inl rfl) (pe_ix ix_list (pv 0) pe_int (fun _ _ => rfl)))
      (pss_cons (ps_if (pt_cmpR op_eq (pv 1) pe_str (by first | exact nomark _ | rfl))
      (pss_one (ps_set (i := 1) sc_law_line.nd rfl (Or.inl rfl) pe_str))
      pss_nil)
      (pss_cons (ps_if (pt_cmpR op_eq (pe_ix ix_list (pv 0) pe_int (fun _ _ => rfl)) pe_str (by first | exact nomark _ | rfl))
      (pss_one (ps_ret (pe_op op_add_str pe_str (pv 1))))
      pss_nil)
      (pss_cons (ps_if (pt_cmpR op_in_seq (pe_ix ix_list (pv 0) pe_int (fun _ _ => rfl)) (pe_lst (pa_cons pe_str (pa_cons pe_str (pa_cons pe_str pa_nil)))) (by first | exact nomark _ | rfl))
      (pss_one (ps_ret (pe_op op_add_str (pe_op op_add_str (pe_op op_add_str (pe_op op_add_str (pe_ix ix_list (pv 0) pe_int (fun _ _ => rfl)) pe_str) (pe_callTy call_str_int (by rfl) T.z_str (by decide +kernel) (pa_cons (pe_ix ix_list (pv 0) pe_int (fun _ _ => rfl)) pa_nil))) pe_str) (pv 1))))
      pss_nil)
      (pss_cons (ps_if (pt_cmpR op_in_seq (pe_ix ix_list (pv 0) pe_int (fun _ _ => rfl)) (pe_lst (pa_cons pe_str (pa_cons pe_str (pa_cons pe_str pa_nil)))) (by first | exact nomark _ | rfl))
      (pss_one (ps_ret (pe_op op_add_str (pe_op op_add_str (pe_ix ix_list (pv 0) pe_int (fun _ _ => rfl)) pe_str) (pe_callTy call_str_int (by rfl) T.z_str (by decide +kernel) (pa_cons (pe_ix ix_list (pv 0) pe_int (fun _ _ => rfl)) pa_nil)))))
      pss_nil)
      (pss_one (ps_ret (pe_ix ix_list (pv 0) pe_int (fun _ _ => rfl))))))))), ?_⟩
  obtain ⟨a, rfl, s, o, ha, k⟩ := h
  obtain ⟨kd, num, page⟩ := s
  have lz : (SX.S (shw page)).length ≤ 20 := by rw [SX.S_len]; exact (show (shw page).length ≤ 20 from o.shw.1)
  have ln : (nm num).length ≤ 2 := by rw [← S_numT, SX.S_len]; exact (show (numT num).length ≤ 2 from o.numT.1)
  have l1 : (" " : Str).length = 1 := by decide +kernel
  have l4 : ("put " : Str).length = 4 := by decide +kernel
  have lk := kd_len kd
  have lg : num.natAbs.log2 < 1920 := by
    have : -1 ≤ num := o.lo
    have : num < 100 := o.hi
    exact Nat.lt_of_le_of_lt (Nat.log2_le_self _) (by omega)
  obtain ⟨z, hz⟩ : ∃ z, z = shw page := ⟨_, rfl⟩
  have kk : ∀ (x : Str) H', Ex H H' → x = SX.S (Stp.line ⟨kd, num, page⟩) → Q (.str x) H' := fun x H' e h => h ▸ k H' e
  have i0 : ∀ H', Ex H H' → SqL K H' a [.str kd.nm, .int num, .str (SX.S page)] := fun H' e => sq_of (e _ _ ha)
  walk_at "s"
  refine go_ixL (i0 _ (Ex.refl _)) (show atI _ ((2 : Nat) : Int) = some (.str (SX.S page)) from rfl) ?_
  walk_at "s"
  rw [empty_eq, isS]
  refine ite2 (fun q => ?_) (fun q => ?_)
  · have e : z = [45] := hz.trans (if_pos (of_decide_eq_true q))
    walk_at "s"
    rw [dash_eq, ← e]
    clear e
    refine go_ixL (i0 _ (Ex.refl _)) (show atI _ ((0 : Nat) : Int) = some (.str kd.nm) from rfl) ?_
    walk_at "s"
    have lz : (SX.S z).length ≤ 20 := hz ▸ lz
    cases kd
    · refine iteYes rfl ?_
      walk_at "p"
      refine go_var rfl ?_
      refine ⟨_, _, rfl, rfl, sz_of (by rw [l4]; omega), ?_⟩
      exact kk _ _ (Ex.refl _) ((ln_p z).trans (by rw [hz]; rfl))
    · refine iteNo (by with_unfolding_all decide +kernel) ?_
      walk_at "s"
      refine go_ixL (i0 _ (Ex.refl _)) (show atI _ ((0 : Nat) : Int) = some (.str (Kd.nm _)) from rfl) ?_
      walk_at "s"
      intro p1 np1; generalize hEp1 : upd _ p1 _ = H1; have eH1 := exN np1 hEp1; have hp1 := atN hEp1; clear hEp1
      refine go_inL (sq_of hp1) rfl rfl ?_
      refine ⟨_, rfl, ?_⟩
      refine ifT (by with_unfolding_all decide +kernel) ?_
      walk_at "s"
      refine go_ixL (i0 _ eH1) (show atI _ ((0 : Nat) : Int) = some (.str (Kd.nm _)) from rfl) ?_
      walk_at "s"
      refine go_ixL (i0 _ eH1) (show atI _ ((1 : Nat) : Int) = some (.int num) from rfl) ?_
      refine ⟨_, rfl, lg, ?_⟩
      refine ⟨_, _, rfl, rfl, sz_of (by rw [s_len, l1]; exact (show _ + 1 + (nm num).length ≤ 100000 by omega)), ?_⟩
      walk_at "p"
      refine ⟨_, _, rfl, rfl, sz_of (by rw [s_len, s_len, l1]; exact (show _ + 1 + (nm num).length + 1 ≤ 100000 by omega)), ?_⟩
      refine go_var rfl ?_
      refine ⟨_, _, rfl, rfl, sz_of (by rw [s_len, s_len, s_len, l1]; exact (show _ + 1 + (nm num).length + 1 + _ ≤ 100000 by omega)), ?_⟩
      exact kk _ _ eH1 ((ln_np .insert num z).trans (by rw [hz]; rfl))
    · refine iteNo (by with_unfolding_all decide +kernel) ?_
      walk_at "s"
      refine go_ixL (i0 _ (Ex.refl _)) (show atI _ ((0 : Nat) : Int) = some (.str (Kd.nm _)) from rfl) ?_
      walk_at "s"
      intro p1 np1; generalize hEp1 : upd _ p1 _ = H1; have eH1 := exN np1 hEp1; have hp1 := atN hEp1; clear hEp1
      refine go_inL (sq_of hp1) rfl rfl ?_
      refine ⟨_, rfl, ?_⟩
      refine ifT (by with_unfolding_all decide +kernel) ?_
      walk_at "s"
      refine go_ixL (i0 _ eH1) (show atI _ ((0 : Nat) : Int) = some (.str (Kd.nm _)) from rfl) ?_
      walk_at "s"
      refine go_ixL (i0 _ eH1) (show atI _ ((1 : Nat) : Int) = some (.int num) from rfl) ?_
      refine ⟨_, rfl, lg, ?_⟩
      refine ⟨_, _, rfl, rfl, sz_of (by rw [s_len, l1]; exact (show _ + 1 + (nm num).length ≤ 100000 by omega)), ?_⟩
      walk_at "p"
      refine ⟨_, _, rfl, rfl, sz_of (by rw [s_len, s_len, l1]; exact (show _ + 1 + (nm num).length + 1 ≤ 100000 by omega)), ?_⟩
      refine go_var rfl ?_
      refine ⟨_, _, rfl, rfl, sz_of (by rw [s_len, s_len, s_len, l1]; exact (show _ + 1 + (nm num).length + 1 + _ ≤ 100000 by omega)), ?_⟩
      exact kk _ _ eH1 ((ln_np .set num z).trans (by rw [hz]; rfl))
    · refine iteNo (by with_unfolding_all decide +kernel) ?_
      walk_at "s"
      refine go_ixL (i0 _ (Ex.refl _)) (show atI _ ((0 : Nat) : Int) = some (.str (Kd.nm _)) from rfl) ?_
      walk_at "s"
      intro p1 np1; generalize hEp1 : upd _ p1 _ = H1; have eH1 := exN np1 hEp1; have hp1 := atN hEp1; clear hEp1
      refine go_inL (sq_of hp1) rfl rfl ?_
      refine ⟨_, rfl, ?_⟩
      refine ifT (by with_unfolding_all decide +kernel) ?_
      walk_at "s"
      refine go_ixL (i0 _ eH1) (show atI _ ((0 : Nat) : Int) = some (.str (Kd.nm _)) from rfl) ?_
      walk_at "s"
      refine go_ixL (i0 _ eH1) (show atI _ ((1 : Nat) : Int) = some (.int num) from rfl) ?_
      refine ⟨_, rfl, lg, ?_⟩
      refine ⟨_, _, rfl, rfl, sz_of (by rw [s_len, l1]; exact (show _ + 1 + (nm num).length ≤ 100000 by omega)), ?_⟩
      walk_at "p"
      refine ⟨_, _, rfl, rfl, sz_of (by rw [s_len, s_len, l1]; exact (show _ + 1 + (nm num).length + 1 ≤ 100000 by omega)), ?_⟩
      refine go_var rfl ?_
      refine ⟨_, _, rfl, rfl, sz_of (by rw [s_len, s_len, s_len, l1]; exact (show _ + 1 + (nm num).length + 1 + _ ≤ 100000 by omega)), ?_⟩
      exact kk _ _ eH1 ((ln_np .find num z).trans (by rw [hz]; rfl))
    · refine iteNo (by with_unfolding_all decide +kernel) ?_
      walk_at "s"
      refine go_ixL (i0 _ (Ex.refl _)) (show atI _ ((0 : Nat) : Int) = some (.str (Kd.nm _)) from rfl) ?_
      walk_at "s"
      intro p1 np1; generalize hEp1 : upd _ p1 _ = H1; have eH1 := exN np1 hEp1; have hp1 := atN hEp1; clear hEp1
      refine go_inL (sq_of hp1) rfl rfl ?_
      refine ⟨_, rfl, ?_⟩
      refine ifF (by with_unfolding_all decide +kernel) ?_
      walk_at "s"
      refine go_ixL (i0 _ eH1) (show atI _ ((0 : Nat) : Int) = some (.str (Kd.nm _)) from rfl) ?_
      walk_at "s"
      intro p2 np2; generalize hEp2 : upd _ p2 _ = H2; have eH2 := exN np2 hEp2; have hp2 := atN hEp2; clear hEp2
      refine go_inL (sq_of hp2) rfl rfl ?_
      refine ⟨_, rfl, ?_⟩
      refine ifT (by with_unfolding_all decide +kernel) ?_
      walk_at "s"
      refine go_ixL (i0 _ (eH1.trans eH2)) (show atI _ ((0 : Nat) : Int) = some (.str (Kd.nm _)) from rfl) ?_
      walk_at "s"
      refine go_ixL (i0 _ (eH1.trans eH2)) (show atI _ ((1 : Nat) : Int) = some (.int num) from rfl) ?_
      refine ⟨_, rfl, lg, ?_⟩
      refine ⟨_, _, rfl, rfl, sz_of (by rw [s_len, l1]; exact (show _ + 1 + (nm num).length ≤ 100000 by omega)), ?_⟩
      exact kk _ _ (eH1.trans eH2) (ln_n .take num)
    · refine iteNo (by with_unfolding_all decide +kernel) ?_
      walk_at "s"
      refine go_ixL (i0 _ (Ex.refl _)) (show atI _ ((0 : Nat) : Int) = some (.str (Kd.nm _)) from rfl) ?_
      walk_at "s"
      intro p1 np1; generalize hEp1 : upd _ p1 _ = H1; have eH1 := exN np1 hEp1; have hp1 := atN hEp1; clear hEp1
      refine go_inL (sq_of hp1) rfl rfl ?_
      refine ⟨_, rfl, ?_⟩
      refine ifF (by with_unfolding_all decide +kernel) ?_
      walk_at "s"
      refine go_ixL (i0 _ eH1) (show atI _ ((0 : Nat) : Int) = some (.str (Kd.nm _)) from rfl) ?_
      walk_at "s"
      intro p2 np2; generalize hEp2 : upd _ p2 _ = H2; have eH2 := exN np2 hEp2; have hp2 := atN hEp2; clear hEp2
      refine go_inL (sq_of hp2) rfl rfl ?_
      refine ⟨_, rfl, ?_⟩
      refine ifT (by with_unfolding_all decide +kernel) ?_
      walk_at "s"
      refine go_ixL (i0 _ (eH1.trans eH2)) (show atI _ ((0 : Nat) : Int) = some (.str (Kd.nm _)) from rfl) ?_
      walk_at "s"
      refine go_ixL (i0 _ (eH1.trans eH2)) (show atI _ ((1 : Nat) : Int) = some (.int num) from rfl) ?_
      refine ⟨_, rfl, lg, ?_⟩
      refine ⟨_, _, rfl, rfl, sz_of (by rw [s_len, l1]; exact (show _ + 1 + (nm num).length ≤ 100000 by omega)), ?_⟩
      exact kk _ _ (eH1.trans eH2) (ln_n .lose num)
    · refine iteNo (by with_unfolding_all decide +kernel) ?_
      walk_at "s"
      refine go_ixL (i0 _ (Ex.refl _)) (show atI _ ((0 : Nat) : Int) = some (.str (Kd.nm _)) from rfl) ?_
      walk_at "s"
      intro p1 np1; generalize hEp1 : upd _ p1 _ = H1; have eH1 := exN np1 hEp1; have hp1 := atN hEp1; clear hEp1
      refine go_inL (sq_of hp1) rfl rfl ?_
      refine ⟨_, rfl, ?_⟩
      refine ifF (by with_unfolding_all decide +kernel) ?_
      walk_at "s"
      refine go_ixL (i0 _ eH1) (show atI _ ((0 : Nat) : Int) = some (.str (Kd.nm _)) from rfl) ?_
      walk_at "s"
      intro p2 np2; generalize hEp2 : upd _ p2 _ = H2; have eH2 := exN np2 hEp2; have hp2 := atN hEp2; clear hEp2
      refine go_inL (sq_of hp2) rfl rfl ?_
      refine ⟨_, rfl, ?_⟩
      refine ifT (by with_unfolding_all decide +kernel) ?_
      walk_at "s"
      refine go_ixL (i0 _ (eH1.trans eH2)) (show atI _ ((0 : Nat) : Int) = some (.str (Kd.nm _)) from rfl) ?_
      walk_at "s"
      refine go_ixL (i0 _ (eH1.trans eH2)) (show atI _ ((1 : Nat) : Int) = some (.int num) from rfl) ?_
      refine ⟨_, rfl, lg, ?_⟩
      refine ⟨_, _, rfl, rfl, sz_of (by rw [s_len, l1]; exact (show _ + 1 + (nm num).length ≤ 100000 by omega)), ?_⟩
      exact kk _ _ (eH1.trans eH2) (ln_n .bound num)
    · refine iteNo (by with_unfolding_all decide +kernel) ?_
      walk_at "s"
      refine go_ixL (i0 _ (Ex.refl _)) (show atI _ ((0 : Nat) : Int) = some (.str (Kd.nm _)) from rfl) ?_
      walk_at "s"
      intro p1 np1; generalize hEp1 : upd _ p1 _ = H1; have eH1 := exN np1 hEp1; have hp1 := atN hEp1; clear hEp1
      refine go_inL (sq_of hp1) rfl rfl ?_
      refine ⟨_, rfl, ?_⟩
      refine ifF (by with_unfolding_all decide +kernel) ?_
      walk_at "s"
      refine go_ixL (i0 _ eH1) (show atI _ ((0 : Nat) : Int) = some (.str (Kd.nm _)) from rfl) ?_
      walk_at "s"
      intro p2 np2; generalize hEp2 : upd _ p2 _ = H2; have eH2 := exN np2 hEp2; have hp2 := atN hEp2; clear hEp2
      refine go_inL (sq_of hp2) rfl rfl ?_
      refine ⟨_, rfl, ?_⟩
      refine ifF (by with_unfolding_all decide +kernel) ?_
      walk_at "s"
      refine go_ixL (i0 _ (eH1.trans eH2)) (show atI _ ((0 : Nat) : Int) = some (.str (Kd.nm _)) from rfl) ?_
      exact kk _ _ (eH1.trans eH2) (Kd.S_cs .mark).symm
    · refine iteNo (by with_unfolding_all decide +kernel) ?_
      walk_at "s"
      refine go_ixL (i0 _ (Ex.refl _)) (show atI _ ((0 : Nat) : Int) = some (.str (Kd.nm _)) from rfl) ?_
      walk_at "s"
      intro p1 np1; generalize hEp1 : upd _ p1 _ = H1; have eH1 := exN np1 hEp1; have hp1 := atN hEp1; clear hEp1
      refine go_inL (sq_of hp1) rfl rfl ?_
      refine ⟨_, rfl, ?_⟩
      refine ifF (by with_unfolding_all decide +kernel) ?_
      walk_at "s"
      refine go_ixL (i0 _ eH1) (show atI _ ((0 : Nat) : Int) = some (.str (Kd.nm _)) from rfl) ?_
      walk_at "s"
      intro p2 np2; generalize hEp2 : upd _ p2 _ = H2; have eH2 := exN np2 hEp2; have hp2 := atN hEp2; clear hEp2
      refine go_inL (sq_of hp2) rfl rfl ?_
      refine ⟨_, rfl, ?_⟩
      refine ifF (by with_unfolding_all decide +kernel) ?_
      walk_at "s"
      refine go_ixL (i0 _ (eH1.trans eH2)) (show atI _ ((0 : Nat) : Int) = some (.str (Kd.nm _)) from rfl) ?_
      exact kk _ _ (eH1.trans eH2) (Kd.S_cs .tear).symm
  · have e : page = z := (hz.trans (if_neg fun y => q (decide_eq_true y))).symm
    walk_at "s"
    rw [e]
    clear e
    refine go_ixL (i0 _ (Ex.refl _)) (show atI _ ((0 : Nat) : Int) = some (.str kd.nm) from rfl) ?_
    walk_at "s"
    have lz : (SX.S z).length ≤ 20 := hz ▸ lz
    cases kd
    · refine iteYes rfl ?_
      walk_at "p"
      refine go_var rfl ?_
      refine ⟨_, _, rfl, rfl, sz_of (by rw [l4]; omega), ?_⟩
      exact kk _ _ (Ex.refl _) ((ln_p z).trans (by rw [hz]; rfl))
    · refine iteNo (by with_unfolding_all decide +kernel) ?_
      walk_at "s"
      refine go_ixL (i0 _ (Ex.refl _)) (show atI _ ((0 : Nat) : Int) = some (.str (Kd.nm _)) from rfl) ?_
      walk_at "s"
      intro p1 np1; generalize hEp1 : upd _ p1 _ = H1; have eH1 := exN np1 hEp1; have hp1 := atN hEp1; clear hEp1
      refine go_inL (sq_of hp1) rfl rfl ?_
      refine ⟨_, rfl, ?_⟩
      refine ifT (by with_unfolding_all decide +kernel) ?_
      walk_at "s"
      refine go_ixL (i0 _ eH1) (show atI _ ((0 : Nat) : Int) = some (.str (Kd.nm _)) from rfl) ?_
      walk_at "s"
      refine go_ixL (i0 _ eH1) (show atI _ ((1 : Nat) : Int) = some (.int num) from rfl) ?_
      refine ⟨_, rfl, lg, ?_⟩
      refine ⟨_, _, rfl, rfl, sz_of (by rw [s_len, l1]; exact (show _ + 1 + (nm num).length ≤ 100000 by omega)), ?_⟩
      walk_at "p"
      refine ⟨_, _, rfl, rfl, sz_of (by rw [s_len, s_len, l1]; exact (show _ + 1 + (nm num).length + 1 ≤ 100000 by omega)), ?_⟩
      refine go_var rfl ?_
      refine ⟨_, _, rfl, rfl, sz_of (by rw [s_len, s_len, s_len, l1]; exact (show _ + 1 + (nm num).length + 1 + _ ≤ 100000 by omega)), ?_⟩
      exact kk _ _ eH1 ((ln_np .insert num z).trans (by rw [hz]; rfl))
    · refine iteNo (by with_unfolding_all decide +kernel) ?_
      walk_at "s"
      refine go_ixL (i0 _ (Ex.refl _)) (show atI _ ((0 : Nat) : Int) = some (.str (Kd.nm _)) from rfl) ?_
      walk_at "s"
      intro p1 np1; generalize hEp1 : upd _ p1 _ = H1; have eH1 := exN np1 hEp1; have hp1 := atN hEp1; clear hEp1
      refine go_inL (sq_of hp1) rfl rfl ?_
      refine ⟨_, rfl, ?_⟩
      refine ifT (by with_unfolding_all decide +kernel) ?_
      walk_at "s"
      refine go_ixL (i0 _ eH1) (show atI _ ((0 : Nat) : Int) = some (.str (Kd.nm _)) from rfl) ?_
      walk_at "s"
      refine go_ixL (i0 _ eH1) (show atI _ ((1 : Nat) : Int) = some (.int num) from rfl) ?_
      refine ⟨_, rfl, lg, ?_⟩
      refine ⟨_, _, rfl, rfl, sz_of (by rw [s_len, l1]; exact (show _ + 1 + (nm num).length ≤ 100000 by omega)), ?_⟩
      walk_at "p"
      refine ⟨_, _, rfl, rfl, sz_of (by rw [s_len, s_len, l1]; exact (show _ + 1 + (nm num).length + 1 ≤ 100000 by omega)), ?_⟩
      refine go_var rfl ?_
      refine ⟨_, _, rfl, rfl, sz_of (by rw [s_len, s_len, s_len, l1]; exact (show _ + 1 + (nm num).length + 1 + _ ≤ 100000 by omega)), ?_⟩
      exact kk _ _ eH1 ((ln_np .set num z).trans (by rw [hz]; rfl))
    · refine iteNo (by with_unfolding_all decide +kernel) ?_
      walk_at "s"
      refine go_ixL (i0 _ (Ex.refl _)) (show atI _ ((0 : Nat) : Int) = some (.str (Kd.nm _)) from rfl) ?_
      walk_at "s"
      intro p1 np1; generalize hEp1 : upd _ p1 _ = H1; have eH1 := exN np1 hEp1; have hp1 := atN hEp1; clear hEp1
      refine go_inL (sq_of hp1) rfl rfl ?_
      refine ⟨_, rfl, ?_⟩
      refine ifT (by with_unfolding_all decide +kernel) ?_
      walk_at "s"
      refine go_ixL (i0 _ eH1) (show atI _ ((0 : Nat) : Int) = some (.str (Kd.nm _)) from rfl) ?_
      walk_at "s"
      refine go_ixL (i0 _ eH1) (show atI _ ((1 : Nat) : Int) = some (.int num) from rfl) ?_
      refine ⟨_, rfl, lg, ?_⟩
      refine ⟨_, _, rfl, rfl, sz_of (by rw [s_len, l1]; exact (show _ + 1 + (nm num).length ≤ 100000 by omega)), ?_⟩
      walk_at "p"
      refine ⟨_, _, rfl, rfl, sz_of (by rw [s_len, s_len, l1]; exact (show _ + 1 + (nm num).length + 1 ≤ 100000 by omega)), ?_⟩
      refine go_var rfl ?_
      refine ⟨_, _, rfl, rfl, sz_of (by rw [s_len, s_len, s_len, l1]; exact (show _ + 1 + (nm num).length + 1 + _ ≤ 100000 by omega)), ?_⟩
      exact kk _ _ eH1 ((ln_np .find num z).trans (by rw [hz]; rfl))
    · refine iteNo (by with_unfolding_all decide +kernel) ?_
      walk_at "s"
      refine go_ixL (i0 _ (Ex.refl _)) (show atI _ ((0 : Nat) : Int) = some (.str (Kd.nm _)) from rfl) ?_
      walk_at "s"
      intro p1 np1; generalize hEp1 : upd _ p1 _ = H1; have eH1 := exN np1 hEp1; have hp1 := atN hEp1; clear hEp1
      refine go_inL (sq_of hp1) rfl rfl ?_
      refine ⟨_, rfl, ?_⟩
      refine ifF (by with_unfolding_all decide +kernel) ?_
      walk_at "s"
      refine go_ixL (i0 _ eH1) (show atI _ ((0 : Nat) : Int) = some (.str (Kd.nm _)) from rfl) ?_
      walk_at "s"
      intro p2 np2; generalize hEp2 : upd _ p2 _ = H2; have eH2 := exN np2 hEp2; have hp2 := atN hEp2; clear hEp2
      refine go_inL (sq_of hp2) rfl rfl ?_
      refine ⟨_, rfl, ?_⟩
      refine ifT (by with_unfolding_all decide +kernel) ?_
      walk_at "s"
      refine go_ixL (i0 _ (eH1.trans eH2)) (show atI _ ((0 : Nat) : Int) = some (.str (Kd.nm _)) from rfl) ?_
      walk_at "s"
      refine go_ixL (i0 _ (eH1.trans eH2)) (show atI _ ((1 : Nat) : Int) = some (.int num) from rfl) ?_
      refine ⟨_, rfl, lg, ?_⟩
      refine ⟨_, _, rfl, rfl, sz_of (by rw [s_len, l1]; exact (show _ + 1 + (nm num).length ≤ 100000 by omega)), ?_⟩
      exact kk _ _ (eH1.trans eH2) (ln_n .take num)
    · refine iteNo (by with_unfolding_all decide +kernel) ?_
      walk_at "s"
      refine go_ixL (i0 _ (Ex.refl _)) (show atI _ ((0 : Nat) : Int) = some (.str (Kd.nm _)) from rfl) ?_
      walk_at "s"
      intro p1 np1; generalize hEp1 : upd _ p1 _ = H1; have eH1 := exN np1 hEp1; have hp1 := atN hEp1; clear hEp1
      refine go_inL (sq_of hp1) rfl rfl ?_
      refine ⟨_, rfl, ?_⟩
      refine ifF (by with_unfolding_all decide +kernel) ?_
      walk_at "s"
      refine go_ixL (i0 _ eH1) (show atI _ ((0 : Nat) : Int) = some (.str (Kd.nm _)) from rfl) ?_
      walk_at "s"
      intro p2 np2; generalize hEp2 : upd _ p2 _ = H2; have eH2 := exN np2 hEp2; have hp2 := atN hEp2; clear hEp2
      refine go_inL (sq_of hp2) rfl rfl ?_
      refine ⟨_, rfl, ?_⟩
      refine ifT (by with_unfolding_all decide +kernel) ?_
      walk_at "s"
      refine go_ixL (i0 _ (eH1.trans eH2)) (show atI _ ((0 : Nat) : Int) = some (.str (Kd.nm _)) from rfl) ?_
      walk_at "s"
      refine go_ixL (i0 _ (eH1.trans eH2)) (show atI _ ((1 : Nat) : Int) = some (.int num) from rfl) ?_
      refine ⟨_, rfl, lg, ?_⟩
      refine ⟨_, _, rfl, rfl, sz_of (by rw [s_len, l1]; exact (show _ + 1 + (nm num).length ≤ 100000 by omega)), ?_⟩
      exact kk _ _ (eH1.trans eH2) (ln_n .lose num)
    · refine iteNo (by with_unfolding_all decide +kernel) ?_
      walk_at "s"
      refine go_ixL (i0 _ (Ex.refl _)) (show atI _ ((0 : Nat) : Int) = some (.str (Kd.nm _)) from rfl) ?_
      walk_at "s"
      intro p1 np1; generalize hEp1 : upd _ p1 _ = H1; have eH1 := exN np1 hEp1; have hp1 := atN hEp1; clear hEp1
      refine go_inL (sq_of hp1) rfl rfl ?_
      refine ⟨_, rfl, ?_⟩
      refine ifF (by with_unfolding_all decide +kernel) ?_
      walk_at "s"
      refine go_ixL (i0 _ eH1) (show atI _ ((0 : Nat) : Int) = some (.str (Kd.nm _)) from rfl) ?_
      walk_at "s"
      intro p2 np2; generalize hEp2 : upd _ p2 _ = H2; have eH2 := exN np2 hEp2; have hp2 := atN hEp2; clear hEp2
      refine go_inL (sq_of hp2) rfl rfl ?_
      refine ⟨_, rfl, ?_⟩
      refine ifT (by with_unfolding_all decide +kernel) ?_
      walk_at "s"
      refine go_ixL (i0 _ (eH1.trans eH2)) (show atI _ ((0 : Nat) : Int) = some (.str (Kd.nm _)) from rfl) ?_
      walk_at "s"
      refine go_ixL (i0 _ (eH1.trans eH2)) (show atI _ ((1 : Nat) : Int) = some (.int num) from rfl) ?_
      refine ⟨_, rfl, lg, ?_⟩
      refine ⟨_, _, rfl, rfl, sz_of (by rw [s_len, l1]; exact (show _ + 1 + (nm num).length ≤ 100000 by omega)), ?_⟩
      exact kk _ _ (eH1.trans eH2) (ln_n .bound num)
    · refine iteNo (by with_unfolding_all decide +kernel) ?_
      walk_at "s"
      refine go_ixL (i0 _ (Ex.refl _)) (show atI _ ((0 : Nat) : Int) = some (.str (Kd.nm _)) from rfl) ?_
      walk_at "s"
      intro p1 np1; generalize hEp1 : upd _ p1 _ = H1; have eH1 := exN np1 hEp1; have hp1 := atN hEp1; clear hEp1
      refine go_inL (sq_of hp1) rfl rfl ?_
      refine ⟨_, rfl, ?_⟩
      refine ifF (by with_unfolding_all decide +kernel) ?_
      walk_at "s"
      refine go_ixL (i0 _ eH1) (show atI _ ((0 : Nat) : Int) = some (.str (Kd.nm _)) from rfl) ?_
      walk_at "s"
      intro p2 np2; generalize hEp2 : upd _ p2 _ = H2; have eH2 := exN np2 hEp2; have hp2 := atN hEp2; clear hEp2
      refine go_inL (sq_of hp2) rfl rfl ?_
      refine ⟨_, rfl, ?_⟩
      refine ifF (by with_unfolding_all decide +kernel) ?_
      walk_at "s"
      refine go_ixL (i0 _ (eH1.trans eH2)) (show atI _ ((0 : Nat) : Int) = some (.str (Kd.nm _)) from rfl) ?_
      exact kk _ _ (eH1.trans eH2) (Kd.S_cs .mark).symm
    · refine iteNo (by with_unfolding_all decide +kernel) ?_
      walk_at "s"
      refine go_ixL (i0 _ (Ex.refl _)) (show atI _ ((0 : Nat) : Int) = some (.str (Kd.nm _)) from rfl) ?_
      walk_at "s"
      intro p1 np1; generalize hEp1 : upd _ p1 _ = H1; have eH1 := exN np1 hEp1; have hp1 := atN hEp1; clear hEp1
      refine go_inL (sq_of hp1) rfl rfl ?_
      refine ⟨_, rfl, ?_⟩
      refine ifF (by with_unfolding_all decide +kernel) ?_
      walk_at "s"
      refine go_ixL (i0 _ eH1) (show atI _ ((0 : Nat) : Int) = some (.str (Kd.nm _)) from rfl) ?_
      walk_at "s"
      intro p2 np2; generalize hEp2 : upd _ p2 _ = H2; have eH2 := exN np2 hEp2; have hp2 := atN hEp2; clear hEp2
      refine go_inL (sq_of hp2) rfl rfl ?_
      refine ⟨_, rfl, ?_⟩
      refine ifF (by with_unfolding_all decide +kernel) ?_
      walk_at "s"
      refine go_ixL (i0 _ (eH1.trans eH2)) (show atI _ ((0 : Nat) : Int) = some (.str (Kd.nm _)) from rfl) ?_
      exact kk _ _ (eH1.trans eH2) (Kd.S_cs .tear).symm
/-! W26 -/

theorem paired_app {α β : Type} {R : α → β → Prop} : ∀ {a : List α} {b : List β} {c : List α} {d : List β}, Paired R a b → Paired R c d → Paired R (a ++ c) (b ++ d)
  | _, _, _, _, .nil, q => q
  | _, _, _, _, .cons h t, q => .cons h (paired_app t q)
theorem paired_take {α β : Type} {R : α → β → Prop} : ∀ {a : List α} {b : List β} (k : Nat), Paired R a b → Paired R (a.take k) (b.take k)
  | _, _, 0, _ => .nil
  | _, _, _ + 1, .nil => .nil
  | _, _, k + 1, .cons h t => .cons h (paired_take k t)
theorem paired_drop {α β : Type} {R : α → β → Prop} : ∀ {a : List α} {b : List β} (k : Nat), Paired R a b → Paired R (a.drop k) (b.drop k)
  | _, _, 0, p => p
  | _, _, _ + 1, .nil => .nil
  | _, _, k + 1, .cons _ t => paired_drop k t
def goodL (L z : List Nat) : Prop := (∀ c ∈ z, c ∈ L) ∧ z.length ≤ 16
instance (L z : List Nat) : Decidable (goodL L z) := inferInstanceAs (Decidable ((∀ c ∈ z, c ∈ L) ∧ z.length ≤ 16))
def rowI (rows : List Pg) (n : Int) : Option Pg := if 0 ≤ n then rows[n.toNat]? else none
/-- the law's rows behind a step -/
def chg (L : List Nat) (lim : Nat) (rows : List Pg) (s : Stp) : Option (List Pg) := match s.kd with
  | .put => if goodL L s.page ∧ rows.length ≠ lim ∧ Acc.tot rows + s.page.length ≤ 16 then some (insAt rows rows.length (.kn s.page)) else none
  | .insert => if (0 ≤ s.num ∧ s.num ≤ rows.length) ∧ goodL L s.page ∧ rows.length ≠ lim ∧ Acc.tot rows + s.page.length ≤ 16 then some (insAt rows s.num.toNat (.kn s.page)) else none
  | .take => match rowI rows s.num with
    | some _ => some (delAt rows s.num.toNat)
    | none => none
  | .lose => match rowI rows s.num with
    | some (.kn y) => some (setAt rows s.num.toNat (.lo y.length))
    | _ => none
  | .set => match rowI rows s.num with
    | some (.kn y) => if goodL L s.page ∧ Acc.tot rows + s.page.length ≤ 16 + y.length then some (setAt rows s.num.toNat (.kn s.page)) else none
    | _ => none
  | .find => match rowI rows s.num with
    | some (.lo m) => if goodL L s.page ∧ m = s.page.length then some (setAt rows s.num.toNat (.kn s.page)) else none
    | _ => none
  | _ => none
section
variable {L : List Nat} {lim : Nat} {rows : List Pg} {num : Int} {page y : List Nat} {m : Nat} {r : Pg}
theorem rowI_nat {k : Nat} : rowI rows (k : Int) = rows[k]? := by
  unfold rowI
  rw [if_pos (by omega), Int.toNat_natCast]
theorem rowI_bad (h : ¬ (0 ≤ num ∧ num < rows.length)) : rowI rows num = none := by
  unfold rowI
  by_cases h0 : 0 ≤ num
  · rw [if_pos h0, List.getElem?_eq_none (by omega)]
  · rw [if_neg h0]
theorem chg_take (h : rowI rows num = some r) : chg L lim rows ⟨.take, num, page⟩ = some (delAt rows num.toNat) := by
  show (match rowI rows num with | some _ => _ | none => _) = _
  rw [h]
theorem chg_loseK (h : rowI rows num = some (.kn y)) : chg L lim rows ⟨.lose, num, page⟩ = some (setAt rows num.toNat (.lo y.length)) := by
  show (match rowI rows num with | some (.kn y) => _ | _ => _) = _
  rw [h]
theorem chg_loseL (h : rowI rows num = some (.lo m)) : chg L lim rows ⟨.lose, num, page⟩ = none := by
  show (match rowI rows num with | some (.kn y) => _ | _ => _) = _
  rw [h]
theorem chg_setK (h : rowI rows num = some (.kn y)) : chg L lim rows ⟨.set, num, page⟩ = if goodL L page ∧ Acc.tot rows + page.length ≤ 16 + y.length then some (setAt rows num.toNat (.kn page)) else none := by
  show (match rowI rows num with | some (.kn y) => _ | _ => _) = _
  rw [h]
theorem chg_setL (h : rowI rows num = some (.lo m)) : chg L lim rows ⟨.set, num, page⟩ = none := by
  show (match rowI rows num with | some (.kn y) => _ | _ => _) = _
  rw [h]
theorem chg_findL (h : rowI rows num = some (.lo m)) : chg L lim rows ⟨.find, num, page⟩ = if goodL L page ∧ m = page.length then some (setAt rows num.toNat (.kn page)) else none := by
  show (match rowI rows num with | some (.lo m) => _ | _ => _) = _
  rw [h]
theorem chg_findK (h : rowI rows num = some (.kn y)) : chg L lim rows ⟨.find, num, page⟩ = none := by
  show (match rowI rows num with | some (.lo m) => _ | _ => _) = _
  rw [h]
theorem chg_bad (h : rowI rows num = none) {k : Kd} (hk : k = .take ∨ k = .lose ∨ k = .set ∨ k = .find) : chg L lim rows ⟨k, num, page⟩ = none := by
  rcases hk with rfl | rfl | rfl | rfl
  · show (match rowI rows num with | some _ => _ | none => _) = _
    rw [h]
  · show (match rowI rows num with | some (.kn y) => _ | _ => _) = _
    rw [h]
  · show (match rowI rows num with | some (.kn y) => _ | _ => _) = _
    rw [h]
  · show (match rowI rows num with | some (.lo m) => _ | _ => _) = _
    rw [h]
theorem chg_badg (hg : ¬ goodL L page) {k : Kd} (hk : k = .set ∨ k = .find) : chg L lim rows ⟨k, num, page⟩ = none := by
  cases h : rowI rows num with
  | none => exact chg_bad h (hk.elim (fun z => .inr (.inr (.inl z))) fun z => .inr (.inr (.inr z)))
  | some r =>
    rcases hk with rfl | rfl
    · cases r with
      | kn y => rw [chg_setK h, if_neg fun q => hg q.1]
      | lo m => exact chg_setL h
    · cases r with
      | kn y => exact chg_findK h
      | lo m => rw [chg_findL h, if_neg fun q => hg q.1]
end
def sp_law_changed (K : Fr) : Sp := fun vs H Q _ => ∃ (h a : Addr) (lim : Nat) (L : List Nat), vs = [.ref h, .ref a, .int (lim : Int), .str (SX.S L)] ∧ ∃ (G : Hp) (rows : List Pg) (s : Stp), Ex G H ∧ RowsAt G h rows ∧ rows.length ≤ 100 ∧ StpAt G a s ∧ s.Ok ∧ s.kd ≠ .mark ∧ s.kd ≠ .tear ∧ s.kd ≠ .bound ∧
  (chg L lim rows s = none → RetV .non H Q) ∧ (∀ rows', chg L lim rows s = some rows' → ∀ h' G' H', Gr G H G' H' → Ex H H' → RowsAt G' h' rows' → Q (.ref h') H')
theorem ok_law_changed (T : Tx w K mg) : FnOk P w K mg base CX0 2 (a_law_changed K) (fdOf K (a_law_changed K)) ["_law_rows", "_law_step_here", "_law_limit", "_law_letters"] (sp_law_changed K) := by
  refine (T.d_law_changed).ok sc_law_changed (fun vs H Q E h => ?_) (fun cdv A outer s H vs Q E hr h => ?_)
  · obtain ⟨_, _, _, _, rfl, _⟩ := h
    rfl
  refine ⟨_, PSs.nox (pss_cons (ps_set (i := 4) sc_law_changed.nd rfl (Or.inl rfl) (pe_ix ix_list (pv 1) pe_int (fun _ _ => rfl)))
      (pss_cons (ps_set (i := 5) sc_law_changed.nd rfl (Or.inl rfl) (pe_ix ix_list (pv 1) pe_int (fun _ _ => rfl)))
      (pss_cons (ps_set (i := 6) sc_law_changed.nd rfl (Or.inl rfl) (pe_ix ix_list (pv 1) pe_int (fun _ _ => rfl)))
      (pss_cons (ps_set (i := 7) sc_law_changed.nd rfl (Or.inl rfl) (pe_lst (pa_cons (pv 6) (pa_cons (pe_callB call_len (by rfl) T.z_len (by decide +kernel) (pa_cons (pv 6) pa_nil)) pa_nil))))
      (pss_cons (ps_set (i := 8) sc_law_changed.nd rfl (Or.inl rfl) (pe_op op_add (pe_callB (cr_sum rfl) (by rfl) T.z_sum (by decide +kernel) (pa_cons (pe_lc (own := [("_law_one", 10)]) (g := gName 10) (tt := tYes) rfl sc_law_changed.nd (pi_list (pv 0)) (blkOk_by (N := N_law_changed) (sc := defScope s_law_changed) (by decide +kernel)) (fun _ _ _ _ _ => pg_name (i := 10) sc_law_changed.nd rfl (Or.inl rfl)) (fun _ _ _ _ _ => pts_nil) (fun _ _ _ _ _ => (pe_callTy call_int1 (by rfl) T.z_int (by decide +kernel) (pa_cons (pe_ix (r := rIxL K) ix_list (pv 10) pe_int (fun _ _ => rfl)) pa_nil)))) pa_nil)) (pe_callB call_len (by rfl) T.z_len (by decide +kernel) (pa_cons (pv 6) pa_nil))))
      (pss_cons (ps_if (pt_cmpR op_eq (pv 4) pe_str (by first | exact nomark _ | rfl))
      (pss_one (ps_set (i := 5) sc_law_changed.nd rfl (Or.inl rfl) (pe_callB call_len (by rfl) T.z_len (by decide +kernel) (pa_cons (pv 0) pa_nil))))
      pss_nil)
      (pss_cons (ps_if (pt_cmpR op_in_seq (pv 4) (pe_lst (pa_cons pe_str (pa_cons pe_str pa_nil))) (by first | exact nomark _ | rfl))
      (pss_cons (ps_if (PW.pt (pw_or (pt_not (pt_chain op_le op_le pe_int (pv 5) (pe_callB call_len (by rfl) T.z_len (by decide +kernel) (pa_cons (pv 0) pa_nil)))) (pw_or1 (pt_not (pt_val (pe_call (ok_law_page_taken T) (hr.mono (by decide)) rfl T.g_law_page_taken T.d_law_page_taken.kp T.b_law_page_taken .nil pass0 (pa_cons (pv 6) (pa_cons (pv 3) pa_nil))))))))
        (pss_one (ps_ret pe_non))
        pss_nil)
        (pss_cons (ps_if (PW.pt (pw_or (pt_cmpR op_eq (pe_callB call_len (by rfl) T.z_len (by decide +kernel) (pa_cons (pv 0) pa_nil)) (pv 2) (by first | exact nomark _ | rfl)) (pw_or1 (pt_cmpR op_gt (pv 8) pe_int (by first | exact nomark _ | rfl)))))
        (pss_one (ps_ret pe_non))
        pss_nil)
        (pss_one (ps_ret (pe_op op_cat (pe_op op_cat (pe_slice sl_list (pv 0) po_none (po_some (pv 5))) (pe_lst (pa_cons (pv 7) pa_nil))) (pe_slice sl_list (pv 0) (po_some (pv 5)) po_none))))))
      pss_nil)
      (pss_cons (ps_if (pt_not (pt_chain op_le op_lt pe_int (pv 5) (pe_callB call_len (by rfl) T.z_len (by decide +kernel) (pa_cons (pv 0) pa_nil))))
      (pss_one (ps_ret pe_non))
      pss_nil)
      (pss_cons (ps_if (pt_cmpR op_eq (pv 4) pe_str (by first | exact nomark _ | rfl))
      (pss_one (ps_ret (pe_op op_cat (pe_slice sl_list (pv 0) po_none (po_some (pv 5))) (pe_slice sl_list (pv 0) (po_some (pe_op op_add (pv 5) pe_int)) po_none))))
      pss_nil)
      (pss_cons (ps_set (i := 9) sc_law_changed.nd rfl (Or.inl rfl) (pe_ix ix_list (pv 0) (pv 5) (fun _ _ => rfl)))
      (pss_cons (ps_if (pt_cmpR op_eq (pv 4) pe_str (by first | exact nomark _ | rfl))
      (pss_cons (ps_if (pt_cmpR op_isN (pe_ix ix_list (pv 9) pe_int (fun _ _ => rfl)) pe_non (by first | exact nomark _ | rfl))
        (pss_one (ps_ret pe_non))
        pss_nil)
        (pss_one (ps_set (i := 7) sc_law_changed.nd rfl (Or.inl rfl) (pe_lst (pa_cons pe_non (pa_cons (pe_ix ix_list (pv 9) pe_int (fun _ _ => rfl)) pa_nil))))))
      (pss_one (ps_if (pt_not (pt_val (pe_call (ok_law_page_taken T) (hr.mono (by decide)) rfl T.g_law_page_taken T.d_law_page_taken.kp T.b_law_page_taken .nil pass0 (pa_cons (pv 6) (pa_cons (pv 3) pa_nil)))))
        (pss_one (ps_ret pe_non))
        (pss_one (ps_if (pt_cmpR op_eq (pv 4) pe_str (by first | exact nomark _ | rfl))
          (pss_one (ps_if (PW.pt (pw_or (pt_cmpR op_isN (pe_ix ix_list (pv 9) pe_int (fun _ _ => rfl)) pe_non (by first | exact nomark _ | rfl)) (pw_or1 (pt_cmpR op_gt (pe_op op_sub (pv 8) (pe_ix ix_list (pv 9) pe_int (fun _ _ => rfl))) pe_int (by first | exact nomark _ | rfl)))))
            (pss_one (ps_ret pe_non))
            pss_nil))
          (pss_one (ps_if (PW.pt (pw_or (pt_cmpR op_notN (pe_ix ix_list (pv 9) pe_int (fun _ _ => rfl)) pe_non (by first | exact nomark _ | rfl)) (pw_or1 (pt_cmpR op_ne (pe_ix ix_list (pv 9) pe_int (fun _ _ => rfl)) (pe_callB call_len (by rfl) T.z_len (by decide +kernel) (pa_cons (pv 6) pa_nil)) (by first | exact nomark _ | rfl)))))
            (pss_one (ps_ret pe_non))
            pss_nil)))))))
      (pss_one (ps_ret (pe_op op_cat (pe_op op_cat (pe_slice sl_list (pv 0) po_none (po_some (pv 5))) (pe_lst (pa_cons (pv 7) pa_nil))) (pe_slice sl_list (pv 0) (po_some (pe_op op_add (pv 5) pe_int)) po_none))))))))))))))), ?_⟩
  obtain ⟨h, a, lim, L, rfl, G, rows, s, hG, hr, hl, ha, so, n1, n2, n3, kN, kS⟩ := h
  obtain ⟨ras, hh, hp⟩ := hr
  have hlen := Paired.length hp
  obtain ⟨kd, num, page⟩ := s
  have pl : (SX.S page).length ≤ 20 := by rw [SX.S_len]; exact (show page.length ≤ 20 from so.len)
  have ha' := hG _ _ ha
  walk_at "s"
  refine go_ixL (sq_of ha') (show atI _ ((0 : Nat) : Int) = some (.str kd.nm) from rfl) ?_
  walk_at "s"
  refine go_ixL (sq_of ha') (show atI _ ((1 : Nat) : Int) = some (.int num) from rfl) ?_
  walk_at "s"
  refine go_ixL (sq_of ha') (show atI _ ((2 : Nat) : Int) = some (.str (SX.S page)) from rfl) ?_
  walk_at "s"
  refine ⟨_, _, rfl, ⟨sz_of (by omega), rfl⟩, ?_⟩
  walk_at "s"
  intro r1 nr1; generalize hEr1 : upd _ r1 _ = H1; have eH1 := exN nr1 hEr1; have hr1 := atN hEr1; clear hEr1
  walk_at "s"
  have hpg : ∀ i, i < rows.length → ∃ ra, (ras.map V.ref).getD i .non = .ref ra ∧ G ra = some (.lst [(rows.getD i default).shown, .int ((rows.getD i default).size : Int)]) := fun i hi => by
    obtain ⟨ra, hra⟩ : ∃ ra, ras[i]? = some ra := ⟨_, List.getElem?_eq_getElem (by omega)⟩
    obtain ⟨y, hy, hr⟩ := paired_at hp hra
    refine ⟨ra, by simp [List.getD, hra], ?_⟩
    rw [show rows.getD i default = y by simp [List.getD, hy]]
    exact hr
  refine el_cL (a := h) (xs := ras.map V.ref) (fun _ => true) (fun i => .int ((rows.getD i default).size : Int)) (ev_var rfl) (sq_of (eH1 _ _ (hG _ _ hh))) (by rw [List.length_map]; omega) (fun _ => rfl) (fun _ _ _ _ => et_yes) (fun i H2 e2 hi _ => ?_) H1 (Ex.refl H1) _ fun q H2 nq e2 hq => ?_
  · intro H3 e3 Q3 q3
    rw [List.length_map] at hi
    obtain ⟨ra, h1, h2⟩ := hpg i (by omega)
    rw [h1]
    walk_at "s"
    refine go_ixL (sq_of (e3 _ _ (e2 _ _ (eH1 _ _ (hG _ _ h2))))) (show atI _ ((1 : Nat) : Int) = some (.int ((rows.getD i default).size : Int)) from rfl) ?_
    exact .inl ⟨_, rfl, q3 _ (Ex.refl _)⟩
  rw [given_all, List.length_map, hlen] at hq
  have eqs : ((List.range rows.length).map fun i => V.int ((rows.getD i default).size : Int)) = (rows.map fun r => (r.size : Int)).map V.int := by
    rw [List.map_map]
    refine List.ext_getElem? fun i => ?_
    rw [List.getElem?_map, List.getElem?_map]
    by_cases hi : i < rows.length
    · rw [List.getElem?_range hi, List.getElem?_eq_getElem hi]
      simp [List.getD, hi]
    · rw [List.getElem?_eq_none (by rw [List.length_range]; omega), List.getElem?_eq_none (by omega)]
      rfl
  rw [eqs] at hq
  walk_at "s"
  refine ⟨q, rows.map fun r => (r.size : Int), rfl, sq_of hq, ?_⟩
  rw [tot_int rows]
  walk_at "s"
  refine ⟨_, _, rfl, ⟨sz_of (by omega), rfl⟩, ?_⟩
  walk_at "s"
  rw [SX.S_len]
  have e02 : Ex H H2 := eH1.trans e2
  have g0 : Gr G H (ext G H H2) H2 := Gr.pure hG e02
  have hr1' := hr1
  have hhH : H2 h = some (.lst (ras.map V.ref)) := e02 _ _ (hG _ _ hh)
  -- by kinds
  have hpX : ∀ H8, Ex H H8 → Paired (fun a (r : Pg) => (ext G H H8) a = some (.lst [r.shown, .int (r.size : Int)])) ras rows := fun H8 e8 => paired_mono (fun _ _ z => (Gr.pure hG e8).ex _ _ z) hp
  have hr1X : ∀ H8, Ex H2 H8 → (ext G H H8) r1 = some (.lst [.str (SX.S page), .int (page.length : Int)]) := fun H8 e8 => by
    rw [ext_new nr1]
    exact (e8 _ _ (e2 _ _ hr1')).trans (by rw [SX.S_len])
  have fin : ∀ H8 (m5 : Addr) (rs : List Addr) (rows' : List Pg), Ex H H8 → H m5 = none → H8 m5 = some (.lst (rs.map V.ref)) → Paired (fun a (r : Pg) => (ext G H H8) a = some (.lst [r.shown, .int (r.size : Int)])) rs rows' → chg L lim rows ⟨kd, num, page⟩ = some rows' → Q (.ref m5) H8 := fun H8 m5 rs rows' e8 n5 h5 P e => kS rows' e m5 (ext G H H8) H8 (Gr.pure hG e8) e8 ⟨rs, by rw [ext_new n5]; exact h5, P⟩
  have gdT : goodL L page → decide ((∀ c ∈ page, c ∈ L) ∧ page.length ≤ 16) = true := fun h => decide_eq_true h
  have gdF : ¬ goodL L page → decide ((∀ c ∈ page, c ∈ L) ∧ page.length ≤ 16) = false := fun h => decide_eq_false h
  have p20 : page.length ≤ 20 := so.len
  have rtk : ∀ k, (ras.take k).map V.ref = (ras.map V.ref).take k := fun k => List.map_take ..
  have rdr : ∀ k, (ras.drop k).map V.ref = (ras.map V.ref).drop k := fun k => List.map_drop ..
  cases kd
  · refine iteYes rfl ?_
    walk_at "s"
    rw [List.length_map, hlen]
    walk_at "s"
    intro p1 np1; generalize hEp1 : upd _ p1 _ = H3; have eH3 := exN np1 hEp1; have hp1 := atN hEp1; clear hEp1
    refine go_inL (sq_of hp1) rfl rfl ?_
    refine ⟨_, rfl, ?_⟩
    have e03 : Ex H H3 := e02.trans eH3
    have e23 : Ex H2 H3 := eH3
    refine ifT (by with_unfolding_all decide +kernel) ?_
    walk_at "s"
    by_cases h1 : 0 ≤ (rows.length : Int)
    · refine iteYes h1 ?_
      walk_at "s"
      rw [List.length_map, hlen]
      by_cases h2 : (rows.length : Int) ≤ (rows.length : Int)
      · rw [decide_eq_true h2]
        walk_at "s"
        refine ⟨page, L, rfl, by omega, ?_⟩
        by_cases hg : goodL L page
        · rw [gdT hg]
          walk_at "s"
          rw [List.length_map, hlen]
          by_cases h3 : rows.length = lim
          · refine iteYes (by rw [h3]) ?_
            walk_at "s"
            exact kN (if_neg fun q => q.2.1 h3) _ e03
          · refine iteNo (fun q => h3 (by have := V.int.inj q; omega)) ?_
            walk_at "s"
            by_cases h4 : (16 : Int) < (Acc.tot rows : Int) + (page.length : Int)
            · rw [decide_eq_true h4]
              walk_at "s"
              exact kN (if_neg fun q => by have q2 : Acc.tot rows + page.length ≤ 16 := q.2.2; omega) _ e03
            · rw [decide_eq_false h4]
              skip
              walk_at "s"
              refine go_slL (sq_of ((e03).trans (Ex.refl _) _ _ (hG _ _ hh))) ?_
              intro m1 nm1; generalize hEm1 : upd _ m1 _ = H4; have eH4 := exN nm1 hEm1; have hm1 := atN hEm1; clear hEm1
              rw [cut_to] at hm1
              walk_at "s"
              intro m2 nm2; generalize hEm2 : upd _ m2 _ = H5; have eH5 := exN nm2 hEm2; have hm2 := atN hEm2; clear hEm2
              refine go_cat (by walk_at "fact") hm2 (by rw [List.length_take, List.length_map]; show _ + 1 ≤ _; omega) ?_
              intro m3 nm3; generalize hEm3 : upd _ m3 _ = H6; have eH6 := exN nm3 hEm3; have hm3 := atN hEm3; clear hEm3
              walk_at "s"
              refine go_slL (sq_of (((((e03).trans eH4).trans eH5).trans eH6) _ _ (hG _ _ hh))) ?_
              intro m4 nm4; generalize hEm4 : upd _ m4 _ = H7; have eH7 := exN nm4 hEm4; have hm4 := atN hEm4; clear hEm4
              rw [cut_from] at hm4
              refine go_cat (by walk_at "fact") hm4 (by rw [List.length_append, List.length_take, List.length_drop, List.length_map]; show _ + 1 + _ ≤ _; omega) ?_
              intro m5 nm5; generalize hEm5 : upd _ m5 _ = H8; have eH8 := exN nm5 hEm5; have hm5 := atN hEm5; clear hEm5
              refine fin H8 m5 (ras.take rows.length ++ [r1] ++ ras.drop rows.length) (insAt rows rows.length (.kn page)) (by walk_at "ex") (fresh_back (by walk_at "ex") nm5) ?_ ?_ ?_
              · rw [hm5, List.map_append, List.map_append, rtk, rdr]
                rfl
              · exact paired_app (paired_app (paired_take _ (hpX H8 (by walk_at "ex"))) (.cons (hr1X H8 (by walk_at "ex")) .nil)) (paired_drop _ (hpX H8 (by walk_at "ex")))
              · exact if_pos ⟨hg, h3, by show Acc.tot rows + page.length ≤ 16; omega⟩
        · rw [gdF hg]
          walk_at "s"
          exact kN (if_neg fun q => hg q.1) _ e03
      · rw [decide_eq_false h2]
        walk_at "s"
        exact absurd (Int.le_refl _) h2
    · refine iteNo h1 ?_
      walk_at "s"
      exact absurd (Int.natCast_nonneg _) h1
  · refine iteNo (by with_unfolding_all decide +kernel) ?_
    walk_at "s"
    intro p1 np1; generalize hEp1 : upd _ p1 _ = H3; have eH3 := exN np1 hEp1; have hp1 := atN hEp1; clear hEp1
    refine go_inL (sq_of hp1) rfl rfl ?_
    refine ⟨_, rfl, ?_⟩
    have e03 : Ex H H3 := e02.trans eH3
    refine ifT (by with_unfolding_all decide +kernel) ?_
    walk_at "s"
    by_cases h1 : 0 ≤ num
    · refine iteYes h1 ?_
      walk_at "s"
      rw [List.length_map, hlen]
      by_cases h2 : num ≤ (rows.length : Int)
      · rw [decide_eq_true h2]
        walk_at "s"
        refine ⟨page, L, rfl, by omega, ?_⟩
        by_cases hg : goodL L page
        · rw [gdT hg]
          walk_at "s"
          rw [List.length_map, hlen]
          by_cases h3 : rows.length = lim
          · refine iteYes (by rw [h3]) ?_
            walk_at "s"
            exact kN (if_neg fun q => q.2.2.1 h3) _ e03
          · refine iteNo (fun q => h3 (by have := V.int.inj q; omega)) ?_
            walk_at "s"
            by_cases h4 : (16 : Int) < (Acc.tot rows : Int) + (page.length : Int)
            · rw [decide_eq_true h4]
              walk_at "s"
              exact kN (if_neg fun q => by have q2 : Acc.tot rows + page.length ≤ 16 := q.2.2.2; omega) _ e03
            · rw [decide_eq_false h4]
              obtain ⟨k, rfl⟩ := Int.eq_ofNat_of_zero_le h1
              walk_at "s"
              refine go_slL (sq_of ((e03).trans (Ex.refl _) _ _ (hG _ _ hh))) ?_
              intro m1 nm1; generalize hEm1 : upd _ m1 _ = H4; have eH4 := exN nm1 hEm1; have hm1 := atN hEm1; clear hEm1
              rw [cut_to] at hm1
              walk_at "s"
              intro m2 nm2; generalize hEm2 : upd _ m2 _ = H5; have eH5 := exN nm2 hEm2; have hm2 := atN hEm2; clear hEm2
              refine go_cat (by walk_at "fact") hm2 (by rw [List.length_take, List.length_map]; show _ + 1 ≤ _; omega) ?_
              intro m3 nm3; generalize hEm3 : upd _ m3 _ = H6; have eH6 := exN nm3 hEm3; have hm3 := atN hEm3; clear hEm3
              walk_at "s"
              refine go_slL (sq_of (((((e03).trans eH4).trans eH5).trans eH6) _ _ (hG _ _ hh))) ?_
              intro m4 nm4; generalize hEm4 : upd _ m4 _ = H7; have eH7 := exN nm4 hEm4; have hm4 := atN hEm4; clear hEm4
              rw [cut_from] at hm4
              refine go_cat (by walk_at "fact") hm4 (by rw [List.length_append, List.length_take, List.length_drop, List.length_map]; show _ + 1 + _ ≤ _; omega) ?_
              intro m5 nm5; generalize hEm5 : upd _ m5 _ = H8; have eH8 := exN nm5 hEm5; have hm5 := atN hEm5; clear hEm5
              refine fin H8 m5 (ras.take k ++ [r1] ++ ras.drop k) (insAt rows k (.kn page)) (by walk_at "ex") (fresh_back (by walk_at "ex") nm5) ?_ ?_ ?_
              · rw [hm5, List.map_append, List.map_append, rtk, rdr]
                rfl
              · exact paired_app (paired_app (paired_take _ (hpX H8 (by walk_at "ex"))) (.cons (hr1X H8 (by walk_at "ex")) .nil)) (paired_drop _ (hpX H8 (by walk_at "ex")))
              · exact if_pos ⟨⟨h1, h2⟩, hg, h3, by show Acc.tot rows + page.length ≤ 16; omega⟩
        · rw [gdF hg]
          walk_at "s"
          exact kN (if_neg fun q => hg q.2.1) _ e03
      · rw [decide_eq_false h2]
        walk_at "s"
        exact kN (if_neg fun q => h2 q.1.2) _ e03
    · refine iteNo h1 ?_
      walk_at "s"
      exact kN (if_neg fun q => h1 q.1.1) _ e03
  · refine iteNo (by with_unfolding_all decide +kernel) ?_
    walk_at "s"
    intro p1 np1; generalize hEp1 : upd _ p1 _ = H3; have eH3 := exN np1 hEp1; have hp1 := atN hEp1; clear hEp1
    refine go_inL (sq_of hp1) rfl rfl ?_
    refine ⟨_, rfl, ?_⟩
    have e03 : Ex H H3 := e02.trans eH3
    refine ifF (by with_unfolding_all decide +kernel) ?_
    walk_at "s"
    by_cases h1 : 0 ≤ num
    · refine iteYes h1 ?_
      walk_at "s"
      rw [List.length_map, hlen]
      by_cases h2 : num < (rows.length : Int)
      · rw [decide_eq_true h2]
        obtain ⟨k, rfl⟩ := Int.eq_ofNat_of_zero_le h1
        have hk : k < rows.length := by omega
        obtain ⟨r, hx⟩ : ∃ r, rows[k]? = some r := ⟨_, List.getElem?_eq_getElem hk⟩
        have hrow : rowI rows (k : Int) = some r := rowI_nat.trans hx
        obtain ⟨ras', ra, q1, q2, q3, _⟩ := rows_at (G := G) ⟨ras, hh, hp⟩ hx
        have ek : ((k : Int)).toNat = k := Int.toNat_natCast k
        walk_at "s"
        refine iteNo (by with_unfolding_all decide +kernel) ?_
        walk_at "s"
        refine go_ixL (sq_of (e03 _ _ (hG _ _ q1))) (atI_nat q2) ?_
        walk_at "s"
        refine iteNo (by with_unfolding_all decide +kernel) ?_
        walk_at "s"
        refine ⟨page, L, rfl, by omega, ?_⟩
        by_cases hg : goodL L page
        · rw [gdT hg]
          walk_at "s"
          refine iteYes rfl ?_
          walk_at "s"
          refine go_ixL (sq_of (e03 _ _ (hG _ _ q3))) (show atI _ ((0 : Nat) : Int) = some r.shown from rfl) ?_
          refine ⟨rfl, _, rfl, ?_⟩
          cases r with
          | lo m =>
            refine iteYes (c := Pg.shown (.lo m) = V.non) rfl ?_
            walk_at "s"
            exact kN (chg_setL hrow) _ e03
          | kn y =>
            refine iteNo (c := Pg.shown (.kn y) = V.non) (fun q => V.noConfusion q) ?_
            walk_at "s"
            refine go_ixL (sq_of (e03 _ _ (hG _ _ q3))) (show atI _ ((1 : Nat) : Int) = some (.int (y.length : Int)) from rfl) ?_
            walk_at "s"
            by_cases h4 : (16 : Int) < (Acc.tot rows : Int) + (page.length : Int) - (y.length : Int)
            · rw [decide_eq_true h4]
              walk_at "s"
              exact kN (by rw [chg_setK hrow, if_neg fun q => by have := q.2; omega]) _ e03
            · rw [decide_eq_false h4]
              walk_at "s"
              refine go_slL (sq_of ((e03).trans (Ex.refl _) _ _ (hG _ _ hh))) ?_
              intro m1 nm1; generalize hEm1 : upd _ m1 _ = H4; have eH4 := exN nm1 hEm1; have hm1 := atN hEm1; clear hEm1
              rw [cut_to] at hm1
              walk_at "s"
              intro m2 nm2; generalize hEm2 : upd _ m2 _ = H5; have eH5 := exN nm2 hEm2; have hm2 := atN hEm2; clear hEm2
              refine go_cat (by walk_at "fact") hm2 (by rw [List.length_take, List.length_map]; show _ + 1 ≤ _; omega) ?_
              intro m3 nm3; generalize hEm3 : upd _ m3 _ = H6; have eH6 := exN nm3 hEm3; have hm3 := atN hEm3; clear hEm3
              walk_at "s"
              refine go_slL (sq_of (((((e03).trans eH4).trans eH5).trans eH6) _ _ (hG _ _ hh))) ?_
              intro m4 nm4; generalize hEm4 : upd _ m4 _ = H7; have eH7 := exN nm4 hEm4; have hm4 := atN hEm4; clear hEm4
              rw [show (k : Int) + 1 = ((k + 1 : Nat) : Int) by omega, cut_from] at hm4
              refine go_cat (by walk_at "fact") hm4 (by rw [List.length_append, List.length_take, List.length_drop, List.length_map]; show _ + 1 + _ ≤ _; omega) ?_
              intro m5 nm5; generalize hEm5 : upd _ m5 _ = H8; have eH8 := exN nm5 hEm5; have hm5 := atN hEm5; clear hEm5
              refine fin H8 m5 (ras.take k ++ [r1] ++ ras.drop (k + 1)) (setAt rows k (.kn page)) (by walk_at "ex") (fresh_back (by walk_at "ex") nm5) ?_ ?_ ?_
              · rw [hm5, List.map_append, List.map_append, rtk, rdr]
                rfl
              · exact paired_app (paired_app (paired_take _ (hpX H8 (by walk_at "ex"))) (.cons (hr1X H8 (by walk_at "ex")) .nil)) (paired_drop _ (hpX H8 (by walk_at "ex")))
              · rw [chg_setK hrow, if_pos ⟨hg, by omega⟩, ek]
        · rw [gdF hg]
          walk_at "s"
          exact kN (chg_badg hg (.inl rfl)) _ e03
      · rw [decide_eq_false h2]
        walk_at "s"
        exact kN (chg_bad (rowI_bad fun q => h2 q.2) (.inr (.inr (.inl rfl)))) _ e03
    · refine iteNo h1 ?_
      walk_at "s"
      exact kN (chg_bad (rowI_bad fun q => h1 q.1) (.inr (.inr (.inl rfl)))) _ e03
  · refine iteNo (by with_unfolding_all decide +kernel) ?_
    walk_at "s"
    intro p1 np1; generalize hEp1 : upd _ p1 _ = H3; have eH3 := exN np1 hEp1; have hp1 := atN hEp1; clear hEp1
    refine go_inL (sq_of hp1) rfl rfl ?_
    refine ⟨_, rfl, ?_⟩
    have e03 : Ex H H3 := e02.trans eH3
    refine ifF (by with_unfolding_all decide +kernel) ?_
    walk_at "s"
    by_cases h1 : 0 ≤ num
    · refine iteYes h1 ?_
      walk_at "s"
      rw [List.length_map, hlen]
      by_cases h2 : num < (rows.length : Int)
      · rw [decide_eq_true h2]
        obtain ⟨k, rfl⟩ := Int.eq_ofNat_of_zero_le h1
        have hk : k < rows.length := by omega
        obtain ⟨r, hx⟩ : ∃ r, rows[k]? = some r := ⟨_, List.getElem?_eq_getElem hk⟩
        have hrow : rowI rows (k : Int) = some r := rowI_nat.trans hx
        obtain ⟨ras', ra, q1, q2, q3, _⟩ := rows_at (G := G) ⟨ras, hh, hp⟩ hx
        have ek : ((k : Int)).toNat = k := Int.toNat_natCast k
        walk_at "s"
        refine iteNo (by with_unfolding_all decide +kernel) ?_
        walk_at "s"
        refine go_ixL (sq_of (e03 _ _ (hG _ _ q1))) (atI_nat q2) ?_
        walk_at "s"
        refine iteNo (by with_unfolding_all decide +kernel) ?_
        walk_at "s"
        refine ⟨page, L, rfl, by omega, ?_⟩
        by_cases hg : goodL L page
        · rw [gdT hg]
          walk_at "s"
          refine iteNo (by with_unfolding_all decide +kernel) ?_
          walk_at "s"
          refine go_ixL (sq_of (e03 _ _ (hG _ _ q3))) (show atI _ ((0 : Nat) : Int) = some r.shown from rfl) ?_
          refine ⟨rfl, _, rfl, ?_⟩
          cases r with
          | kn y =>
            rw [show (!decide (Pg.shown (.kn y) = V.non)) = true from rfl]
            walk_at "s"
            exact kN (chg_findK hrow) _ e03
          | lo m =>
            rw [show (!decide (Pg.shown (.lo m) = V.non)) = false from rfl]
            walk_at "s"
            refine go_ixL (sq_of (e03 _ _ (hG _ _ q3))) (show atI _ ((1 : Nat) : Int) = some (.int (m : Int)) from rfl) ?_
            walk_at "s"
            refine ⟨_, _, rfl, ⟨sz_of (by omega), rfl⟩, ?_⟩
            walk_at "s"
            rw [SX.S_len]
            by_cases h4 : m = page.length
            · rw [show (!decide (V.int (m : Int) = V.int (page.length : Int))) = false by rw [decide_eq_true (by rw [h4])]; rfl]
              walk_at "s"
              refine go_slL (sq_of ((e03).trans (Ex.refl _) _ _ (hG _ _ hh))) ?_
              intro m1 nm1; generalize hEm1 : upd _ m1 _ = H4; have eH4 := exN nm1 hEm1; have hm1 := atN hEm1; clear hEm1
              rw [cut_to] at hm1
              walk_at "s"
              intro m2 nm2; generalize hEm2 : upd _ m2 _ = H5; have eH5 := exN nm2 hEm2; have hm2 := atN hEm2; clear hEm2
              refine go_cat (by walk_at "fact") hm2 (by rw [List.length_take, List.length_map]; show _ + 1 ≤ _; omega) ?_
              intro m3 nm3; generalize hEm3 : upd _ m3 _ = H6; have eH6 := exN nm3 hEm3; have hm3 := atN hEm3; clear hEm3
              walk_at "s"
              refine go_slL (sq_of (((((e03).trans eH4).trans eH5).trans eH6) _ _ (hG _ _ hh))) ?_
              intro m4 nm4; generalize hEm4 : upd _ m4 _ = H7; have eH7 := exN nm4 hEm4; have hm4 := atN hEm4; clear hEm4
              rw [show (k : Int) + 1 = ((k + 1 : Nat) : Int) by omega, cut_from] at hm4
              refine go_cat (by walk_at "fact") hm4 (by rw [List.length_append, List.length_take, List.length_drop, List.length_map]; show _ + 1 + _ ≤ _; omega) ?_
              intro m5 nm5; generalize hEm5 : upd _ m5 _ = H8; have eH8 := exN nm5 hEm5; have hm5 := atN hEm5; clear hEm5
              refine fin H8 m5 (ras.take k ++ [r1] ++ ras.drop (k + 1)) (setAt rows k (.kn page)) (by walk_at "ex") (fresh_back (by walk_at "ex") nm5) ?_ ?_ ?_
              · rw [hm5, List.map_append, List.map_append, rtk, rdr]
                rfl
              · exact paired_app (paired_app (paired_take _ (hpX H8 (by walk_at "ex"))) (.cons (hr1X H8 (by walk_at "ex")) .nil)) (paired_drop _ (hpX H8 (by walk_at "ex")))
              · rw [chg_findL hrow, if_pos ⟨hg, h4⟩, ek]
            · rw [show (!decide (V.int (m : Int) = V.int (page.length : Int))) = true by rw [decide_eq_false (fun q => h4 (by have := V.int.inj q; omega))]; rfl]
              walk_at "s"
              exact kN (by rw [chg_findL hrow, if_neg fun q => h4 q.2]) _ e03
        · rw [gdF hg]
          walk_at "s"
          exact kN (chg_badg hg (.inr rfl)) _ e03
      · rw [decide_eq_false h2]
        walk_at "s"
        exact kN (chg_bad (rowI_bad fun q => h2 q.2) (.inr (.inr (.inr rfl)))) _ e03
    · refine iteNo h1 ?_
      walk_at "s"
      exact kN (chg_bad (rowI_bad fun q => h1 q.1) (.inr (.inr (.inr rfl)))) _ e03
  · refine iteNo (by with_unfolding_all decide +kernel) ?_
    walk_at "s"
    intro p1 np1; generalize hEp1 : upd _ p1 _ = H3; have eH3 := exN np1 hEp1; have hp1 := atN hEp1; clear hEp1
    refine go_inL (sq_of hp1) rfl rfl ?_
    refine ⟨_, rfl, ?_⟩
    have e03 : Ex H H3 := e02.trans eH3
    refine ifF (by with_unfolding_all decide +kernel) ?_
    walk_at "s"
    by_cases h1 : 0 ≤ num
    · refine iteYes h1 ?_
      walk_at "s"
      rw [List.length_map, hlen]
      by_cases h2 : num < (rows.length : Int)
      · rw [decide_eq_true h2]
        obtain ⟨k, rfl⟩ := Int.eq_ofNat_of_zero_le h1
        have hk : k < rows.length := by omega
        obtain ⟨r, hx⟩ : ∃ r, rows[k]? = some r := ⟨_, List.getElem?_eq_getElem hk⟩
        have hrow : rowI rows (k : Int) = some r := rowI_nat.trans hx
        obtain ⟨ras', ra, q1, q2, q3, _⟩ := rows_at (G := G) ⟨ras, hh, hp⟩ hx
        have ek : ((k : Int)).toNat = k := Int.toNat_natCast k
        walk_at "s"
        refine iteYes rfl ?_
        walk_at "s"
        refine go_slL (sq_of ((e03).trans (Ex.refl _) _ _ (hG _ _ hh))) ?_
        intro m1 nm1; generalize hEm1 : upd _ m1 _ = H4; have eH4 := exN nm1 hEm1; have hm1 := atN hEm1; clear hEm1
        rw [cut_to] at hm1
        walk_at "s"
        refine go_slL (sq_of (((e03).trans eH4) _ _ (hG _ _ hh))) ?_
        intro m4 nm4; generalize hEm4 : upd _ m4 _ = H7; have eH7 := exN nm4 hEm4; have hm4 := atN hEm4; clear hEm4
        rw [show (k : Int) + 1 = ((k + 1 : Nat) : Int) by omega, cut_from] at hm4
        refine go_cat (by walk_at "fact") hm4 (by rw [List.length_take, List.length_drop, List.length_map]; omega) ?_
        intro m5 nm5; generalize hEm5 : upd _ m5 _ = H8; have eH8 := exN nm5 hEm5; have hm5 := atN hEm5; clear hEm5
        refine fin H8 m5 (ras.take k ++ ras.drop (k + 1)) (delAt rows k) (by walk_at "ex") (fresh_back (by walk_at "ex") nm5) ?_ ?_ ?_
        · rw [hm5, List.map_append, rtk, rdr]
        · exact paired_app (paired_take _ (hpX H8 (by walk_at "ex"))) (paired_drop _ (hpX H8 (by walk_at "ex")))
        · rw [chg_take hrow, ek]
      · rw [decide_eq_false h2]
        walk_at "s"
        exact kN (chg_bad (rowI_bad fun q => h2 q.2) (.inl rfl)) _ e03
    · refine iteNo h1 ?_
      walk_at "s"
      exact kN (chg_bad (rowI_bad fun q => h1 q.1) (.inl rfl)) _ e03
  · refine iteNo (by with_unfolding_all decide +kernel) ?_
    walk_at "s"
    intro p1 np1; generalize hEp1 : upd _ p1 _ = H3; have eH3 := exN np1 hEp1; have hp1 := atN hEp1; clear hEp1
    refine go_inL (sq_of hp1) rfl rfl ?_
    refine ⟨_, rfl, ?_⟩
    have e03 : Ex H H3 := e02.trans eH3
    refine ifF (by with_unfolding_all decide +kernel) ?_
    walk_at "s"
    by_cases h1 : 0 ≤ num
    · refine iteYes h1 ?_
      walk_at "s"
      rw [List.length_map, hlen]
      by_cases h2 : num < (rows.length : Int)
      · rw [decide_eq_true h2]
        obtain ⟨k, rfl⟩ := Int.eq_ofNat_of_zero_le h1
        have hk : k < rows.length := by omega
        obtain ⟨r, hx⟩ : ∃ r, rows[k]? = some r := ⟨_, List.getElem?_eq_getElem hk⟩
        have hrow : rowI rows (k : Int) = some r := rowI_nat.trans hx
        obtain ⟨ras', ra, q1, q2, q3, _⟩ := rows_at (G := G) ⟨ras, hh, hp⟩ hx
        have ek : ((k : Int)).toNat = k := Int.toNat_natCast k
        walk_at "s"
        refine iteNo (by with_unfolding_all decide +kernel) ?_
        walk_at "s"
        refine go_ixL (sq_of (e03 _ _ (hG _ _ q1))) (atI_nat q2) ?_
        walk_at "s"
        refine iteYes rfl ?_
        walk_at "s"
        refine go_ixL (sq_of (e03 _ _ (hG _ _ q3))) (show atI _ ((0 : Nat) : Int) = some r.shown from rfl) ?_
        refine ⟨rfl, _, rfl, ?_⟩
        cases r with
        | lo m =>
          refine iteYes (c := Pg.shown (.lo m) = V.non) rfl ?_
          walk_at "s"
          exact kN (chg_loseL hrow) _ e03
        | kn y =>
          refine iteNo (c := Pg.shown (.kn y) = V.non) (fun q => V.noConfusion q) ?_
          walk_at "s"
          refine go_ixL (sq_of (e03 _ _ (hG _ _ q3))) (show atI _ ((1 : Nat) : Int) = some (.int (y.length : Int)) from rfl) ?_
          walk_at "s"
          intro r2 nr2; generalize hEr2 : upd _ r2 _ = H3b; have eH3b := exN nr2 hEr2; have hr2 := atN hEr2; clear hEr2
          have nr2 : H r2 = none := fresh_back e03 nr2
          walk_at "s"
          refine go_slL (sq_of (((e03.trans eH3b)).trans (Ex.refl _) _ _ (hG _ _ hh))) ?_
          intro m1 nm1; generalize hEm1 : upd _ m1 _ = H4; have eH4 := exN nm1 hEm1; have hm1 := atN hEm1; clear hEm1
          rw [cut_to] at hm1
          walk_at "s"
          intro m2 nm2; generalize hEm2 : upd _ m2 _ = H5; have eH5 := exN nm2 hEm2; have hm2 := atN hEm2; clear hEm2
          refine go_cat (by walk_at "fact") hm2 (by rw [List.length_take, List.length_map]; show _ + 1 ≤ _; omega) ?_
          intro m3 nm3; generalize hEm3 : upd _ m3 _ = H6; have eH6 := exN nm3 hEm3; have hm3 := atN hEm3; clear hEm3
          walk_at "s"
          refine go_slL (sq_of ((((((e03.trans eH3b)).trans eH4).trans eH5).trans eH6) _ _ (hG _ _ hh))) ?_
          intro m4 nm4; generalize hEm4 : upd _ m4 _ = H7; have eH7 := exN nm4 hEm4; have hm4 := atN hEm4; clear hEm4
          rw [show (k : Int) + 1 = ((k + 1 : Nat) : Int) by omega, cut_from] at hm4
          refine go_cat (by walk_at "fact") hm4 (by rw [List.length_append, List.length_take, List.length_drop, List.length_map]; show _ + 1 + _ ≤ _; omega) ?_
          intro m5 nm5; generalize hEm5 : upd _ m5 _ = H8; have eH8 := exN nm5 hEm5; have hm5 := atN hEm5; clear hEm5
          refine fin H8 m5 (ras.take k ++ [r2] ++ ras.drop (k + 1)) (setAt rows k (.lo y.length)) (by walk_at "ex") (fresh_back (by walk_at "ex") nm5) ?_ ?_ ?_
          · rw [hm5, List.map_append, List.map_append, rtk, rdr]
            rfl
          · exact paired_app (paired_app (paired_take _ (hpX H8 (by walk_at "ex"))) (.cons ((ext_new nr2).trans ((show Ex H3b H8 by walk_at "ex") _ _ hr2)) .nil)) (paired_drop _ (hpX H8 (by walk_at "ex")))
          · rw [chg_loseK hrow, ek]
      · rw [decide_eq_false h2]
        walk_at "s"
        exact kN (chg_bad (rowI_bad fun q => h2 q.2) (.inr (.inl rfl))) _ e03
    · refine iteNo h1 ?_
      walk_at "s"
      exact kN (chg_bad (rowI_bad fun q => h1 q.1) (.inr (.inl rfl))) _ e03
  · exact absurd rfl n3
  · exact absurd rfl n1
  · exact absurd rfl n2
/-! W27 -/

/-! ### the law's counts and heights -/
def nl (n : Nat) (f : Nat → Int) : List V := (List.range n).map fun i : Nat => V.int (f i)
theorem nl_len {n : Nat} {f : Nat → Int} : (nl n f).length = n := by
  unfold nl
  rw [List.length_map, List.length_range]
theorem nl_at {n i : Nat} {f : Nat → Int} (h : i < n) : (nl n f)[i]? = some (.int (f i)) := by
  unfold nl
  rw [List.getElem?_map, List.getElem?_range h]
  rfl
theorem nl_set {n j : Nat} {f : Nat → Int} {v : Int} : (nl n f).set j (.int v) = nl n fun k => if k = j then v else f k := by
  refine List.ext_getElem? fun i => ?_
  rw [List.getElem?_set]
  by_cases hi : i < n
  · by_cases hj : j = i
    · subst hj
      rw [if_pos rfl, nl_len, if_pos hi, nl_at hi, if_pos rfl]
    · rw [if_neg hj, nl_at hi, nl_at hi, if_neg (by omega)]
  · have h1 : ∀ g, (nl n g)[i]? = none := fun g => List.getElem?_eq_none (by rw [nl_len]; omega)
    by_cases hj : j = i
    · subst hj
      rw [if_pos rfl, nl_len, if_neg hi, h1]
    · rw [if_neg hj, h1, h1]
theorem nl_congr {n : Nat} {f g : Nat → Int} (h : ∀ i, i < n → f i = g i) : nl n f = nl n g := by
  unfold nl
  refine List.map_congr_left fun i hi => ?_
  rw [h i (List.mem_range.mp hi)]
theorem nl_succ {n : Nat} {f : Nat → Int} : nl (n + 1) f = nl n f ++ [.int (f n)] := by
  unfold nl
  rw [List.range_succ, List.map_append]
  rfl
theorem rep_nl : ∀ n : Nat, (List.replicate n [V.int 0]).flatten = nl n fun _ => 0
  | 0 => rfl
  | n + 1 => by
    rw [nl_succ, ← rep_nl n, List.replicate_succ']
    simp
/-- the stands of m entries, list by list -/
structure SetsH (H : Hp) (ss : Addr) (p : Nat) (S : Nat → Int → Bool) (m : Nat) : Prop where
  lst : ∃ as : List Addr, H ss = some (.lst (as.map V.ref)) ∧ as.length = m ∧ ∀ (k : Nat) a, as[k]? = some a → H a = some (.lst (sl p (S k)))
  per : ∀ k, k < m → ∀ y, S k (y + p) = S k y
theorem SetsH.ex {H H' : Hp} {ss : Addr} {p : Nat} {S : Nat → Int → Bool} {m : Nat} (h : SetsH H ss p S m) (e : Ex H H') : SetsH H' ss p S m := by
  obtain ⟨⟨as, h1, h2, h3⟩, h4⟩ := h
  exact ⟨⟨as, e _ _ h1, h2, fun k a ha => e _ _ (h3 k a ha)⟩, h4⟩
theorem SetsH.at_ {H : Hp} {ss : Addr} {p : Nat} {S : Nat → Int → Bool} {m k : Nat} (h : SetsH H ss p S m) (hk : k < m) : ∃ (as : List Addr) (a : Addr), H ss = some (.lst (as.map V.ref)) ∧ (as.map V.ref)[k]? = some (.ref a) ∧ H a = some (.lst (sl p (S k))) := by
  obtain ⟨⟨as, h1, h2, h3⟩, _⟩ := h
  obtain ⟨a, ha⟩ : ∃ a, as[k]? = some a := ⟨_, List.getElem?_eq_getElem (by omega)⟩
  exact ⟨as, a, h1, by rw [List.getElem?_map, ha]; rfl, h3 k a ha⟩
/-- behind the first inner loop -/
def midB (S : Nat → Int → Bool) (x : Int) (prev : Nat → Int) : Nat → Int
  | 0 => prev 0
  | k + 1 => if S k x = true then max (prev (k + 1)) (prev k + 1) else prev (k + 1)
theorem max_if (a b : Int) : (if b > a then b else a) = max a b := by
  split <;> omega
theorem lcs0 (S : Nat → Int → Bool) (b : Int) : ∀ i, Mth.lcs S b i 0 = 0
  | 0 => rfl
  | _ + 1 => rfl
def sp_law_counts (K : Fr) : Sp := fun vs H Q _ => ∃ (p : Nat) (ss : Addr) (b : Int) (n : Nat), vs = [.int (p : Int), .ref ss, .int b, .int (n : Int)] ∧ ∃ (S : Nat → Int → Bool) (m : Nat), 0 < p ∧ m ≤ 16 ∧ n ≤ 100 ∧ 0 ≤ b ∧ b ≤ 100 ∧ SetsH H ss p S m ∧ RetL (nl (n + 1) fun j => Mth.lcs S b j m) H Q
theorem ok_law_counts (T : Tx w K mg) : FnOk P w K mg base CX0 1 (a_law_counts K) (fdOf K (a_law_counts K)) ["_law_places", "_law_sets", "_law_begin_here", "_law_length"] (sp_law_counts K) := by
  refine (T.d_law_counts).ok sc_law_counts (fun vs H Q E h => ?_) (fun cdv A outer s H vs Q E hr h => ?_)
  · obtain ⟨_, _, _, _, rfl, _⟩ := h
    rfl
  refine ⟨_, PSs.nox (pss_cons (ps_set (i := 4) sc_law_counts.nd rfl (Or.inl rfl) (pe_op op_rep (pe_lst (pa_cons pe_int pa_nil)) (pe_op op_add (pe_callB call_len (by rfl) T.z_len (by decide +kernel) (pa_cons (pv 1) pa_nil)) pe_int)))
      (pss_cons (ps_set (i := 5) sc_law_counts.nd rfl (Or.inl rfl) (pe_lst (pa_cons pe_int pa_nil)))
      (pss_cons (ps_for PassesOwn.never rfl (pi_range2 rfl T.z_range (pa_cons (pv 2) (pa_cons (pe_op op_add (pv 2) (pv 3)) pa_nil))) (pg_name (i := 6) sc_law_counts.nd rfl (Or.inl rfl))
      (pss_cons (ps_for PassesOwn.never rfl (pi_range3 rfl T.z_range (pa_cons (pe_callB call_len (by rfl) T.z_len (by decide +kernel) (pa_cons (pv 1) pa_nil)) (pa_cons pe_int (pa_cons (pe_un un_neg pe_int) pa_nil)))) (pg_name (i := 7) sc_law_counts.nd rfl (Or.inl rfl))
        (pss_one (ps_if (pt_cmpR op_in_seq (pe_op op_modN (pe_callTy call_int1 (by rfl) T.z_int (by decide +kernel) (pa_cons (pv 6) pa_nil)) (pv 0)) (pe_ix ix_list (pv 1) (pe_op op_sub (pv 7) pe_int) (fun _ _ => rfl)) (by first | exact nomark _ | rfl))
          (pss_one (ps_asg (pe_callB (call_max2 rfl) (by rfl) T.z_max (by decide +kernel) (pa_cons (pe_callTy call_int1 (by rfl) T.z_int (by decide +kernel) (pa_cons (pe_ix ix_list (pv 4) (pv 7) (fun _ _ => rfl)) pa_nil)) (pa_cons (pe_op op_add (pe_ix ix_list (pv 4) (pe_op op_sub (pv 7) pe_int) (fun _ _ => rfl)) pe_int) pa_nil))) (pg_sub (pv 4) (pv 7) set_list)))
          pss_nil)))
        (pss_cons (ps_for PassesOwn.never rfl (pi_range2 rfl T.z_range (pa_cons pe_int (pa_cons (pe_op op_add (pe_callB call_len (by rfl) T.z_len (by decide +kernel) (pa_cons (pv 1) pa_nil)) pe_int) pa_nil))) (pg_name (i := 7) sc_law_counts.nd rfl (Or.inl rfl))
        (pss_one (ps_asg (pe_callB (call_max2 rfl) (by rfl) T.z_max (by decide +kernel) (pa_cons (pe_callTy call_int1 (by rfl) T.z_int (by decide +kernel) (pa_cons (pe_ix ix_list (pv 4) (pv 7) (fun _ _ => rfl)) pa_nil)) (pa_cons (pe_callTy call_int1 (by rfl) T.z_int (by decide +kernel) (pa_cons (pe_ix ix_list (pv 4) (pe_op op_sub (pv 7) pe_int) (fun _ _ => rfl)) pa_nil)) pa_nil))) (pg_sub (pv 4) (pv 7) set_list))))
        (pss_one (ps_expr (pe_bm PySem.F.plainAttrs_list PySem.F.slot_list_append PySem.F.type_list_append mt_append (pv 5) (pa_cons (pe_ix ix_list (pv 4) (pe_callB call_len (by rfl) T.z_len (by decide +kernel) (pa_cons (pv 1) pa_nil)) (fun _ _ => rfl)) pa_nil)))))))
      (pss_one (ps_ret (pv 5)))))), ?_⟩
  obtain ⟨p, ss, b, n, rfl, S, m, hp, hm, hn, hb, hb2, hS, k⟩ := h
  obtain ⟨as, hss, hasl, _⟩ := hS.lst
  have hlm : (as.map V.ref).length = m := by rw [List.length_map]; exact hasl
  walk_at "s"
  intro z1 nz1; generalize hEz1 : upd _ z1 _ = H1; have eH1 := exN nz1 hEz1; have hz1 := atN hEz1; clear hEz1
  walk_at "s"
  refine ⟨z1, _, _, rfl, rfl, hz1, by rw [hlm]; omega, by rw [hlm]; omega, by rw [hlm]; exact sz_of (show 1 * _ ≤ _ by omega), ?_⟩
  intro bs nbs; generalize hEbs : upd _ bs _ = H2; have eH2 := exN nbs hEbs; have hbs := atN hEbs; clear hEbs
  rw [hlm, show ((m : Int) + 1).toNat = m + 1 by omega, rep_nl] at hbs
  walk_at "s"
  intro co nco; generalize hEco : upd _ co _ = H3; have eH3 := exN nco hEco; have hco := atN hEco; clear hEco
  walk_at "s"
  refine ⟨_, _, rfl, ⟨by omega, by omega, by omega, by omega⟩, ?_⟩
  rw [show (b + (n : Int) - b).toNat = n by omega]
  have hbs3 := eH3 _ _ hbs
  have nbc : bs ≠ co := ne_of_none hbs nco
  have e12 : Ex H H2 := by walk_at "ex"
  have nbs' : H bs = none := fresh_back (by walk_at "ex") nbs
  have nco' : H co = none := fresh_back (by walk_at "ex") nco
  have e3 : Ex H H3 := by walk_at "ex"
  clear hz1 nz1 eH1 eH2 eH3 hbs
  refine for_range (lo := b) (n := n) (fun i σ H' => Ex H H' ∧ H' bs = some (.lst (nl (m + 1) (Mth.lcs S b i))) ∧ H' co = some (.lst (nl (i + 1) fun j => Mth.lcs S b j m)) ∧ ∃ v6 v7, σ = [some (.int (p : Int)), some (.ref ss), some (.int b), some (.int (n : Int)), some (.ref bs), some (.ref co), v6, v7])
    ⟨e3, hbs3.trans (by rfl), hco.trans (by rfl), _, _, rfl⟩ ?_ ?_
  · rintro i σ H' hi ⟨ex, hbs, hco, v6, v7, rfl⟩
    have hS' := hS.ex ex
    walk_at "s"
    rw [hlm]
    refine ⟨_, _, _, _, rfl, RgC.neg (by omega) (by omega) (by decide) (by decide), ?_⟩
    refine for_rangeC (lo := (m : Int)) (c := -1) (n := ((m : Int) - 0).toNat) (fun t σ H2 => Ex H H2 ∧ H2 bs = some (.lst (nl (m + 1) fun k => if m - t < k then midB S (b + i) (Mth.lcs S b i) k else Mth.lcs S b i k)) ∧ H2 co = some (.lst (nl (i + 1) fun j => Mth.lcs S b j m)) ∧ ∃ v7, σ = [some (.int (p : Int)), some (.ref ss), some (.int b), some (.int (n : Int)), some (.ref bs), some (.ref co), some (.int (b + i)), v7])
      ⟨ex, hbs.trans (by rw [nl_congr (g := Mth.lcs S b i) fun k hk => if_neg (by omega)]), hco, _, rfl⟩ ?_ ?_
    · rintro t σ H2 ht ⟨ex2, hbs2, hco2, v7, rfl⟩
      obtain ⟨k', hk'⟩ : ∃ k', m - t = k' + 1 := ⟨m - t - 1, by omega⟩
      rw [show (m : Int) + (t : Nat) * (-1) = ((k' + 1 : Nat) : Int) by omega]
      obtain ⟨as2, a, q1, q2, q3⟩ := (hS.ex ex2).at_ (show k' < m by omega)
      have ei : (((k' + 1 : Nat) : Int) - 1) = (k' : Int) := by omega
      have b1 : (nl (m + 1) fun k => if m - t < k then midB S (b + i) (Mth.lcs S b i) k else Mth.lcs S b i k)[k' + 1]? = some (.int (Mth.lcs S b i (k' + 1))) := by rw [nl_at (by omega), if_neg (by omega)]
      have b0 : (nl (m + 1) fun k => if m - t < k then midB S (b + i) (Mth.lcs S b i) k else Mth.lcs S b i k)[k']? = some (.int (Mth.lcs S b i k')) := by rw [nl_at (by omega), if_neg (by omega)]
      walk_at "s"
      refine .inl ⟨_, rfl, ?_⟩
      walk_at "s"
      refine go_rI (by show (p : Int) ≠ 0; omega) ?_
      walk_at "s"
      rw [ei]
      refine go_ixL (sq_of q1) (atI_nat q2) ?_
      refine go_inL (sq_of q3) rfl (sl_flat _ _) ?_
      refine ⟨S k' (b + i), congrArg V.bl ?_, ?_⟩
      · show inV _ _ = _
        rw [fm_eq hp, sl_in hp (hS.per k' (by omega))]
      cases hs : S k' (b + i) with
      | true =>
        refine iteT ?_
        walk_at "s"
        refine go_ixL (sq_of hbs2) (atI_nat b1) ?_
        refine .inl ⟨_, rfl, ?_⟩
        walk_at "s"
        rw [ei]
        refine go_ixL (sq_of hbs2) (atI_nat b0) ?_
        walk_at "s"
        refine ⟨_, _, rfl, ?_⟩
        walk_at "s"
        refine go_setL hbs2 (show ixN _ ((k' + 1 : Nat) : Int) = some (k' + 1) from ixN_nat (by rw [nl_len]; omega)) ?_
        refine ⟨Ex.mut ex2 nbs', ?_, ?_, _, rfl⟩
        · rw [upd_same, nl_set]
          congr 2
          refine nl_congr fun k hk => ?_
          by_cases h1 : k = k' + 1
          · rw [if_pos h1, max_if, h1, if_pos (by omega)]
            show _ = if S k' (b + i) = true then _ else _
            rw [if_pos hs]
          · rw [if_neg h1]
            by_cases h2 : m - t < k
            · rw [if_pos h2, if_pos (by omega)]
            · rw [if_neg h2, if_neg (by omega)]
        · rw [upd_ne nbc.symm]
          exact hco2
      | false =>
        refine iteF ?_
        walk_at "s"
        refine ⟨ex2, hbs2.trans ?_, hco2, _, rfl⟩
        congr 2
        refine nl_congr fun k hk => ?_
        by_cases h1 : k = k' + 1
        · rw [if_neg (by omega), if_pos (by omega), h1]
          show _ = if S k' (b + i) = true then _ else _
          rw [if_neg (by rw [hs]; decide)]
        · by_cases h2 : m - t < k
          · rw [if_pos h2, if_pos (by omega)]
          · rw [if_neg h2, if_neg (by omega)]
    · rintro σ H2 ⟨ex2, hbs2, hco2, v7, rfl⟩
      rw [nl_congr (g := midB S (b + i) (Mth.lcs S b i)) fun k hk => by
        cases k with
        | zero => rw [if_neg (by omega)]; rfl
        | succ k => rw [if_pos (by omega)]] at hbs2
      walk_at "s"
      rw [hlm]
      refine ⟨_, _, rfl, ⟨by omega, by omega, by omega, by omega⟩, ?_⟩
      refine for_range (lo := 1) (n := ((m : Int) + 1 - 1).toNat) (fun t σ H3 => Ex H H3 ∧ H3 bs = some (.lst (nl (m + 1) fun k => if k ≤ t then Mth.lcsStep S (b + i) (Mth.lcs S b i) k else midB S (b + i) (Mth.lcs S b i) k)) ∧ H3 co = some (.lst (nl (i + 1) fun j => Mth.lcs S b j m)) ∧ ∃ v7, σ = [some (.int (p : Int)), some (.ref ss), some (.int b), some (.int (n : Int)), some (.ref bs), some (.ref co), some (.int (b + i)), v7])
        ⟨ex2, hbs2.trans ?_, hco2, _, rfl⟩ ?_ ?_
      · rw [nl_congr fun k hk => ?_]
        by_cases h0 : k ≤ 0
        · rw [if_pos h0, show k = 0 by omega]
          exact lcs0 S b i
        · rw [if_neg h0]
      · rintro t σ H3 ht ⟨ex3, hbs3, hco3, v7, rfl⟩
        rw [show (1 : Int) + (t : Nat) = ((t + 1 : Nat) : Int) by omega]
        have ei : (((t + 1 : Nat) : Int) - 1) = (t : Int) := by omega
        have b1 : (nl (m + 1) fun k => if k ≤ t then Mth.lcsStep S (b + i) (Mth.lcs S b i) k else midB S (b + i) (Mth.lcs S b i) k)[t + 1]? = some (.int (midB S (b + i) (Mth.lcs S b i) (t + 1))) := by rw [nl_at (by omega), if_neg (by omega)]
        have b0 : (nl (m + 1) fun k => if k ≤ t then Mth.lcsStep S (b + i) (Mth.lcs S b i) k else midB S (b + i) (Mth.lcs S b i) k)[t]? = some (.int (Mth.lcsStep S (b + i) (Mth.lcs S b i) t)) := by rw [nl_at (by omega), if_pos (by omega)]
        walk_at "s"
        refine go_ixL (sq_of hbs3) (atI_nat b1) ?_
        refine .inl ⟨_, rfl, ?_⟩
        walk_at "s"
        rw [ei]
        refine go_ixL (sq_of hbs3) (atI_nat b0) ?_
        refine .inl ⟨_, rfl, ?_⟩
        walk_at "s"
        refine ⟨_, _, rfl, ?_⟩
        walk_at "s"
        refine go_setL hbs3 (show ixN _ ((t + 1 : Nat) : Int) = some (t + 1) from ixN_nat (by rw [nl_len]; omega)) ?_
        refine ⟨Ex.mut ex3 nbs', ?_, ?_, _, rfl⟩
        · rw [upd_same, nl_set]
          congr 2
          refine nl_congr fun k hk => ?_
          by_cases h1 : k = t + 1
          · rw [if_pos h1, max_if, h1, if_pos (by omega)]
            rfl
          · rw [if_neg h1]
            by_cases h2 : k ≤ t
            · rw [if_pos h2, if_pos (by omega)]
            · rw [if_neg h2, if_neg (by omega)]
        · rw [upd_ne nbc.symm]
          exact hco3
      · rintro σ H3 ⟨ex3, hbs3, hco3, v7, rfl⟩
        rw [nl_congr (g := Mth.lcs S b (i + 1)) fun k hk => by rw [if_pos (by omega)]; rfl] at hbs3
        have bm : (nl (m + 1) (Mth.lcs S b (i + 1)))[m]? = some (.int (Mth.lcs S b (i + 1) m)) := nl_at (by omega)
        walk_at "s"
        rw [hlm]
        refine go_ixL (sq_of hbs3) (atI_nat bm) ?_
        refine ⟨co, _, _, rfl, rfl, hco3, by rw [nl_len]; exact sz_lt (by omega), ?_⟩
        refine ⟨Ex.mut ex3 nco', ?_, ?_, _, _, rfl⟩
        · rw [upd_ne nbc]
          exact hbs3
        · rw [upd_same, ← nl_succ (f := fun j => Mth.lcs S b j m)]
  · rintro σ H' ⟨ex, hbs, hco, v6, v7, rfl⟩
    walk_at "s"
    exact k co H' nco' ex hco
/-! W28 -/

theorem height_eq {p m : Nat} {S : Nat → Int → Bool} (hp : 0 < p) (h : ∀ j, j < m → Mth.Dense (S j) p ∧ ∀ y, S j (y + p) = S j y) (x : Int) : Mth.much (fun j => decide (Mth.lcs S x (j + 1) m > Mth.lcs S (x + 1) j m)) (m * p) = hgt (Mth.cF p S m) x := by
  have g := Mth.goodK hp m h
  obtain ⟨y, e⟩ := g.sur x
  have hb := Mth.backK (p := p) m (fun j hj => (h j hj).1) y
  have hl := g.le y
  rw [hgt_of g e]
  obtain ⟨d, hd⟩ := Int.eq_ofNat_of_zero_le (show 0 ≤ y - x by omega)
  rw [hd]
  refine Mth.much_le (fun j => ?_) _ ?_
  · rw [Mth.lcs_eq hp x m h _ _ (Nat.le_refl _), Mth.lcs_eq hp (x + 1) m h _ _ (Nat.le_refl _)]
    rw [decide_eq_true_iff, Mth.more_iff g e j]
    omega
  · have : ((m * p : Nat) : Int) = (m : Int) * p := Int.natCast_mul ..
    omega
def sp_law_heights (K : Fr) : Sp := fun vs H Q _ => ∃ (p : Nat) (ss : Addr), vs = [.int (p : Int), .ref ss] ∧ ∃ (S : Nat → Int → Bool) (m : Nat), 0 < p ∧ p ≤ 3 ∧ m ≤ 16 ∧ SetsH H ss p S m ∧ (∀ k, k < m → Mth.Dense (S k) p) ∧ RetL (nl p fun x => hgt (Mth.cF p S m) (x : Int)) H Q
theorem ok_law_heights (T : Tx w K mg) : FnOk P w K mg base CX0 2 (a_law_heights K) (fdOf K (a_law_heights K)) ["_law_places", "_law_sets"] (sp_law_heights K) := by
  refine (T.d_law_heights).ok sc_law_heights (fun vs H Q E h => ?_) (fun cdv A outer s H vs Q E hr h => ?_)
  · obtain ⟨_, _, rfl, _⟩ := h
    rfl
  refine ⟨_, PSs.nox (pss_cons (ps_set (i := 2) sc_law_heights.nd rfl (Or.inl rfl) (pe_op op_mul (pe_callB call_len (by rfl) T.z_len (by decide +kernel) (pa_cons (pv 1) pa_nil)) (pv 0)))
      (pss_cons (ps_set (i := 3) sc_law_heights.nd rfl (Or.inl rfl) (pe_lst pa_nil))
      (pss_cons (ps_for PassesOwn.never rfl (pi_range1 rfl T.z_range (pa_cons (pe_op op_add (pv 0) pe_int) pa_nil)) (pg_name (i := 4) sc_law_heights.nd rfl (Or.inl rfl))
      (pss_one (ps_expr (pe_bm PySem.F.plainAttrs_list PySem.F.slot_list_append PySem.F.type_list_append mt_append (pv 3) (pa_cons (pe_call (ok_law_counts T) (hr.mono (by decide)) rfl T.g_law_counts T.d_law_counts.kp T.b_law_counts .nil pass0 (pa_cons (pv 0) (pa_cons (pv 1) (pa_cons (pv 4) (pa_cons (pe_op op_add (pv 2) pe_int) pa_nil))))) pa_nil)))))
      (pss_cons (ps_set (i := 5) sc_law_heights.nd rfl (Or.inl rfl) (pe_lst pa_nil))
      (pss_cons (ps_for PassesOwn.never rfl (pi_range1 rfl T.z_range (pa_cons (pv 0) pa_nil)) (pg_name (i := 6) sc_law_heights.nd rfl (Or.inl rfl))
      (pss_cons (ps_set (i := 7) sc_law_heights.nd rfl (Or.inl rfl) pe_int)
        (pss_cons (ps_for PassesOwn.never rfl (pi_range2 rfl T.z_range (pa_cons pe_int (pa_cons (pe_op op_add (pv 2) pe_int) pa_nil))) (pg_name (i := 8) sc_law_heights.nd rfl (Or.inl rfl))
        (pss_one (ps_if (pt_cmpR op_gt (pe_ix ix_list (pe_ix ix_list (pv 3) (pv 6) (fun _ _ => rfl)) (pv 8) (fun _ _ => rfl)) (pe_ix ix_list (pe_ix ix_list (pv 3) (pe_op op_add (pv 6) pe_int) (fun _ _ => rfl)) (pe_op op_sub (pv 8) pe_int) (fun _ _ => rfl)) (by first | exact nomark _ | rfl))
          (pss_one (ps_set (i := 7) sc_law_heights.nd rfl (Or.inl rfl) (pe_op op_add (pv 7) pe_int)))
          pss_nil)))
        (pss_one (ps_expr (pe_bm PySem.F.plainAttrs_list PySem.F.slot_list_append PySem.F.type_list_append mt_append (pv 5) (pa_cons (pv 7) pa_nil)))))))
      (pss_one (ps_ret (pv 5)))))))), ?_⟩
  obtain ⟨p, ss, rfl, S, m, hp, hp3, hm, hS, hD, k⟩ := h
  obtain ⟨as, hss, hasl, _⟩ := hS.lst
  have hlm : (as.map V.ref).length = m := by rw [List.length_map]; exact hasl
  have hM : m * p ≤ 48 := Nat.le_trans (Nat.mul_le_mul hm hp3) (by decide)
  have hmu : ((m * p : Nat) : Int) = (m : Int) * p := Int.natCast_mul ..
  have hh := fun x => height_eq hp (fun j hj => ⟨hD j hj, hS.per j hj⟩) x
  walk_at "s"
  rw [hlm]
  refine go_rI (.inl ⟨by omega, by omega⟩) ?_
  rw [← hmu]
  generalize m * p = M at hM hh
  clear hmu
  walk_at "s"
  intro tb ntb; generalize hEtb : upd _ tb _ = H1; have eH1 := exN ntb hEtb; have htb := atN hEtb; clear hEtb
  walk_at "s"
  refine ⟨by omega, by omega, ?_⟩
  refine for_range (lo := 0) (n := ((p : Int) + 1).toNat) (fun i σ H' => Ex H H' ∧ (∃ tas : List Addr, H' tb = some (.lst (tas.map V.ref)) ∧ tas.length = i ∧ ∀ (j : Nat) a, tas[j]? = some a → a ≠ tb ∧ H' a = some (.lst (nl (M + 2) fun q => Mth.lcs S (j : Int) q m))) ∧ ∃ v4 v5 v6 v7 v8, σ = [some (.int (p : Int)), some (.ref ss), some (.int (M : Int)), some (.ref tb), v4, v5, v6, v7, v8])
    ⟨eH1, ⟨[], htb, rfl, fun j a h => by cases h⟩, _, _, _, _, _, rfl⟩ ?_ ?_
  · rintro i σ H' hi ⟨ex, ⟨tas, h1, h2, h3⟩, v4, v5, v6, v7, v8, rfl⟩
    rw [Int.zero_add]
    walk_at "s"
    refine ⟨p, ss, _, M + 1, rfl, S, m, hp, hm, by omega, by omega, by omega, hS.ex ex, fun q H2 nq e2 hq => ?_⟩
    refine ⟨tb, _, _, rfl, rfl, e2 _ _ h1, by rw [List.length_map]; exact sz_lt (by omega), ?_⟩
    have nqt : q ≠ tb := fun z => by rw [z, h1] at nq; cases nq
    refine ⟨Ex.mut (ex.trans e2) ntb, ⟨tas ++ [q], ?_, ?_, fun j a ha => ?_⟩, _, _, _, _, _, rfl⟩
    · rw [upd_same, List.map_append]
      rfl
    · rw [List.length_append, h2]
      rfl
    · rcases Nat.lt_or_ge j tas.length with hj | hj
      · rw [List.getElem?_append_left hj] at ha
        obtain ⟨n1, n2⟩ := h3 j a ha
        exact ⟨n1, by rw [upd_ne n1]; exact e2 _ _ n2⟩
      · rw [List.getElem?_append_right hj] at ha
        have hj0 : j - tas.length = 0 := by
          rcases Nat.eq_zero_or_pos (j - tas.length) with z | z
          · exact z
          · rw [List.getElem?_eq_none (by show 1 ≤ _; omega)] at ha
            cases ha
        rw [hj0] at ha
        cases ha
        refine ⟨nqt, ?_⟩
        rw [upd_ne nqt, show j = i by omega]
        exact hq
  · rintro σ H' ⟨ex, ⟨tas, h1, h2, h3⟩, v4, v5, v6, v7, v8, rfl⟩
    have tat : ∀ j, j ≤ p → ∃ a, (tas.map V.ref)[j]? = some (.ref a) ∧ H' a = some (.lst (nl (M + 2) fun q => Mth.lcs S (j : Int) q m)) := fun j hj => by
      obtain ⟨a, ha⟩ : ∃ a, tas[j]? = some a := ⟨_, List.getElem?_eq_getElem (by omega)⟩
      exact ⟨a, by rw [List.getElem?_map, ha]; rfl, (h3 j a ha).2⟩
    walk_at "s"
    intro hs nhs; generalize hEhs : upd _ hs _ = H2; have eH2 := exN nhs hEhs; have hhs := atN hEhs; clear hEhs
    walk_at "s"
    refine ⟨by omega, by omega, ?_⟩
    refine for_range (lo := 0) (n := ((p : Int)).toNat) (fun i σ H3 => Ex H' H3 ∧ H3 hs = some (.lst (nl i fun x => hgt (Mth.cF p S m) (x : Int))) ∧ ∃ v6 v7 v8, σ = [some (.int (p : Int)), some (.ref ss), some (.int (M : Int)), some (.ref tb), v4, some (.ref hs), v6, v7, v8]) ⟨eH2, hhs, _, _, _, rfl⟩ ?_ ?_
    · rintro i σ H3 hi ⟨ex3, hhs, v6, v7, v8, rfl⟩
      rw [Int.zero_add]
      obtain ⟨a0, t0, u0⟩ := tat i (by omega)
      obtain ⟨a1, t1, u1⟩ := tat (i + 1) (by omega)
      walk_at "s"
      refine ⟨_, _, rfl, ⟨by omega, by omega, by omega, by omega⟩, ?_⟩
      refine for_range (lo := 1) (n := ((M : Int) + 1 - 1).toNat) (fun t σ H4 => H4 = H3 ∧ ∃ v8, σ = [some (.int (p : Int)), some (.ref ss), some (.int (M : Int)), some (.ref tb), v4, some (.ref hs), some (.int (i : Int)), some (.int (Mth.much (fun j => decide (Mth.lcs S (i : Int) (j + 1) m > Mth.lcs S ((i : Int) + 1) j m)) t)), v8]) ⟨rfl, _, rfl⟩ ?_ ?_
      · rintro t σ H4 ht ⟨rfl, v8, rfl⟩
        rw [show (1 : Int) + (t : Nat) = ((t + 1 : Nat) : Int) by omega]
        have ei : (((t + 1 : Nat) : Int) - 1) = (t : Int) := by omega
        have ei2 : (i : Int) + 1 = ((i + 1 : Nat) : Int) := by omega
        walk_at "s"
        refine go_ixL (sq_of (ex3 _ _ h1)) (atI_nat t0) ?_
        walk_at "s"
        refine go_ixL (sq_of (ex3 _ _ u0)) (atI_nat (nl_at (show _ < M + 2 by omega))) ?_
        walk_at "s"
        rw [ei2]
        refine go_ixL (sq_of (ex3 _ _ h1)) (atI_nat t1) ?_
        walk_at "s"
        rw [ei]
        refine go_ixL (sq_of (ex3 _ _ u1)) (atI_nat (nl_at (show _ < M + 2 by omega))) ?_
        walk_at "s"
        have em : Mth.much (fun j => decide (Mth.lcs S (i : Int) (j + 1) m > Mth.lcs S ((i : Int) + 1) j m)) (t + 1) = if decide (Mth.lcs S (i : Int) (t + 1) m > Mth.lcs S ((i : Int) + 1) t m) = true then Mth.much (fun j => decide (Mth.lcs S (i : Int) (j + 1) m > Mth.lcs S ((i : Int) + 1) j m)) t + 1 else Mth.much (fun j => decide (Mth.lcs S (i : Int) (j + 1) m > Mth.lcs S ((i : Int) + 1) j m)) t := rfl
        rw [ei2] at em
        refine ite2 (fun q => ?_) (fun q => ?_)
        · walk_at "s"
          refine ⟨rfl, some (.int ((t + 1 : Nat) : Int)), ?_⟩
          rw [em, if_pos q]
          rfl
        · walk_at "s"
          refine ⟨rfl, some (.int ((t + 1 : Nat) : Int)), ?_⟩
          rw [em, if_neg q]
          rfl
      · rintro σ H4 ⟨rfl, v8, rfl⟩
        rw [show ((M : Int) + 1 - 1).toNat = M by omega, hh]
        walk_at "s"
        refine ⟨hs, _, _, rfl, rfl, hhs, by rw [nl_len]; exact sz_lt (by omega), ?_⟩
        refine ⟨Ex.mut ex3 nhs, by rw [upd_same, ← nl_succ (f := fun x => hgt (Mth.cF p S m) (x : Int))], _, _, _, rfl⟩
    · rintro σ H3 ⟨ex3, hhs, v6, v7, v8, rfl⟩
      walk_at "s"
      rw [Int.toNat_natCast] at hhs
      exact k hs H3 (fresh_back ex nhs) (ex.trans ex3) hhs
/-! W29 -/

theorem find_idx {L : List Nat} {c : Nat} (h : c ∈ L) : ∃ i : Nat, Txt.find (SX.S L) (SX.S [c]) = (i : Int) ∧ L[i]? = some c := by
  have hy : TL.tl (SX.S [c]) ≠ [] := List.cons_ne_nil _ _
  have key : ∀ i, StrLaws.At (SX.S L) (SX.S [c]) (SX.S L).length i ↔ L[i]? = some c := fun i => by
    rw [TL.at_iff hy i]
    show ((L.drop i).take 1 == [c]) = true ↔ _
    constructor
    · intro q
      have q := eq_of_beq q
      have : (L.drop i)[0]? = some c := by
        have e := congrArg (fun l : List Nat => l[0]?) q
        simpa using e
      simpa using this
    · intro q
      have q2 : (L.drop i)[0]? = some c := by simpa using q
      cases hd : L.drop i with
      | nil => rw [hd] at q2; cases q2
      | cons x r =>
        rw [hd] at q2
        cases q2
        exact beq_self_eq_true _
  rcases find_whole (SX.S L) (SX.S [c]) with ⟨_, hn⟩ | ⟨i, e, hi, _⟩
  · obtain ⟨i, hi⟩ := List.getElem?_of_mem h
    exact absurd ((key i).mpr hi) (hn i)
  · exact ⟨i, e, (key i).mp hi⟩
/-- the law's sets: letter by letter -/
abbrev WSets (H : Hp) (ss : Addr) (W : Wd) : Prop := SetsH H ss W.p (fun k => W.S (W.L.getD k 0)) W.L.length
theorem wset_at {H : Hp} {ss : Addr} {W : Wd} (h : WSets H ss W) {i c : Nat} (hi : W.L[i]? = some c) : ∃ (as : List Addr) (a : Addr), H ss = some (.lst (as.map V.ref)) ∧ (as.map V.ref)[i]? = some (.ref a) ∧ H a = some (.lst (sl W.p (W.S c))) := by
  obtain ⟨as, a, h1, h2, h3⟩ := h.at_ (List.getElem?_eq_some_iff.mp hi).1
  have e : W.L.getD i 0 = c := by simp [List.getD, hi]
  rw [e] at h3
  exact ⟨as, a, h1, h2, h3⟩
theorem joined_take {rows : List Pg} {i : Nat} {r : Pg} (h : rows[i]? = some r) : ((rows.take (i + 1)).map Pg.z).flatten = ((rows.take i).map Pg.z).flatten ++ r.z := by
  rw [take_snoc h, List.map_append, List.flatten_append]
  simp
theorem flat_take_len {rows : List Pg} : ∀ i, (((rows.take i).map Pg.z).flatten).length ≤ ((rows.map Pg.z).flatten).length := fun i => by
  have e : (rows.map Pg.z).flatten = ((rows.take i).map Pg.z).flatten ++ ((rows.drop i).map Pg.z).flatten := by
    rw [← List.flatten_append, ← List.map_append, List.take_append_drop]
  rw [e, List.length_append]
  omega
def sp_law_cast (K : Fr) : Sp := fun vs H Q _ => ∃ (acc : Addr) (p : Nat) (L : List Nat) (ss : Addr), vs = [.ref acc, .int (p : Int), .str (SX.S L), .ref ss] ∧ ∃ (W : Wd) (A : Acc), W.Ok ∧ p = W.p ∧ L = W.L ∧ AccAt H acc A ∧ WSets H ss W ∧ AccOk W A ∧ lostAt A.rows = none ∧ RetL ((W.card A.joined).map V.int) H Q
theorem ok_law_cast (T : Tx w K mg) : FnOk P w K mg base CX0 3 (a_law_cast K) (fdOf K (a_law_cast K)) ["_law_account", "_law_places", "_law_letters", "_law_sets"] (sp_law_cast K) := by
  refine (T.d_law_cast).ok sc_law_cast (fun vs H Q E h => ?_) (fun cdv A outer s H vs Q E hr h => ?_)
  · obtain ⟨_, _, _, _, rfl, _⟩ := h
    rfl
  refine ⟨_, PSs.nox (pss_cons (ps_set (i := 4) sc_law_cast.nd rfl (Or.inl rfl) (pe_lst pa_nil))
      (pss_cons (ps_for PassesOwn.never rfl (pi_list (pe_ix ix_list (pv 0) pe_int (fun _ _ => rfl))) (pg_name (i := 5) sc_law_cast.nd rfl (Or.inl rfl))
      (pss_one (ps_for PassesOwn.never rfl (pi_str (pe_ix ix_list (pv 5) pe_int (fun _ _ => rfl))) (pg_name (i := 6) sc_law_cast.nd rfl (Or.inl rfl))
        (pss_one (ps_expr (pe_bm PySem.F.plainAttrs_list PySem.F.slot_list_append PySem.F.type_list_append mt_append (pv 4) (pa_cons (pe_ix ix_list (pv 3) (pe_bm PySem.F.plainAttrs_str PySem.F.slot_str_find PySem.F.type_str_find mt_find (pv 2) (pa_cons (pv 6) pa_nil)) (fun _ _ => rfl)) pa_nil)))))))
      (pss_one (ps_ret (pe_call (ok_law_heights T) (hr.mono (by decide)) rfl T.g_law_heights T.d_law_heights.kp T.b_law_heights .nil pass0 (pa_cons (pv 1) (pa_cons (pv 4) pa_nil))))))), ?_⟩
  obtain ⟨acc, p, L, ss, rfl, W, A, O, rfl, rfl, ⟨h, cd, ha, ⟨ras, hh, hp⟩, _⟩, hS, ok, hlo, k⟩ := h
  have hrl := Paired.length hp
  have hg := ok.good hlo
  have hkn := lost_none hlo
  have jl : ((A.rows.map Pg.z).flatten).length ≤ 16 := hg.2
  walk_at "s"
  intro jd njd; generalize hEjd : upd _ jd _ = H1; have eH1 := exN njd hEjd; have hjd := atN hEjd; clear hEjd
  walk_at "s"
  refine go_ixL (sq_of (eH1 _ _ ha)) (show atI _ ((0 : Nat) : Int) = some (.ref h) from rfl) ?_
  refine ⟨_, rfl, ⟨_, sq_of (eH1 _ _ hh)⟩, ?_⟩
  refine for_list (xs := ras.map V.ref) (fun i σ H' => Ex H H' ∧ (∃ js : List Addr, H' jd = some (.lst (js.map V.ref)) ∧ Paired (fun a c => H a = some (.lst (sl W.p (W.S c)))) js ((A.rows.take i).map Pg.z).flatten) ∧ ∃ v5 v6, σ = [some (.ref acc), some (.int (W.p : Int)), some (.str (SX.S W.L)), some (.ref ss), some (.ref jd), v5, v6])
    ⟨eH1, ⟨[], hjd, .nil⟩, _, _, rfl⟩ (fun i σ H' _ p => sq_of (p.1 _ _ hh)) ?_ ?_
  · rintro i x σ H' hi ⟨ex, ⟨js, hj, pj⟩, v5, v6, rfl⟩
    rw [List.getElem?_map] at hi
    obtain ⟨ra, hra, rfl⟩ := Option.map_eq_some_iff.mp hi
    obtain ⟨r, hr, hrr⟩ := paired_at hp hra
    have er := hkn r (List.mem_of_getElem? hr)
    have hrr2 : H ra = some (.lst [.str (SX.S r.z), .int (r.size : Int)]) := by rw [hrr, er]; rfl
    have zl : ∀ c ∈ r.z, c ∈ W.L := fun c hc => ok.let_ r.z (er ▸ List.mem_of_getElem? hr) c hc
    have jl1 : (((A.rows.take (i + 1)).map Pg.z).flatten).length ≤ 16 := Nat.le_trans (flat_take_len (i + 1)) jl
    rw [joined_take hr, List.length_append] at jl1
    walk_at "s"
    refine go_ixL (sq_of (ex _ _ hrr2)) (show atI _ ((0 : Nat) : Int) = some (.str (SX.S r.z)) from rfl) ?_
    refine ⟨_, rfl, ?_⟩
    refine for_J (J := Its (SX.S r.z)) (n := r.z.length) (it := fun i => .str (SX.S [r.z.getD i 0])) (fun t σ H2 => Ex H H2 ∧ (∃ js : List Addr, H2 jd = some (.lst (js.map V.ref)) ∧ Paired (fun a c => H a = some (.lst (sl W.p (W.S c)))) js (((A.rows.take i).map Pg.z).flatten ++ r.z.take t)) ∧ ∃ v6, σ = [some (.ref acc), some (.int (W.p : Int)), some (.str (SX.S W.L)), some (.ref ss), some (.ref jd), some (.ref ra), v6])
      ⟨ex, ⟨js, hj, by rw [List.take_zero, List.append_nil]; exact pj⟩, _, rfl⟩ (fun _ _ _ _ _ => gives_str) ?_ ?_
    · rintro t σ H2 ht ⟨ex2, ⟨js, hj, pj⟩, v6, rfl⟩
      have hc : r.z[t]? = some (r.z.getD t 0) := by simp [List.getD, ht]
      obtain ⟨i2, ef, hi2⟩ := find_idx (zl _ (List.mem_of_getElem? hc))
      obtain ⟨as, a, q1, q2, q3⟩ := wset_at hS hi2
      have hjl := Paired.length pj
      rw [List.length_append, List.length_take] at hjl
      walk_at "s"
      rw [ef]
      refine go_ixL (sq_of (ex2 _ _ q1)) (atI_nat q2) ?_
      refine ⟨jd, _, _, rfl, rfl, hj, by rw [List.length_map]; exact sz_lt (by omega), ?_⟩
      refine ⟨Ex.mut ex2 njd, ⟨js ++ [a], ?_, ?_⟩, _, rfl⟩
      · rw [upd_same, List.map_append]
        rfl
      · rw [take_snoc hc, ← List.append_assoc]
        exact paired_snoc pj q3
    · rintro σ H2 ⟨ex2, ⟨js, hj, pj⟩, v6, rfl⟩
      rw [List.take_length, ← joined_take hr] at pj
      exact ⟨ex2, ⟨js, hj, pj⟩, _, _, rfl⟩
  · rintro σ H' ⟨ex, ⟨js, hj, pj⟩, v5, v6, rfl⟩
    rw [List.length_map, hrl, List.take_length] at pj
    have hjl := Paired.length pj
    walk_at "s"
    refine ⟨W.p, jd, rfl, fun j => W.S (A.joined.getD j 0), A.joined.length, O.pos, O.le, hg.2, ⟨⟨js, hj, hjl, fun j a haj => ?_⟩, fun j hj => ?_⟩, fun j hj => ?_, fun q H2 nq e2 hq => ?_⟩
    · obtain ⟨c, hc, hca⟩ := paired_at pj haj
      have e : A.joined.getD j 0 = c := by
        show ((A.rows.map Pg.z).flatten).getD j 0 = c
        simp [List.getD, hc]
      rw [e]
      exact ex _ _ hca
    · exact (O.dense hg.1 A.joined.length (Nat.le_refl _) j hj).2
    · exact (O.dense hg.1 A.joined.length (Nat.le_refl _) j hj).1
    · refine k q H2 (fresh_back ex nq) (ex.trans e2) (hq.trans ?_)
      rw [Wd.card_v]
      rfl
/-! W30 -/

theorem tot_set {rows : List Pg} {k : Nat} {old r : Pg} (h : rows[k]? = some old) : Acc.tot (setAt rows k r) + old.size = Acc.tot rows + r.size := by
  unfold setAt
  rw [tot_app, tot_app, tot_one]
  have h1 := tot_cut rows (k + 1)
  rw [take_snoc h, tot_app, tot_one] at h1
  omega
theorem good_eq (W : Wd) (z : List Nat) : W.good z ↔ goodL W.L z := Iff.rfl
theorem rowAt_I (A : Acc) (n : Int) : A.rowAt n = rowI A.rows n := rfl
theorem chg_next {W : Wd} {A : Acc} {s : Stp} (ok : AccOk W A) (hb : A.rows.length ≤ A.bound) (n1 : s.kd ≠ .mark) (n2 : s.kd ≠ .tear) (n3 : s.kd ≠ .bound) :
    A.next W s = (chg W.L A.bound A.rows s).map fun rows => { A with rows := rows } := by
  obtain ⟨kd, num, page⟩ := s
  cases kd
  · show A.ins W A.rows.length page = Option.map _ (if goodL W.L page ∧ A.rows.length ≠ A.bound ∧ Acc.tot A.rows + page.length ≤ 16 then _ else _)
    unfold Acc.ins
    by_cases hg : goodL W.L page
    · rw [if_pos ⟨⟨by omega, by omega⟩, hg⟩, Int.toNat_natCast]
      unfold Acc.putAt
      by_cases h2 : A.rows.length < A.bound ∧ Acc.tot A.rows + (Pg.kn page).size ≤ 16
      · rw [if_pos h2, if_pos ⟨hg, by omega, h2.2⟩]
        rfl
      · rw [if_neg h2, if_neg fun q => h2 ⟨by have := q.2.1; omega, q.2.2⟩]
        rfl
    · rw [if_neg fun q => hg q.2, if_neg fun q => hg q.1]
      rfl
  · show A.ins W num page = Option.map _ (if (0 ≤ num ∧ num ≤ A.rows.length) ∧ goodL W.L page ∧ A.rows.length ≠ A.bound ∧ Acc.tot A.rows + page.length ≤ 16 then _ else _)
    unfold Acc.ins
    by_cases hg : (0 ≤ num ∧ num ≤ A.rows.length) ∧ W.good page
    · rw [if_pos hg]
      unfold Acc.putAt
      by_cases h2 : A.rows.length < A.bound ∧ Acc.tot A.rows + (Pg.kn page).size ≤ 16
      · rw [if_pos h2, if_pos ⟨hg.1, hg.2, by omega, h2.2⟩]
        rfl
      · rw [if_neg h2, if_neg fun q => h2 ⟨by have := q.2.2.1; omega, q.2.2.2⟩]
        rfl
    · rw [if_neg hg, if_neg fun q => hg ⟨q.1, q.2.1⟩]
      rfl
  · show A.setp W num page = _
    unfold Acc.setp
    rw [rowAt_I]
    cases h : rowI A.rows num with
    | none => rw [chg_bad h (.inr (.inr (.inl rfl)))]; rfl
    | some r =>
      have hr := rowAt_lt (A := A) h
      cases r with
      | lo m => rw [chg_setL h]; rfl
      | kn y =>
        rw [chg_setK h]
        have ts := tot_set (r := .kn page) hr.2.2
        have ts' : Acc.tot (setAt A.rows num.toNat (.kn page)) + y.length = Acc.tot A.rows + page.length := ts
        show (if W.good page then A.changeAt num.toNat (.kn page) else none) = _
        by_cases hg : goodL W.L page
        · rw [if_pos ((good_eq W page).mpr hg)]
          unfold Acc.changeAt
          by_cases h2 : Acc.tot (setAt A.rows num.toNat (.kn page)) ≤ 16
          · rw [if_pos h2, if_pos ⟨hg, by omega⟩]
            rfl
          · rw [if_neg h2, if_neg fun q => h2 (by have := q.2; omega)]
            rfl
        · rw [if_neg (show ¬ W.good page from hg), if_neg fun q => hg q.1]
          rfl
  · show A.findp W num page = _
    unfold Acc.findp
    rw [rowAt_I]
    cases h : rowI A.rows num with
    | none => rw [chg_bad h (.inr (.inr (.inr rfl)))]; rfl
    | some r =>
      have hr := rowAt_lt (A := A) h
      cases r with
      | kn y => rw [chg_findK h]; rfl
      | lo m =>
        rw [chg_findL h]
        have ts : Acc.tot (setAt A.rows num.toNat (.kn page)) + m = Acc.tot A.rows + page.length := tot_set (r := .kn page) hr.2.2
        show (if W.good page ∧ page.length = m then A.changeAt num.toNat (.kn page) else none) = _
        by_cases hg : goodL W.L page ∧ m = page.length
        · rw [if_pos ⟨hg.1, hg.2.symm⟩, if_pos hg]
          unfold Acc.changeAt
          rw [if_pos (by have := ok.tot; have := hg.2; omega)]
          rfl
        · rw [if_neg fun q => hg ⟨q.1, q.2.symm⟩, if_neg hg]
          rfl
  · show A.takep num = _
    unfold Acc.takep
    rw [rowAt_I]
    cases h : rowI A.rows num with
    | none => rw [chg_bad h (.inl rfl)]; rfl
    | some r => rw [chg_take h]; rfl
  · show A.losep num = _
    unfold Acc.losep
    rw [rowAt_I]
    cases h : rowI A.rows num with
    | none => rw [chg_bad h (.inr (.inl rfl))]; rfl
    | some r =>
      have hr := rowAt_lt (A := A) h
      cases r with
      | lo m => rw [chg_loseL h]; rfl
      | kn y =>
        rw [chg_loseK h]
        have ts : Acc.tot (setAt A.rows num.toNat (.lo y.length)) + y.length = Acc.tot A.rows + y.length := tot_set (r := .lo y.length) hr.2.2
        show A.changeAt num.toNat (.lo y.length) = _
        unfold Acc.changeAt
        rw [if_pos (by have := ok.tot; omega)]
        rfl
  · exact absurd rfl n3
  · exact absurd rfl n1
  · exact absurd rfl n2
theorem bnd_eq {A : Acc} {n : Int} : A.bndp n = if (1 ≤ n ∧ n ≤ 8) ∧ (A.rows.length : Int) ≤ n then some { A with bound := n.toNat } else none := by
  unfold Acc.bndp
  by_cases h : (1 ≤ n ∧ n ≤ 8) ∧ (A.rows.length : Int) ≤ n
  · rw [if_pos h, if_pos ⟨by split <;> omega, by omega⟩]
  · rw [if_neg h, if_neg fun q => h ?_]
    obtain ⟨q1, q2⟩ := q
    split at q1 <;> omega
theorem next_bnd {W : Wd} {A A' : Acc} {s : Stp} (hb : A.rows.length ≤ A.bound) (h : A.next W s = some A') : A'.rows.length ≤ A'.bound := by
  obtain ⟨kd, num, page⟩ := s
  have chgA : ∀ {k r}, k < A.rows.length → A.changeAt k r = some A' → A'.rows.length ≤ A'.bound := fun {k r} hk h => by
    unfold Acc.changeAt at h
    split at h
    · cases h
      show (setAt A.rows k r).length ≤ A.bound
      rw [setAt_len hk]
      exact hb
    · cases h
  have putA : ∀ {k r}, A.putAt k r = some A' → A'.rows.length ≤ A'.bound := fun {k r} h => by
    unfold Acc.putAt at h
    split at h
    · rename_i hc
      cases h
      show (insAt A.rows k r).length ≤ A.bound
      unfold insAt
      rw [List.length_append, List.length_append, List.length_take, List.length_drop]
      have := hc.1
      show _ + 1 + _ ≤ _
      omega
    · cases h
  have insA : ∀ {n z}, A.ins W n z = some A' → A'.rows.length ≤ A'.bound := fun {n z} h => by
    unfold Acc.ins at h
    split at h
    · exact putA h
    · cases h
  cases kd
  · exact insA (show A.ins W A.rows.length page = some A' from h)
  · exact insA (show A.ins W num page = some A' from h)
  · have h : A.setp W num page = some A' := h
    unfold Acc.setp at h
    split at h
    · rename_i e
      split at h
      · exact chgA (rowAt_lt e).1 h
      · cases h
    · cases h
  · have h : A.findp W num page = some A' := h
    unfold Acc.findp at h
    split at h
    · rename_i e
      split at h
      · exact chgA (rowAt_lt e).1 h
      · cases h
    · cases h
  · have h : A.takep num = some A' := h
    unfold Acc.takep at h
    split at h
    · cases h
      show (delAt A.rows num.toNat).length ≤ A.bound
      unfold delAt
      rw [List.length_append, List.length_take, List.length_drop]
      omega
    · cases h
  · have h : A.losep num = some A' := h
    unfold Acc.losep at h
    split at h
    · rename_i e
      exact chgA (rowAt_lt e).1 h
    · cases h
  · have h : A.bndp num = some A' := h
    rw [bnd_eq] at h
    split at h
    · rename_i hc
      cases h
      show A.rows.length ≤ num.toNat
      omega
    · cases h
  · have h : A.markp W = some A' := h
    unfold Acc.markp at h
    split at h
    · cases h
      exact hb
    · cases h
  · have h : A.tearp = some A' := h
    unfold Acc.tearp at h
    split at h
    · cases h
    · cases h
      exact hb
def sp_law_next (K : Fr) : Sp := fun vs H Q _ => ∃ (acc st : Addr) (p : Nat) (L : List Nat) (ss : Addr), vs = [.ref acc, .ref st, .int (p : Int), .str (SX.S L), .ref ss] ∧ ∃ (G : Hp) (W : Wd) (A : Acc) (s : Stp), W.Ok ∧ p = W.p ∧ L = W.L ∧ Ex G H ∧ AccAt G acc A ∧ StpAt G st s ∧ s.Ok ∧ WSets G ss W ∧ AccOk W A ∧ A.rows.length ≤ A.bound ∧
  (A.next W s = none → RetV .non H Q) ∧ (∀ A', A.next W s = some A' → ∀ a' G' H', Gr G H G' H' → Ex H H' → AccAt G' a' A' → Q (.ref a') H')
theorem ok_law_next (T : Tx w K mg) : FnOk P w K mg base CX0 4 (a_law_next K) (fdOf K (a_law_next K)) ["_law_account", "_law_step_here", "_law_places", "_law_letters", "_law_sets"] (sp_law_next K) := by
  refine (T.d_law_next).ok sc_law_next (fun vs H Q E h => ?_) (fun cdv A outer s H vs Q E hr h => ?_)
  · obtain ⟨_, _, _, _, _, rfl, _⟩ := h
    rfl
  refine ⟨_, PSs.nox (pss_cons (ps_set (i := 5) sc_law_next.nd rfl (Or.inl rfl) (pe_ix ix_list (pv 0) pe_int (fun _ _ => rfl)))
      (pss_cons (ps_if (pt_cmpR op_eq (pe_ix ix_list (pv 1) pe_int (fun _ _ => rfl)) pe_str (by first | exact nomark _ | rfl))
      (pss_cons (ps_if (pt_cmpR op_ge (pe_call (ok_law_first_lost T) (hr.mono (by decide)) rfl T.g_law_first_lost T.d_law_first_lost.kp T.b_law_first_lost .nil pass0 (pa_cons (pv 5) pa_nil)) pe_int (by first | exact nomark _ | rfl))
        (pss_one (ps_ret pe_non))
        pss_nil)
        (pss_one (ps_ret (pe_lst (pa_cons (pv 5) (pa_cons (pe_call (ok_law_cast T) (hr.mono (by decide)) rfl T.g_law_cast T.d_law_cast.kp T.b_law_cast .nil pass0 (pa_cons (pv 0) (pa_cons (pv 2) (pa_cons (pv 3) (pa_cons (pv 4) pa_nil))))) (pa_cons (pe_ix ix_list (pv 0) pe_int (fun _ _ => rfl)) pa_nil)))))))
      pss_nil)
      (pss_cons (ps_if (pt_cmpR op_eq (pe_ix ix_list (pv 1) pe_int (fun _ _ => rfl)) pe_str (by first | exact nomark _ | rfl))
      (pss_cons (ps_if (pt_cmpR op_isN (pe_ix ix_list (pv 0) pe_int (fun _ _ => rfl)) pe_non (by first | exact nomark _ | rfl))
        (pss_one (ps_ret pe_non))
        pss_nil)
        (pss_one (ps_ret (pe_lst (pa_cons (pv 5) (pa_cons pe_non (pa_cons (pe_ix ix_list (pv 0) pe_int (fun _ _ => rfl)) pa_nil)))))))
      pss_nil)
      (pss_cons (ps_if (pt_cmpR op_eq (pe_ix ix_list (pv 1) pe_int (fun _ _ => rfl)) pe_str (by first | exact nomark _ | rfl))
      (pss_cons (ps_if (PW.pt (pw_or (pt_not (pt_chain op_le op_le pe_int (pe_ix ix_list (pv 1) pe_int (fun _ _ => rfl)) pe_int)) (pw_or1 (pt_cmpR op_lt (pe_ix ix_list (pv 1) pe_int (fun _ _ => rfl)) (pe_callB call_len (by rfl) T.z_len (by decide +kernel) (pa_cons (pv 5) pa_nil)) (by first | exact nomark _ | rfl)))))
        (pss_one (ps_ret pe_non))
        pss_nil)
        (pss_one (ps_ret (pe_lst (pa_cons (pv 5) (pa_cons (pe_ix ix_list (pv 0) pe_int (fun _ _ => rfl)) (pa_cons (pe_ix ix_list (pv 1) pe_int (fun _ _ => rfl)) pa_nil)))))))
      pss_nil)
      (pss_cons (ps_set (i := 5) sc_law_next.nd rfl (Or.inl rfl) (pe_call (ok_law_changed T) (hr.mono (by decide)) rfl T.g_law_changed T.d_law_changed.kp T.b_law_changed .nil pass0 (pa_cons (pv 5) (pa_cons (pv 1) (pa_cons (pe_ix ix_list (pv 0) pe_int (fun _ _ => rfl)) (pa_cons (pv 3) pa_nil))))))
      (pss_cons (ps_if (pt_cmpR op_isN (pv 5) pe_non (by first | exact nomark _ | rfl))
      (pss_one (ps_ret pe_non))
      pss_nil)
      (pss_one (ps_ret (pe_lst (pa_cons (pv 5) (pa_cons (pe_ix ix_list (pv 0) pe_int (fun _ _ => rfl)) (pa_cons (pe_ix ix_list (pv 0) pe_int (fun _ _ => rfl)) pa_nil)))))))))))), ?_⟩
  obtain ⟨acc, st, p, L, ss, rfl, G, W, A, s, O, rfl, rfl, hG, ⟨h, cd, ha, hr, hcd⟩, hs, so, hS, ok, hb, kN, kS⟩ := h
  have ha' := hG _ _ ha
  have hl8 := ok.len
  obtain ⟨kd, num, page⟩ := s
  have hs' := hG _ _ hs
  obtain ⟨xs, hxs, hxl⟩ := rows_len hr
  have fin : ∀ A' (a' : Addr) (h' : Addr) (cd' : V) H', A.next W ⟨kd, num, page⟩ = some A' → Ex H H' → H a' = none → H' a' = some (.lst [.ref h', cd', .int (A'.bound : Int)]) → RowsAt (ext G H H') h' A'.rows → LCard (ext G H H') cd' A'.card → Q (.ref a') H' := fun A' a' h' cd' H' e ex na h1 h2 h3 => kS A' e a' (ext G H H') H' (Gr.pure hG ex) ex ⟨h', cd', by rw [ext_new na]; exact h1, h2, h3⟩
  walk_at "s"
  refine go_ixL (sq_of ha') (show atI _ ((0 : Nat) : Int) = some (.ref h) from rfl) ?_
  walk_at "s"
  refine go_ixL (sq_of hs') (show atI _ ((0 : Nat) : Int) = some (.str kd.nm) from rfl) ?_
  walk_at "s"
  by_cases k1 : kd = .mark
  · subst k1
    refine iteYes rfl ?_
    walk_at "s"
    refine ⟨h, rfl, A.rows, by omega, hr.ex hG, ?_⟩
    walk_at "s"
    cases hlo : lostAt A.rows with
    | some j =>
      have e : lostI A.rows = (j : Int) := by unfold lostI; rw [hlo]
      rw [e]
      refine iteYes (Int.natCast_nonneg _) ?_
      walk_at "s"
      exact kN (by show A.markp W = none; unfold Acc.markp; rw [hlo]) _ (Ex.refl _)
    | none =>
      have e : lostI A.rows = -1 := by unfold lostI; rw [hlo]
      rw [e]
      refine iteNo (by decide) ?_
      walk_at "s"
      refine ⟨acc, W.p, W.L, ss, rfl, W, A, O, rfl, rfl, ⟨h, cd, ha', hr.ex hG, hcd.ex hG⟩, hS.ex hG, ok, hlo, fun q H1 nq e1 hq => ?_⟩
      walk_at "s"
      refine go_ixL (sq_of (e1 _ _ ha')) (show atI _ ((2 : Nat) : Int) = some (.int (A.bound : Int)) from rfl) ?_
      walk_at "s"
      intro a9 na9; generalize hEa9 : upd _ a9 _ = H2; have eH2 := exN na9 hEa9; have ha9 := atN hEa9; clear hEa9
      refine fin { A with card := some (W.card A.joined) } a9 h (.ref q) H2 (by show A.markp W = _; unfold Acc.markp; rw [hlo]) (e1.trans eH2) (fresh_back e1 na9) ha9 (hr.ex (Gr.pure hG (e1.trans eH2)).ex) ⟨q, rfl, ?_⟩
      rw [ext_new nq]
      exact eH2 _ _ hq
  refine iteNo (fun z => k1 (by have z := V.str.inj z; cases kd <;> first | rfl | exact absurd z (by decide +kernel))) ?_
  walk_at "s"
  refine go_ixL (sq_of hs') (show atI _ ((0 : Nat) : Int) = some (.str kd.nm) from rfl) ?_
  walk_at "s"
  by_cases k2 : kd = .tear
  · subst k2
    refine iteYes rfl ?_
    walk_at "s"
    refine go_ixL (sq_of ha') (show atI _ ((1 : Nat) : Int) = some cd from rfl) ?_
    refine ⟨rfl, _, rfl, ?_⟩
    cases hc : A.card with
    | none =>
      rw [hc] at hcd
      have e : cd = .non := hcd
      subst e
      refine iteYes (c := V.non = V.non) rfl ?_
      walk_at "s"
      exact kN (by show A.tearp = none; unfold Acc.tearp; rw [hc]) _ (Ex.refl _)
    | some hs =>
      rw [hc] at hcd
      obtain ⟨cc, rfl, _⟩ := hcd
      refine iteNo (c := V.ref cc = V.non) (fun z => V.noConfusion z) ?_
      walk_at "s"
      refine go_ixL (sq_of ha') (show atI _ ((2 : Nat) : Int) = some (.int (A.bound : Int)) from rfl) ?_
      walk_at "s"
      intro a9 na9; generalize hEa9 : upd _ a9 _ = H2; have eH2 := exN na9 hEa9; have ha9 := atN hEa9; clear hEa9
      exact fin { A with card := none } a9 h .non H2 (by show A.tearp = _; unfold Acc.tearp; rw [hc]) eH2 na9 ha9 (hr.ex (Gr.pure hG eH2).ex) rfl
  refine iteNo (fun z => k2 (by have z := V.str.inj z; cases kd <;> first | rfl | exact absurd z (by decide +kernel))) ?_
  walk_at "s"
  refine go_ixL (sq_of hs') (show atI _ ((0 : Nat) : Int) = some (.str kd.nm) from rfl) ?_
  walk_at "s"
  by_cases k3 : kd = .bound
  · subst k3
    refine iteYes rfl ?_
    walk_at "s"
    refine go_ixL (sq_of hs') (show atI _ ((1 : Nat) : Int) = some (.int num) from rfl) ?_
    have bad : ¬ ((1 ≤ num ∧ num ≤ 8) ∧ (A.rows.length : Int) ≤ num) → A.next W ⟨.bound, num, page⟩ = none := fun q => by
      show A.bndp num = none
      rw [bnd_eq, if_neg q]
    walk_at "s"
    by_cases h1 : 1 ≤ num
    · refine iteYes h1 ?_
      walk_at "s"
      by_cases h2 : num ≤ 8
      · rw [decide_eq_true h2]
        walk_at "s"
        refine go_ixL (sq_of hs') (show atI _ ((1 : Nat) : Int) = some (.int num) from rfl) ?_
        have hxs' := hG _ _ hxs
        walk_at "s"
        rw [hxl]
        by_cases h3 : num < (A.rows.length : Int)
        · rw [decide_eq_true h3]
          walk_at "s"
          exact kN (bad fun q => by omega) _ (Ex.refl _)
        · rw [decide_eq_false h3]
          walk_at "s"
          refine go_ixL (sq_of ha') (show atI _ ((1 : Nat) : Int) = some cd from rfl) ?_
          walk_at "s"
          refine go_ixL (sq_of hs') (show atI _ ((1 : Nat) : Int) = some (.int num) from rfl) ?_
          walk_at "s"
          intro a9 na9; generalize hEa9 : upd _ a9 _ = H2; have eH2 := exN na9 hEa9; have ha9 := atN hEa9; clear hEa9
          obtain ⟨n, rfl⟩ := Int.eq_ofNat_of_zero_le (show 0 ≤ num by omega)
          refine fin { A with bound := n } a9 h cd H2 ?_ eH2 na9 ha9 (hr.ex (Gr.pure hG eH2).ex) (hcd.ex (Gr.pure hG eH2).ex)
          show A.bndp (n : Int) = _
          rw [bnd_eq, if_pos ⟨⟨h1, h2⟩, by omega⟩]
          rfl
      · rw [decide_eq_false h2]
        walk_at "s"
        exact kN (bad fun q => h2 q.1.2) _ (Ex.refl _)
    · refine iteNo h1 ?_
      walk_at "s"
      exact kN (bad fun q => h1 q.1.1) _ (Ex.refl _)
  refine iteNo (fun z => k3 (by have z := V.str.inj z; cases kd <;> first | rfl | exact absurd z (by decide +kernel))) ?_
  have cn := chg_next (s := ⟨kd, num, page⟩) ok hb k1 k2 k3
  walk_at "s"
  refine go_ixL (sq_of ha') (show atI _ ((2 : Nat) : Int) = some (.int (A.bound : Int)) from rfl) ?_
  walk_at "s"
  refine ⟨h, st, A.bound, W.L, rfl, G, A.rows, ⟨kd, num, page⟩, hG, hr, by omega, hs, so, k1, k2, k3, fun hn H1 e1 => ?_, fun rows' hn h' G' H1 g e1 hr' => ?_⟩
  · walk_at "s"
    refine ⟨rfl, _, rfl, ?_⟩
    refine iteYes (c := V.non = V.non) rfl ?_
    walk_at "s"
    exact kN (by rw [cn, hn]; rfl) _ e1
  · walk_at "s"
    refine ⟨rfl, _, rfl, ?_⟩
    refine iteNo (c := V.ref h' = V.non) (fun z => V.noConfusion z) ?_
    walk_at "s"
    refine go_ixL (sq_of (e1 _ _ ha')) (show atI _ ((1 : Nat) : Int) = some cd from rfl) ?_
    walk_at "s"
    refine go_ixL (sq_of (e1 _ _ ha')) (show atI _ ((2 : Nat) : Int) = some (.int (A.bound : Int)) from rfl) ?_
    walk_at "s"
    intro a9 na9; generalize hEa9 : upd _ a9 _ = H2; have eH2 := exN na9 hEa9; have ha9 := atN hEa9; clear hEa9
    have g2 : Gr G' H1 (ext G' H1 H2) H2 := Gr.pure g.up eH2
    exact kS { A with rows := rows' } (by rw [cn, hn]; rfl) a9 _ H2 (g.trans g2) (e1.trans eH2) ⟨h', cd, by rw [ext_new na9]; exact ha9, hr'.ex g2.ex, hcd.ex (g.ex.trans g2.ex)⟩
/-! W31 -/

/-! equality of lists -/
def fl : V → PyData
  | .bl b => .bool b
  | .int i => .int i
  | .str x => .str x
  | _ => .none
def okV : V → Bool
  | .str x => PyData.strOk x
  | _ => true
theorem dp_fl {K : Fr} {H : Hp} {v : V} (h : flatV v = true) : Dp K H v (fl v) := by
  cases v with
  | non => exact .non
  | bl b => exact .bl b
  | int i => exact .int i
  | str x => exact .str x
  | _ => cases h
theorem dpa_fl {K : Fr} {H : Hp} : ∀ {xs : List V}, xs.all flatV = true → DpAll K H xs (xs.map fl)
  | [], _ => .nil
  | x :: xs, h => by
    rw [List.all_cons, Bool.and_eq_true] at h
    exact .cons (dp_fl h.1) (dpa_fl h.2)
theorem lay_fl : ∀ {xs : List V}, xs.all okV = true → PyData.canLayAll0 (xs.map fl) = true
  | [], _ => by simp [PyData.canLayAll0]
  | x :: xs, h => by
    rw [List.all_cons, Bool.and_eq_true] at h
    have e : PyData.canLay0 (fl x) = true := by
      cases x with
      | str z => show PyData.canLay0 (.str z) = true; simp only [PyData.canLay0]; exact h.1
      | _ => simp [fl, PyData.canLay0]
    simp only [List.map_cons, PyData.canLayAll0, e, lay_fl h.2, Bool.and_self]
theorem dep_fl : ∀ xs : List V, PyData.depthAll (xs.map fl) = 0
  | [] => by simp [PyData.depthAll]
  | x :: xs => by
    have e : PyData.depth (fl x) = 0 := by cases x <;> simp [fl, PyData.depth]
    simp only [List.map_cons, PyData.depthAll, e, dep_fl xs, Nat.max_self]
theorem shaped_fl {xs : List V} (h : xs.all okV = true) : SeqAt.shaped (.list (xs.map fl)) = true := by
  have h1 : PyData.canLay0 (.list (xs.map fl)) = true := by simp only [PyData.canLay0]; exact lay_fl h
  have h2 : PyData.depth (.list (xs.map fl)) = 1 := by simp only [PyData.depth, dep_fl]
  show (PyData.canLay0 _ && decide (PyData.depth _ ≤ 64)) = true
  rw [h1, h2]
  decide
theorem eqv_nil (ds : List PyData) : PyData.eqv (.list ds) (.list []) = ds.isEmpty := by
  cases ds <;> simp [PyData.eqv, PyData.eqvAll]
theorem eqv_intsA : ∀ xs ys : List Int, PyData.eqvAll ((xs.map V.int).map fl) ((ys.map V.int).map fl) = decide (xs = ys)
  | [], [] => by simp [PyData.eqvAll]
  | [], _ :: _ => by simp [PyData.eqvAll]
  | _ :: _, [] => by simp [PyData.eqvAll]
  | x :: xs, y :: ys => by
    simp only [List.map_cons, PyData.eqvAll, fl, PyData.eqv, eqv_intsA xs ys]
    by_cases h : x = y <;> by_cases h2 : xs = ys <;> simp [h, h2]
theorem eqv_ints (xs ys : List Int) : PyData.eqv (.list ((xs.map V.int).map fl)) (.list ((ys.map V.int).map fl)) = decide (xs = ys) := by
  simp only [PyData.eqv]
  exact eqv_intsA xs ys
theorem all_ints (f : V → Bool) (h : ∀ i, f (.int i) = true) (xs : List Int) : (xs.map V.int).all f = true := by
  rw [List.all_eq_true]
  intro x hx
  obtain ⟨i, _, rfl⟩ := List.mem_map.mp hx
  exact h i
section
variable {H : Hp} {Q : VK} {a b : Addr} {xs ys : List V}
theorem go_neD (h : SqL K H a xs) (h2 : SqL K H b ys) (f1 : xs.all flatV = true) (f2 : ys.all flatV = true) (o1 : xs.all okV = true) (o2 : ys.all okV = true) (q : Q (.bl (!PyData.eqv (.list (xs.map fl)) (.list (ys.map fl)))) H) : rNeD K (.ref a) (.ref b) H Q :=
  ⟨_, _, .lst h (dpa_fl f1), .lst h2 (dpa_fl f2), shaped_fl o1, shaped_fl o2, q⟩
theorem go_eqD (h : SqL K H a xs) (h2 : SqL K H b ys) (f1 : xs.all flatV = true) (f2 : ys.all flatV = true) (o1 : xs.all okV = true) (o2 : ys.all okV = true) (q : Q (.bl (PyData.eqv (.list (xs.map fl)) (.list (ys.map fl)))) H) : rEqD K (.ref a) (.ref b) H Q :=
  ⟨_, _, .lst h (dpa_fl f1), .lst h2 (dpa_fl f2), shaped_fl o1, shaped_fl o2, q⟩
end
/-! pages and steps drawn -/
theorem StaAt.grow {G H G' H' : Hp} {st : Addr} (h : StaAt G H st) (g : Gr G H G' H') (e : H' st = H st) : StaAt G' H' st := by
  obtain ⟨n, cur, idx, cs, cells, hc, h1, h2⟩ := h
  exact ⟨g.old st (by rw [h1]; exact fun z => nomatch z) n, cur, idx, cs, cells, hc, e.trans h1, g.ex _ _ h2⟩
theorem StaAt.ex_ {G H H' : Hp} {st : Addr} (h : StaAt G H st) (e : Ex H H') : H' st = H st := by
  obtain ⟨n, cur, idx, cs, cells, hc, h1, h2⟩ := h
  rw [h1]
  exact e _ _ h1
theorem StaAt.up {G H H' : Hp} {st : Addr} (h : StaAt G H st) (hG : Ex G H) (e : Ex H H') : StaAt (ext G H H') H' st := h.grow (Gr.pure hG e) (h.ex_ e)
/-- the same, G kept -/
theorem StaAt.up0 {G H H' : Hp} {st : Addr} (h : StaAt G H st) (e : Ex H H') : StaAt G H' st := by
  have := h.ex_ e
  obtain ⟨n, cur, idx, cs, cells, hc, h1, h2⟩ := h
  exact ⟨n, cur, idx, cs, cells, hc, this.trans h1, h2⟩
theorem StaAt.dom {G H : Hp} {st : Addr} (h : StaAt G H st) : H st ≠ none := by
  obtain ⟨n, cur, idx, cs, cells, hc, h1, h2⟩ := h
  rw [h1]
  exact fun z => nomatch z
theorem StaAt.gr {G H H' : Hp} {st : Addr} (h : StaAt G H' st) (hG : Ex G H) (f : Frm [st] H H') : Gr G H (ext G H H') H' := gr1 hG f h.1 h.dom
/-- letters as the law has them -/
structure LOk (L : List Nat) : Prop where
  len : 2 ≤ L.length ∧ L.length ≤ 4
  rng : ∀ c ∈ L, 97 ≤ c ∧ c ≤ 122
def sizes : List Nat := [2, 1, 0, 3, 1, 2, 6, 17]
theorem sizes_at {i : Nat} (h : i < 8) : ([V.int 2, .int 1, .int 0, .int 3, .int 1, .int 2, .int 6, .int 17] : List V)[i]? = some (.int ((sizes.getD i 0 : Nat) : Int)) ∧ sizes.getD i 0 ≤ 17 := by
  match i, h with
  | 0, _ => exact ⟨rfl, by decide⟩
  | 1, _ => exact ⟨rfl, by decide⟩
  | 2, _ => exact ⟨rfl, by decide⟩
  | 3, _ => exact ⟨rfl, by decide⟩
  | 4, _ => exact ⟨rfl, by decide⟩
  | 5, _ => exact ⟨rfl, by decide⟩
  | 6, _ => exact ⟨rfl, by decide⟩
  | 7, _ => exact ⟨rfl, by decide⟩
def PgOk (L z : List Nat) : Prop := (∀ c ∈ z, c = 65 ∨ c ∈ L) ∧ z.length ≤ 18
def sp_law_text (K : Fr) : Sp := fun vs H Q _ => ∃ (st : Addr) (t : Nat) (L : List Nat), vs = [.ref st, .int (t : Int), .str (SX.S L)] ∧ ∃ G : Hp, t ≤ 100 ∧ LOk L ∧ Ex G H ∧ StaAt G H st ∧ ∀ z G' H', PgOk L z → Gr G H G' H' → Frm [st] H H' → StaAt G' H' st → Q (.str (SX.S z)) H'
theorem ok_law_text (T : Tx w K mg) : FnOk P w K mg base CX0 2 (a_law_text K) (fdOf K (a_law_text K)) ["_law_state", "_law_turn", "_law_letters"] (sp_law_text K) := by
  refine (T.d_law_text).ok sc_law_text (fun vs H Q E h => ?_) (fun cdv A outer s H vs Q E hr h => ?_)
  · obtain ⟨_, _, _, rfl, _⟩ := h
    rfl
  refine ⟨_, PSs.nox (pss_cons (ps_set (i := 3) sc_law_text.nd rfl (Or.inl rfl) (pe_ix ix_list (pe_lst (pa_cons pe_int (pa_cons pe_int (pa_cons pe_int (pa_cons pe_int (pa_cons pe_int (pa_cons pe_int (pa_cons pe_int (pa_cons pe_int pa_nil))))))))) (pe_op op_modN (pe_callTy call_int1 (by rfl) T.z_int (by decide +kernel) (pa_cons (pe_op op_add (pe_call (ok_law_draw T) (hr.mono (by decide)) rfl T.g_law_draw T.d_law_draw.kp T.b_law_draw .nil pass0 (pa_cons (pv 0) (pa_cons pe_int pa_nil))) (pv 1)) pa_nil)) pe_int) (fun _ _ => rfl)))
      (pss_cons (ps_set (i := 4) sc_law_text.nd rfl (Or.inl rfl) pe_str)
      (pss_cons (ps_for PassesOwn.never rfl (pi_range1 rfl T.z_range (pa_cons (pv 3) pa_nil)) (pg_name (i := 5) sc_law_text.nd rfl (Or.inl rfl))
      (pss_cons (ps_set (i := 6) sc_law_text.nd rfl (Or.inl rfl) (pe_op op_modN (pe_callTy call_int1 (by rfl) T.z_int (by decide +kernel) (pa_cons (pe_op op_add (pe_call (ok_law_draw T) (hr.mono (by decide)) rfl T.g_law_draw T.d_law_draw.kp T.b_law_draw .nil pass0 (pa_cons (pv 0) (pa_cons (pe_callB call_len (by rfl) T.z_len (by decide +kernel) (pa_cons (pv 2) pa_nil)) pa_nil))) (pv 5)) pa_nil)) (pe_callB call_len (by rfl) T.z_len (by decide +kernel) (pa_cons (pv 2) pa_nil))))
        (pss_one (ps_set (i := 4) sc_law_text.nd rfl (Or.inl rfl) (pe_op op_add_str (pv 4) (pe_ix ix_str (pv 2) (pv 6) (fun _ _ => rfl)))))))
      (pss_cons (ps_if (pt_cmpR op_eq (pe_call (ok_law_draw T) (hr.mono (by decide)) rfl T.g_law_draw T.d_law_draw.kp T.b_law_draw .nil pass0 (pa_cons (pv 0) (pa_cons pe_int pa_nil))) pe_int (by first | exact nomark _ | rfl))
      (pss_one (ps_set (i := 4) sc_law_text.nd rfl (Or.inl rfl) (pe_op op_add_str pe_str (pv 4))))
      pss_nil)
      (pss_one (ps_ret (pv 4))))))), ?_⟩
  obtain ⟨st, t, L, rfl, G, ht, lo, hG, hst, k⟩ := h
  have lL : (SX.S L).length ≤ 4 := by rw [SX.S_len]; exact lo.len.2
  have l2 := lo.len.1
  have l4 := lo.len.2
  walk_at "s"
  intro p1 np1; generalize hEp1 : upd _ p1 _ = H1; have eH1 := exN np1 hEp1; have hp1 := atN hEp1; clear hEp1
  walk_at "s"
  refine ⟨st, _, rfl, G, 8, rfl, by decide, by decide, hG.trans eH1, hst.up0 eH1, fun v H2 hv e2 s2 f2 => ?_⟩
  have np1 : p1 ≠ st := fun z => by rw [z] at np1; exact hst.dom np1
  have hp2 := f2 _ _ (no1 np1) hp1
  walk_at "s"
  refine .inl ⟨_, rfl, ?_⟩
  walk_at "s"
  refine go_rI (by decide) ?_
  rw [show ((v : Int) + (t : Int)).fmod 8 = (((v + t) % 8 : Nat) : Int) by rw [Int.fmod_eq_emod_of_nonneg _ (by decide)]; omega]
  obtain ⟨sz1, sz2⟩ := sizes_at (Nat.mod_lt (v + t) (show 0 < 8 by decide))
  generalize sizes.getD ((v + t) % 8) 0 = n at sz1 sz2
  refine go_ixL (sq_of hp2) (atI_nat sz1) ?_
  have f02 : Frm [st] H H2 := (Ex.frm eH1).trans f2
  walk_at "s"
  refine ⟨by omega, by omega, ?_⟩
  refine for_range (lo := 0) (n := ((n : Nat) : Int).toNat) (fun i σ H' => Ex G H' ∧ StaAt G H' st ∧ Frm [st] H H' ∧ ∃ z : List Nat, (∀ c ∈ z, c ∈ L) ∧ z.length = i ∧ ∃ v5 v6, σ = [some (.ref st), some (.int (t : Int)), some (.str (SX.S L)), some (.int (n : Int)), some (.str (SX.S z)), v5, v6])
    ⟨e2, s2, f02, [], (fun c hc => by cases hc), rfl, none, none, by rw [← empty_eq]; rfl⟩ ?_ ?_
  · rintro i σ H' hi ⟨e3, s3, f3, z, hz, hzl, v5, v6, rfl⟩
    rw [Int.zero_add]
    have hzl2 : (SX.S z).length ≤ 17 := by rw [SX.S_len]; omega
    walk_at "s"
    refine ⟨_, _, rfl, ⟨sz_of (by omega), rfl⟩, ?_⟩
    walk_at "s"
    rw [SX.S_len]
    refine ⟨st, _, rfl, G, L.length, rfl, by omega, by omega, e3, s3, fun v H4 hv e4 s4 f4 => ?_⟩
    walk_at "s"
    refine .inl ⟨_, rfl, ?_⟩
    walk_at "s"
    refine ⟨_, _, rfl, ⟨sz_of (by omega), rfl⟩, ?_⟩
    rw [SX.S_len]
    refine go_rI (by show (L.length : Int) ≠ 0; omega) ?_
    rw [show ((v : Int) + (i : Int)).fmod (L.length : Int) = (((v + i) % L.length : Nat) : Int) by rw [Int.fmod_eq_emod_of_nonneg _ (by omega)]; rfl]
    have hlt : (v + i) % L.length < L.length := Nat.mod_lt _ (by omega)
    have hc : L[(v + i) % L.length]? = some (L.getD ((v + i) % L.length) 0) := by simp [List.getD, hlt]
    walk_at "s"
    refine go_ixS (by omega) (atI_nat hc) ?_
    refine ⟨_, _, rfl, rfl, sz_of (by rw [SX.S_len [_]]; exact (show _ + 1 ≤ 100000 by omega)), ?_⟩
    rw [SX.S_cat]
    refine ⟨e4, s4, f3.trans f4, z ++ [L.getD ((v + i) % L.length) 0], fun c hc' => ?_, by rw [List.length_append, hzl]; rfl, _, _, rfl⟩
    rcases List.mem_append.mp hc' with h | h
    · exact hz c h
    · rw [List.mem_singleton.mp h]
      exact List.mem_of_getElem? hc
  · rintro σ H' ⟨e3, s3, f3, z, hz, hzl, v5, v6, rfl⟩
    have hzl2 : (SX.S z).length ≤ 17 := by rw [SX.S_len]; omega
    have hzl3 : z.length ≤ 17 := by omega
    walk_at "s"
    refine ⟨st, _, rfl, G, 8, rfl, by decide, by decide, e3, s3, fun v H4 hv e4 s4 f4 => ?_⟩
    have f04 := f3.trans f4
    have g4 := s4.gr hG f04
    have s4' : StaAt (ext G H H4) H4 st := by
      obtain ⟨n, cur, idx, cs, cells, hc, h1, h2⟩ := s4
      exact ⟨g4.old st hst.dom n, cur, idx, cs, cells, hc, h1, g4.ex _ _ h2⟩
    walk_at "s"
    refine ite2 (fun q => ?_) (fun q => ?_)
    · walk_at "p"
      refine go_var rfl ?_
      refine ⟨_, _, rfl, rfl, sz_of (by rw [show ("A" : Str).length = 1 by decide +kernel]; omega), ?_⟩
      rw [show ("A" : Str) = SX.S [65] by decide +kernel, SX.S_cat]
      walk_at "s"
      refine k _ _ H4 ⟨fun c hc => ?_, by show z.length + 1 ≤ 18; omega⟩ g4 f04 s4'
      rcases List.mem_cons.mp hc with h | h
      · exact .inl h
      · exact .inr (hz c h)
    · walk_at "s"
      exact k _ _ H4 ⟨fun c hc => .inr (hz c hc), by omega⟩ g4 f04 s4'
/-! W32 -/

theorem hu64 {k : Nat} {A : Around} (r : Room k A) : A.units + 64 < cLine := r.units
/-- what stands behind draws: Gr, only the state changed -/
structure Bs (G H G' H' : Hp) (st : Addr) : Prop where
  g : Gr G H G' H'
  f : Frm [st] H H'
  s : StaAt G' H' st
theorem Bs.ex {G H G' H' H2 : Hp} {st : Addr} (b : Bs G H G' H' st) (e : Ex H' H2) : Bs G H (ext G' H' H2) H2 st := ⟨b.g.trans (Gr.pure b.g.up e), b.f.trans (Ex.frm e), b.s.up b.g.up e⟩
theorem Bs.call {G H G' H' G2 H2 : Hp} {st : Addr} (b : Bs G H G' H' st) (g : Gr G' H' G2 H2) (f : Frm [st] H' H2) (s : StaAt G2 H2 st) : Bs G H G2 H2 st := ⟨b.g.trans g, b.f.trans f, s⟩
theorem Bs.draw {G H G' H' H2 : Hp} {st : Addr} (b : Bs G H G' H' st) (s : StaAt G' H2 st) (f : Frm [st] H' H2) : Bs G H (ext G' H' H2) H2 st := by
  have g := s.gr b.g.up f
  refine ⟨b.g.trans g, b.f.trans f, ?_⟩
  obtain ⟨n, cur, idx, cs, cells, hc, h1, h2⟩ := s
  exact ⟨g.old st b.s.dom n, cur, idx, cs, cells, hc, h1, g.ex _ _ h2⟩
theorem Bs.refl {G H : Hp} {st : Addr} (e : Ex G H) (s : StaAt G H st) : Bs G H G H st := ⟨Gr.refl e, Frm.refl _ _, s⟩
def kds : List Kd := [.put, .insert, .lose, .find, .put, .mark, .set, .bound, .take, .tear, .lose]
theorem kds_at {i : Nat} (h : i < 11) : ((["put", "insert", "lose", "find", "put", "mark"] : List Str).map V.str ++ (["set", "bound", "take", "tear", "lose"] : List Str).map V.str)[i]? = some (.str (kds.getD i .put).nm) := by
  match i, h with
  | 0, _ => rfl
  | 1, _ => rfl
  | 2, _ => rfl
  | 3, _ => rfl
  | 4, _ => rfl
  | 5, _ => rfl
  | 6, _ => rfl
  | 7, _ => rfl
  | 8, _ => rfl
  | 9, _ => rfl
  | 10, _ => rfl
/-- the lost pages' numbers -/
def lostL (rows : List Pg) : List Nat := (List.range rows.length).filter fun i => (rows.getD i default).isLo
def lostN (rows : List Pg) : List Int := (lostL rows).map fun i : Nat => (i : Int)
theorem lostN_mem {rows : List Pg} {x : Int} (h : x ∈ lostN rows) : ∃ i : Nat, x = i ∧ i < rows.length := by
  obtain ⟨i, hi, rfl⟩ := List.mem_map.mp h
  exact ⟨i, rfl, List.mem_range.mp (List.mem_filter.mp hi).1⟩
theorem lostL_mem {rows : List Pg} {i : Nat} (h : i ∈ lostL rows) : i < rows.length := List.mem_range.mp (List.mem_filter.mp h).1
def sp_law_step (K : Fr) : Sp := fun vs H Q _ => ∃ (st : Addr) (t : Nat) (h : Addr) (L : List Nat), vs = [.ref st, .int (t : Int), .ref h, .str (SX.S L)] ∧ ∃ (G : Hp) (rows : List Pg), t ≤ 50 ∧ LOk L ∧ Ex G H ∧ StaAt G H st ∧ RowsAt G h rows ∧ rows.length ≤ 8 ∧ (∀ r ∈ rows, r.size ≤ 16) ∧
  ∀ (s : Stp) a G' H', s.Ok → Bs G H G' H' st → StpAt G' a s → Q (.ref a) H'
theorem ok_law_step (T : Tx w K mg) : FnOk P w K mg base CX0 3 (a_law_step K) (fdOf K (a_law_step K)) ["_law_state", "_law_turn", "_law_rows", "_law_letters"] (sp_law_step K) := by
  refine (T.d_law_step).ok sc_law_step (fun vs H Q E h => ?_) (fun cdv A outer s H vs Q E hr h => ?_)
  · obtain ⟨_, _, _, _, rfl, _⟩ := h
    rfl
  refine ⟨_, PSs.nox (pss_cons (ps_set (i := 4) sc_law_step.nd rfl (Or.inl rfl) (pe_lst (pa_cons pe_str (pa_cons pe_str (pa_cons pe_str (pa_cons pe_str (pa_cons pe_str (pa_cons pe_str pa_nil))))))))
      (pss_cons (ps_set (i := 4) sc_law_step.nd rfl (Or.inl rfl) (pe_op op_cat (pv 4) (pe_lst (pa_cons pe_str (pa_cons pe_str (pa_cons pe_str (pa_cons pe_str (pa_cons pe_str pa_nil))))))))
      (pss_cons (ps_set (i := 5) sc_law_step.nd rfl (Or.inl rfl) (pe_ix ix_list (pv 4) (pe_op op_modN (pe_callTy call_int1 (by rfl) T.z_int (by decide +kernel) (pa_cons (pe_op op_add (pe_call (ok_law_draw T) (hr.mono (by decide)) rfl T.g_law_draw T.d_law_draw.kp T.b_law_draw .nil pass0 (pa_cons (pv 0) (pa_cons pe_int pa_nil))) (pv 1)) pa_nil)) pe_int) (fun _ _ => rfl)))
      (pss_cons (ps_set (i := 6) sc_law_step.nd rfl (Or.inl rfl) (pe_call (ok_law_draw T) (hr.mono (by decide)) rfl T.g_law_draw T.d_law_draw.kp T.b_law_draw .nil pass0 (pa_cons (pv 0) (pa_cons (pe_op op_add (pe_callB call_len (by rfl) T.z_len (by decide +kernel) (pa_cons (pv 2) pa_nil)) pe_int) pa_nil))))
      (Evl.pss_cut (ps_if (pt_cmpR op_eq (pv 6) (pe_op op_add (pe_callB call_len (by rfl) T.z_len (by decide +kernel) (pa_cons (pv 2) pa_nil)) pe_int) (by first | exact nomark _ | rfl))
      (pss_one (ps_set (i := 6) sc_law_step.nd rfl (Or.inl rfl) (pe_un un_neg pe_int)))
      pss_nil)
      (pss_cons (ps_setLc (i := 8) (own := [("_law_k", 7)]) (g := gName 7) rfl sc_law_step.nd rfl rfl (sw_true rfl rfl rfl (by decide +kernel)) (pi_range1 rfl T.z_range (pa_cons (pe_callB call_len (by rfl) T.z_len (by decide +kernel) (pa_cons (pv 2) pa_nil)) pa_nil)) (blkOk_by (N := N_law_step) (sc := defScope s_law_step) (by decide +kernel)) (fun _ _ _ _ _ => pg_name (i := 7) sc_law_step.nd rfl (Or.inl rfl)) (fun _ _ _ _ _ => pts_one (pt_cmpR op_isN (pe_ix (r := rIxL K) ix_list (pe_ix (r := rIxL K) ix_list (pv 2) (pv 7) (fun _ _ => rfl)) pe_int (fun _ _ => rfl)) pe_non (by first | exact nomark _ | rfl))) (fun _ _ _ _ _ => (pv 7)))
      (Evl.pss_cut (ps_if (PW.pt (pw_and (pt_cmpR op_eq (pv 5) pe_str (by first | exact nomark _ | rfl)) (pw_and (pt_cmpR (op_neD (hu64 hr)) (pv 8) (pe_lst pa_nil) (by first | exact nomark _ | rfl)) (pw_and1 (pt_cmpR op_ne (pe_call (ok_law_draw T) (hr.mono (by decide)) rfl T.g_law_draw T.d_law_draw.kp T.b_law_draw .nil pass0 (pa_cons (pv 0) (pa_cons pe_int pa_nil))) pe_int (by first | exact nomark _ | rfl))))))
      (pss_one (ps_set (i := 6) sc_law_step.nd rfl (Or.inl rfl) (pe_ix ix_list (pv 8) (pe_op op_sub (pe_callB call_len (by rfl) T.z_len (by decide +kernel) (pa_cons (pv 8) pa_nil)) pe_int) (fun _ _ => rfl))))
      pss_nil)
      (pss_cons (ps_set (i := 9) sc_law_step.nd rfl (Or.inl rfl) (pe_call (ok_law_text T) (hr.mono (by decide)) rfl T.g_law_text T.d_law_text.kp T.b_law_text .nil pass0 (pa_cons (pv 0) (pa_cons (pv 1) (pa_cons (pv 3) pa_nil)))))
      (Evl.pss_cut (ps_if (PW.pt (pw_and (pt_cmpR op_eq (pv 5) pe_str (by first | exact nomark _ | rfl)) (pw_and (pt_cmpR op_in_seq (pv 6) (pv 8) (by first | exact nomark _ | rfl)) (pw_and1 (pt_cmpR op_ne (pe_call (ok_law_draw T) (hr.mono (by decide)) rfl T.g_law_draw T.d_law_draw.kp T.b_law_draw .nil pass0 (pa_cons (pv 0) (pa_cons pe_int pa_nil))) pe_int (by first | exact nomark _ | rfl))))))
      (pss_cons (ps_set (i := 9) sc_law_step.nd rfl (Or.inl rfl) pe_str)
        (pss_one (ps_for PassesOwn.never rfl (pi_range1 rfl T.z_range (pa_cons (pe_ix ix_list (pe_ix ix_list (pv 2) (pv 6) (fun _ _ => rfl)) pe_int (fun _ _ => rfl)) pa_nil)) (pg_name (i := 7) sc_law_step.nd rfl (Or.inl rfl))
        (pss_one (ps_set (i := 9) sc_law_step.nd rfl (Or.inl rfl) (pe_op op_add_str (pv 9) (pe_ix ix_str (pv 3) (pe_op op_modN (pe_callTy call_int1 (by rfl) T.z_int (by decide +kernel) (pa_cons (pe_op op_add (pv 7) (pv 1)) pa_nil)) (pe_callB call_len (by rfl) T.z_len (by decide +kernel) (pa_cons (pv 3) pa_nil))) (fun _ _ => rfl))))))))
      pss_nil)
      (Evl.pss_cut (ps_if (pt_cmpR op_eq (pv 5) pe_str (by first | exact nomark _ | rfl))
      (pss_cons (ps_set (i := 10) sc_law_step.nd rfl (Or.inl rfl) (pe_callB call_len (by rfl) T.z_len (by decide +kernel) (pa_cons (pv 2) pa_nil)))
        (pss_cons (ps_set (i := 11) sc_law_step.nd rfl (Or.inl rfl) (pe_lst (pa_cons (pe_op op_add (pv 10) pe_int) (pa_cons pe_int (pa_cons (pv 10) (pa_cons pe_int (pa_cons pe_int (pa_cons (pe_op op_sub (pv 10) pe_int) (pa_cons pe_int (pa_cons pe_int pa_nil))))))))))
        (pss_one (ps_set (i := 6) sc_law_step.nd rfl (Or.inl rfl) (pe_ix ix_list (pv 11) (pe_call (ok_law_draw T) (hr.mono (by decide)) rfl T.g_law_draw T.d_law_draw.kp T.b_law_draw .nil pass0 (pa_cons (pv 0) (pa_cons pe_int pa_nil))) (fun _ _ => rfl))))))
      pss_nil)
      (pss_one (ps_ret (pe_lst (pa_cons (pv 5) (pa_cons (pv 6) (pa_cons (pv 9) pa_nil)))))))))))))))), ?_⟩
  obtain ⟨st, t, h, L, rfl, G, rows, ht, lo, hG, hst, hr, hl8, hsz, k⟩ := h
  have l2 := lo.len.1
  have l4 := lo.len.2
  obtain ⟨xs, hxs, hxl⟩ := rows_len hr
  have b0 := Bs.refl hG hst
  walk_at "s"
  intro p1 np1; generalize hEp1 : upd _ p1 _ = H1; have eH1 := exN np1 hEp1; have hp1 := atN hEp1; clear hEp1
  walk_at "s"
  intro p2 np2; generalize hEp2 : upd _ p2 _ = H2; have eH2 := exN np2 hEp2; have hp2 := atN hEp2; clear hEp2
  refine go_cat (by walk_at "fact") hp2 (by decide) ?_
  intro p3 np3; generalize hEp3 : upd _ p3 _ = H3; have eH3 := exN np3 hEp3; have hp3 := atN hEp3; clear hEp3
  have b3 := ((b0.ex eH1).ex eH2).ex eH3
  generalize hG3 : ext _ H2 H3 = G3 at b3
  have hp3' : G3 p3 = some (.lst ((["put", "insert", "lose", "find", "put", "mark"] : List Str).map V.str ++ (["set", "bound", "take", "tear", "lose"] : List Str).map V.str)) := by
    rw [← hG3, ext_new np3]
    exact hp3
  clear hG3
  walk_at "s"
  refine ⟨st, _, rfl, G3, 11, rfl, by decide, by decide, b3.g.up, b3.s, fun v H4 hv e4 s4 f4 => ?_⟩
  have b4 := b3.draw s4 f4
  walk_at "s"
  refine .inl ⟨_, rfl, ?_⟩
  walk_at "s"
  refine go_rI (by decide) ?_
  rw [show ((v : Int) + (t : Int)).fmod 11 = (((v + t) % 11 : Nat) : Int) by rw [Int.fmod_eq_emod_of_nonneg _ (by decide)]; omega]
  have hkd := kds_at (Nat.mod_lt (v + t) (show 0 < 11 by decide))
  generalize kds.getD ((v + t) % 11) .put = kd at hkd
  refine go_ixL (sq_of (e4 _ _ hp3')) (atI_nat hkd) ?_
  have hx4 : H4 h = some (.lst xs) := b4.g.up _ _ (b4.g.ex _ _ hxs)
  walk_at "s"
  generalize ext G3 H3 H4 = G4 at b4
  refine ⟨st, _, rfl, G4, rows.length + 3, by omega, by omega, by omega, b4.g.up, b4.s, fun v5 H5 hv5 e5 s5 f5 => ?_⟩
  have b5 := b4.draw s5 f5
  generalize ext G4 H4 H5 = G5 at b5
  have hx5 : H5 h = some (.lst xs) := b5.g.up _ _ (b5.g.ex _ _ hxs)
  walk_at "s"
  refine Evl.q_cut (M := fun σ H' => H' = H5 ∧ ∃ num : Int, -1 ≤ num ∧ num < 100 ∧ σ = [some (.ref st), some (.int (t : Int)), some (.ref h), some (.str (SX.S L)), some (.ref p3), some (.str kd.nm), some (.int num), none, none, none, none, none]) ?_ ?_
  · walk_at "s"
    refine ite2 (fun q => ?_) (fun q => ?_)
    · walk_at "s"
      exact ⟨rfl, -1, by decide, by decide, rfl⟩
    · walk_at "s"
      exact ⟨rfl, _, by omega, by omega, rfl⟩
  rintro σ H' ⟨rfl, num, nu1, nu2, rfl⟩
  walk_at "s"
  refine el_cMR (m := rows.length) (fun i => (rows.getD i default).isLo) (fun i => .int (i : Int)) ?_ (by omega) (fun _ => rfl) (fun i H1 e1 hi => ?_) (fun i H1 e1 hi _ => ?_) H' (Ex.refl H') _ fun lq H6 nlq e6 hlq => ?_
  · intro H1 e1 Q1 q1
    have hx1 := e1 _ _ hx5
    walk_at "s"
    rw [hxl]
    exact q1 _ (Ex.refl _)
  · intro H2 e2 Q2 q2
    obtain ⟨r, hx⟩ : ∃ r, rows[i]? = some r := ⟨_, List.getElem?_eq_getElem hi⟩
    obtain ⟨ras', ra, r1, r2, r3, _⟩ := rows_at hr hx
    have up : Ex G H2 := (b5.g.ex.trans b5.g.up).trans (e1.trans e2)
    walk_at "s"
    refine go_ixL (sq_of (up _ _ r1)) (atI_nat r2) ?_
    walk_at "s"
    refine go_ixL (sq_of (up _ _ r3)) (show atI _ ((0 : Nat) : Int) = some r.shown from rfl) ?_
    refine ⟨rfl, _, rfl, ?_⟩
    have er : rows.getD i default = r := by simp [List.getD, hx]
    have e : decide (r.shown = V.non) = r.isLo := by cases r <;> rfl
    rw [e, ← er]
    exact q2 _ (Ex.refl _)
  · exact ev_var rfl
  have b6 := b5.ex e6
  have hlq' : (ext G5 H' H6) lq = some (.lst ((lostN rows).map V.int)) := by
    rw [ext_new nlq]
    refine hlq.trans ?_
    unfold lostN
    rw [List.map_map]
    rfl
  generalize ext G5 H' H6 = G6 at b6 hlq'
  walk_at "s"
  refine Evl.q_cut (M := fun σ H' => ∃ G', Bs G H G' H' st ∧ G' lq = some (.lst ((lostN rows).map V.int)) ∧ ∃ num : Int, -1 ≤ num ∧ num < 100 ∧ σ = [some (.ref st), some (.int (t : Int)), some (.ref h), some (.str (SX.S L)), some (.ref p3), some (.str kd.nm), some (.int num), none, some (.ref lq), none, none, none]) ?_ ?_
  · have fi : ∀ xs : List Int, (xs.map V.int).all flatV = true := fun xs => all_ints _ (fun _ => rfl) xs
    have oi : ∀ xs : List Int, (xs.map V.int).all okV = true := fun xs => all_ints _ (fun _ => rfl) xs
    walk_at "s"
    by_cases kf : kd = .find
    · subst kf
      refine iteYes rfl ?_
      have hlq6 := b6.g.up _ _ hlq'
      walk_at "s"
      intro pe npe; generalize hEpe : upd _ pe _ = H7; have eH7 := exN npe hEpe; have hpe := atN hEpe; clear hEpe
      have b7 := b6.ex eH7
      have hlq7 : (ext G6 H6 H7) lq = some (.lst ((lostN rows).map V.int)) := (Gr.pure b6.g.up eH7).ex _ _ hlq'
      generalize ext G6 H6 H7 = G7 at b7 hlq7
      refine go_neD (sq_of (eH7 _ _ hlq6)) (sq_of hpe) (fi _) rfl (oi _) rfl ?_
      rw [List.map_nil, eqv_nil]
      by_cases hl0 : lostN rows = []
      · rw [hl0]
        walk_at "s"
        exact ⟨G7, b7, by rw [hl0] at hlq7; exact hlq7, num, nu1, nu2, rfl⟩
      · have hne : (((lostN rows).map V.int).map fl).isEmpty = false := by
          cases hh : lostN rows with
          | nil => exact absurd hh hl0
          | cons x r => rfl
        rw [hne]
        walk_at "s"
        refine ⟨st, _, rfl, G7, 4, rfl, by decide, by decide, b7.g.up, b7.s, fun v8 H8 hv8 e8 s8 f8 => ?_⟩
        have b8 := b7.draw s8 f8
        have hlq8 : (ext G7 H7 H8) lq = some (.lst ((lostN rows).map V.int)) := (s8.gr b7.g.up f8).ex _ _ hlq7
        generalize ext G7 H7 H8 = G8 at b8 hlq8
        have hlq8' := b8.g.up _ _ hlq8
        walk_at "s"
        refine ite2 (fun q => ?_) (fun q => ?_)
        · walk_at "s"
          rw [List.length_map]
          obtain ⟨ys, y, hy⟩ : ∃ ys y, lostN rows = ys ++ [y] := by
            rcases List.eq_nil_or_concat (lostN rows) with z | ⟨ys, y, z⟩
            · exact absurd z hl0
            · exact ⟨ys, y, by rw [z, List.concat_eq_append]⟩
          obtain ⟨i, rfl, hi⟩ := lostN_mem (rows := rows) (x := y) (by rw [hy]; simp)
          have hat : ((lostN rows).map V.int)[(lostN rows).length - 1]? = some (.int (i : Int)) := by
            rw [hy]
            simp
          have hpos : 0 < (lostN rows).length := by rw [hy]; simp
          rw [show ((lostN rows).length : Int) - 1 = (((lostN rows).length - 1 : Nat) : Int) by omega]
          refine go_ixL (sq_of hlq8') (atI_nat hat) ?_
          exact ⟨G8, b8, hlq8, _, by omega, by omega, rfl⟩
        · walk_at "s"
          exact ⟨G8, b8, hlq8, num, nu1, nu2, rfl⟩
    · refine iteNo (fun z => kf (by have z := V.str.inj z; cases kd <;> first | rfl | exact absurd z (by decide +kernel))) ?_
      walk_at "s"
      exact ⟨G6, b6, hlq', num, nu1, nu2, rfl⟩
  rintro σ H' ⟨G7, b7, hl7, num, nu1, nu2, rfl⟩
  walk_at "s"
  refine ⟨st, t, L, rfl, G7, by omega, lo, b7.g.up, b7.s, fun z G8 H8 hz g8 f8 s8 => ?_⟩
  have b8 := b7.call g8 f8 s8
  have hl8 := g8.ex _ _ hl7
  walk_at "s"
  refine Evl.q_cut (M := fun σ H' => ∃ G', Bs G H G' H' st ∧ ∃ v7 z, PgOk L z ∧ σ = [some (.ref st), some (.int (t : Int)), some (.ref h), some (.str (SX.S L)), some (.ref p3), some (.str kd.nm), some (.int num), v7, some (.ref lq), some (.str (SX.S z)), none, none]) ?_ ?_
  · have fi : ∀ xs : List Int, (xs.map V.int).all flatV = true := fun xs => all_ints _ (fun _ => rfl) xs
    walk_at "s"
    by_cases kf : kd = .find
    · subst kf
      refine iteYes rfl ?_
      walk_at "s"
      refine go_inL (sq_of (b8.g.up _ _ hl8)) rfl (fi _) ?_
      refine ⟨_, rfl, ?_⟩
      by_cases hin : inV (.int num) ((lostN rows).map V.int) = true
      · refine ifT hin ?_
        obtain ⟨i, rfl, hi⟩ : ∃ i : Nat, num = i ∧ i < rows.length := by
          unfold inV at hin
          rw [List.any_eq_true] at hin
          obtain ⟨y, hy, hq⟩ := hin
          obtain ⟨x, hx, rfl⟩ := List.mem_map.mp hy
          obtain ⟨i, rfl, hi⟩ := lostN_mem hx
          have e : (i : Int) = num := eq_of_beq (show ((i : Int) == num) = true from hq)
          exact ⟨i, e.symm, hi⟩
        walk_at "s"
        refine ⟨st, _, rfl, G8, 4, rfl, by decide, by decide, b8.g.up, b8.s, fun v9 H9 hv9 e9 s9 f9 => ?_⟩
        have b9 := b8.draw s9 f9
        generalize ext G8 H8 H9 = G9 at b9
        walk_at "s"
        refine ite2 (fun q => ?_) (fun q => ?_)
        · obtain ⟨r, hx⟩ : ∃ r, rows[i]? = some r := ⟨_, List.getElem?_eq_getElem hi⟩
          obtain ⟨ras', ra, r1, r2, r3, _⟩ := rows_at hr hx
          have up : Ex G H9 := b9.g.ex.trans b9.g.up
          have rs := hsz r (List.mem_of_getElem? hx)
          walk_at "s"
          refine go_ixL (sq_of (up _ _ r1)) (atI_nat r2) ?_
          walk_at "s"
          refine go_ixL (sq_of (up _ _ r3)) (show atI _ ((1 : Nat) : Int) = some (.int (r.size : Int)) from rfl) ?_
          walk_at "s"
          refine ⟨by omega, by omega, ?_⟩
          refine for_range (lo := 0) (n := ((r.size : Int)).toNat) (fun j σ H' => H' = H9 ∧ ∃ v7 z, (∀ c ∈ z, c ∈ L) ∧ z.length = j ∧ σ = [some (.ref st), some (.int (t : Int)), some (.ref h), some (.str (SX.S L)), some (.ref p3), some (.str Kd.find.nm), some (.int (i : Int)), v7, some (.ref lq), some (.str (SX.S z)), none, none]) ⟨rfl, none, [], (fun c hc => by cases hc), rfl, by rw [← empty_eq]; rfl⟩ ?_ ?_
          · rintro j σ H' hj ⟨rfl, v7, z, hz, hzl, rfl⟩
            have hzl2 : (SX.S z).length ≤ 17 := by rw [SX.S_len]; omega
            walk_at "s"
            refine .inl ⟨_, rfl, ?_⟩
            walk_at "s"
            refine ⟨_, _, rfl, ⟨sz_of (by rw [SX.S_len]; omega), rfl⟩, ?_⟩
            rw [SX.S_len]
            refine go_rI (by show (L.length : Int) ≠ 0; omega) ?_
            rw [show ((0 : Int) + (j : Nat) + (t : Int)).fmod (L.length : Int) = (((j + t) % L.length : Nat) : Int) by rw [Int.fmod_eq_emod_of_nonneg _ (by omega), Int.zero_add]; rfl]
            have hlt : (j + t) % L.length < L.length := Nat.mod_lt _ (by omega)
            have hc : L[(j + t) % L.length]? = some (L.getD ((j + t) % L.length) 0) := by simp [List.getD, hlt]
            refine go_ixS (by omega) (atI_nat hc) ?_
            refine ⟨_, _, rfl, rfl, sz_of (by rw [SX.S_len [_]]; exact (show _ + 1 ≤ 100000 by omega)), ?_⟩
            rw [SX.S_cat]
            refine ⟨rfl, _, z ++ [L.getD ((j + t) % L.length) 0], fun c hc' => ?_, by rw [List.length_append, hzl]; rfl, rfl⟩
            rcases List.mem_append.mp hc' with h | h
            · exact hz c h
            · rw [List.mem_singleton.mp h]
              exact List.mem_of_getElem? hc
          · rintro σ H' ⟨rfl, v7, z, hz, hzl, rfl⟩
            exact ⟨G9, b9, v7, z, ⟨fun c hc => .inr (hz c hc), by omega⟩, rfl⟩
        · walk_at "s"
          exact ⟨G9, b9, _, z, hz, rfl⟩
      · refine ifF (by cases h : inV (.int num) ((lostN rows).map V.int) with | true => exact absurd h hin | false => rfl) ?_
        walk_at "s"
        exact ⟨G8, b8, _, z, hz, rfl⟩
    · refine iteNo (fun z => kf (by have z := V.str.inj z; cases kd <;> first | rfl | exact absurd z (by decide +kernel))) ?_
      walk_at "s"
      exact ⟨G8, b8, _, z, hz, rfl⟩
  rintro σ H' ⟨G9, b9, v7, z, hz, rfl⟩
  have hx9 : H' h = some (.lst xs) := b9.g.up _ _ (b9.g.ex _ _ hxs)
  walk_at "s"
  refine Evl.q_cut (M := fun σ H' => ∃ G', Bs G H G' H' st ∧ ∃ num : Int, -1 ≤ num ∧ num < 100 ∧ ∃ v10 v11, σ = [some (.ref st), some (.int (t : Int)), some (.ref h), some (.str (SX.S L)), some (.ref p3), some (.str kd.nm), some (.int num), v7, some (.ref lq), some (.str (SX.S z)), v10, v11]) ?_ ?_
  · walk_at "s"
    refine ite2 (fun q => ?_) (fun q => ?_)
    · walk_at "s"
      intro pm npm; generalize hEpm : upd _ pm _ = H10; have eH10 := exN npm hEpm; have hpm := atN hEpm; clear hEpm
      have b10 := b9.ex eH10
      have hpm' : (ext G9 H' H10) pm = some (.lst [.int ((xs.length : Int) + 1), .int 8, .int (xs.length : Int), .int 7, .int 0, .int ((xs.length : Int) - 1), .int 9, .int 5]) := by
        rw [ext_new npm]
        exact hpm
      generalize ext G9 H' H10 = G10 at b10 hpm'
      walk_at "s"
      refine ⟨st, _, rfl, G10, 8, rfl, by decide, by decide, b10.g.up, b10.s, fun v11 H11 hv11 e11 s11 f11 => ?_⟩
      have b11 := b10.draw s11 f11
      have hpm11 := e11 _ _ hpm'
      obtain ⟨m, hm, hm1, hm2⟩ : ∃ m : Int, ([V.int ((xs.length : Int) + 1), .int 8, .int (xs.length : Int), .int 7, .int 0, .int ((xs.length : Int) - 1), .int 9, .int 5] : List V)[v11]? = some (.int m) ∧ -1 ≤ m ∧ m < 100 := by
        match v11, hv11 with
        | 0, _ => exact ⟨_, rfl, by omega, by omega⟩
        | 1, _ => exact ⟨_, rfl, by omega, by omega⟩
        | 2, _ => exact ⟨_, rfl, by omega, by omega⟩
        | 3, _ => exact ⟨_, rfl, by omega, by omega⟩
        | 4, _ => exact ⟨_, rfl, by omega, by omega⟩
        | 5, _ => exact ⟨_, rfl, by omega, by omega⟩
        | 6, _ => exact ⟨_, rfl, by omega, by omega⟩
        | 7, _ => exact ⟨_, rfl, by omega, by omega⟩
      refine go_ixL (sq_of hpm11) (atI_nat hm) ?_
      exact ⟨_, b11, m, hm1, hm2, _, _, rfl⟩
    · walk_at "s"
      exact ⟨G9, b9, num, nu1, nu2, _, _, rfl⟩
  rintro σ H' ⟨G10, b10, num, nu1, nu2, v10, v11, rfl⟩
  walk_at "s"
  intro ra nra; generalize hEra : upd _ ra _ = H11; have eH11 := exN nra hEra; have hra := atN hEra; clear hEra
  have b11 := b10.ex eH11
  refine k ⟨kd, num, z⟩ ra _ H11 ⟨nu1, nu2, fun c hc => ?_, by show z.length ≤ 20; have := hz.2; omega⟩ b11 ?_
  · rcases hz.1 c hc with h | h
    · exact .inl h
    · exact .inr (lo.rng c h)
  · show (ext G10 H' H11) ra = _
    rw [ext_new nra]
    exact hra
/-! W33 -/

/-- the bits of the codes -/
def bitF (cs : List Nat) (k x : Nat) : Bool := decide ((cs.getD k 0 / 2 ^ x) % 2 = 1)
def bl (p : Nat) (f : Nat → Bool) : List V := ((List.range p).filter f).map fun i : Nat => V.int (i : Int)
def tops (p : Nat) : Nat := 2 ^ p - 1
theorem tops_at {p : Nat} (h : 0 < p) (h3 : p ≤ 3) : ([V.int 1, .int 3, .int 7] : List V)[p - 1]? = some (.int (tops p : Int)) ∧ 0 < tops p ∧ tops p ≤ 7 := by
  match p, h, h3 with
  | 1, _, _ => exact ⟨rfl, by decide, by decide⟩
  | 2, _, _ => exact ⟨rfl, by decide, by decide⟩
  | 3, _, _ => exact ⟨rfl, by decide, by decide⟩
theorem code_hit {p c : Nat} (h : 0 < p) (h3 : p ≤ 3) (h1 : 1 ≤ c) (h2 : c ≤ tops p) : ∃ x, x < p ∧ (c / 2 ^ x) % 2 = 1 := by
  match p, h, h3 with
  | 1, _, _ =>
    have h2 : c ≤ 1 := h2
    exact ⟨0, by decide, by omega⟩
  | 2, _, _ =>
    have h2 : c ≤ 3 := h2
    by_cases e : c % 2 = 1
    · exact ⟨0, by decide, by rw [Nat.pow_zero, Nat.div_one]; exact e⟩
    · exact ⟨1, by decide, by omega⟩
  | 3, _, _ =>
    have h2 : c ≤ 7 := h2
    by_cases e : c % 2 = 1
    · exact ⟨0, by decide, by rw [Nat.pow_zero, Nat.div_one]; exact e⟩
    · by_cases e2 : c / 2 % 2 = 1
      · exact ⟨1, by decide, e2⟩
      · exact ⟨2, by decide, by omega⟩
theorem bits_at {c x : Nat} (h : x < 3) : ([V.int (c : Int), .int ((c / 2 : Nat) : Int), .int ((c / 4 : Nat) : Int)] : List V)[x]? = some (.int ((c / 2 ^ x : Nat) : Int)) := by
  match x, h with
  | 0, _ => rw [Nat.pow_zero, Nat.div_one]; rfl
  | 1, _ => rfl
  | 2, _ => rfl
theorem flat1 : ∀ l : List Nat, (l.map fun c => [c]).flatten = l
  | [] => rfl
  | c :: l => by rw [List.map_cons, List.flatten_cons, flat1 l]; rfl
theorem bitF_app {cs : List Nat} {c k : Nat} (h : k < cs.length) : bitF (cs ++ [c]) k = bitF cs k := by
  funext x
  unfold bitF
  rw [show (cs ++ [c]).getD k 0 = cs.getD k 0 by simp [List.getD, List.getElem?_append_left h]]
theorem bitF_last {cs : List Nat} {c : Nat} : bitF (cs ++ [c]) cs.length = fun x => decide ((c / 2 ^ x) % 2 = 1) := by
  funext x
  unfold bitF
  rw [show (cs ++ [c]).getD cs.length 0 = c by simp [List.getD]]
def sp_law_stands (K : Fr) : Sp := fun vs H Q _ => ∃ (st : Addr) (p m : Nat), vs = [.ref st, .int (p : Int), .int (m : Int)] ∧ ∃ G : Hp, 0 < p ∧ p ≤ 3 ∧ m ≤ 4 ∧ Ex G H ∧ StaAt G H st ∧
  ∀ (f : Nat → Nat → Bool) ss G' H', (∀ k, k < m → ∃ x, x < p ∧ f k x = true) → Bs G H G' H' st → (∃ as : List Addr, G' ss = some (.lst (as.map V.ref)) ∧ as.length = m ∧ ∀ (k : Nat) a, as[k]? = some a → G' a = some (.lst (bl p (f k)))) → Q (.ref ss) H'
theorem ok_law_stands (T : Tx w K mg) : FnOk P w K mg base CX0 2 (a_law_stands K) (fdOf K (a_law_stands K)) ["_law_state", "_law_places", "_law_many"] (sp_law_stands K) := by
  refine (T.d_law_stands).ok sc_law_stands (fun vs H Q E h => ?_) (fun cdv A outer s H vs Q E hr h => ?_)
  · obtain ⟨_, _, _, rfl, _⟩ := h
    rfl
  refine ⟨_, PSs.nox (pss_cons (ps_set (i := 3) sc_law_stands.nd rfl (Or.inl rfl) (pe_ix ix_list (pe_lst (pa_cons pe_int (pa_cons pe_int (pa_cons pe_int pa_nil)))) (pe_op op_sub (pv 1) pe_int) (fun _ _ => rfl)))
      (pss_cons (ps_set (i := 4) sc_law_stands.nd rfl (Or.inl rfl) (pe_lst pa_nil))
      (pss_cons (ps_for PassesOwn.never rfl (pi_range1 rfl T.z_range (pa_cons (pv 2) pa_nil)) (pg_name (i := 5) sc_law_stands.nd rfl (Or.inl rfl))
      (pss_cons (ps_set (i := 6) sc_law_stands.nd rfl (Or.inl rfl) (pe_op op_add pe_int (pe_op op_modN (pe_callTy call_int1 (by rfl) T.z_int (by decide +kernel) (pa_cons (pe_op op_add (pe_call (ok_law_draw T) (hr.mono (by decide)) rfl T.g_law_draw T.d_law_draw.kp T.b_law_draw .nil pass0 (pa_cons (pv 0) (pa_cons (pv 3) pa_nil))) (pv 5)) pa_nil)) (pv 3))))
        (pss_cons (ps_set (i := 7) sc_law_stands.nd rfl (Or.inr rfl) (pe_lst (pa_cons (pv 6) (pa_cons (pe_op op_fdivN (pv 6) pe_int) (pa_cons (pe_op op_fdivN (pv 6) pe_int) pa_nil)))))
        (pss_one (ps_expr (pe_bm PySem.F.plainAttrs_list PySem.F.slot_list_append PySem.F.type_list_append mt_append (pv 4) (pa_cons (pe_lc (own := [("_law_x", 8)]) (g := gName 8) rfl sc_law_stands.nd (pi_range1 rfl T.z_range (pa_cons (pv 1) pa_nil)) (blkOk_by (N := N_law_stands) (sc := defScope s_law_stands) (by decide +kernel)) (fun _ _ _ _ _ => pg_name (i := 8) sc_law_stands.nd rfl (Or.inl rfl)) (fun _ _ _ _ _ => pts_one (pt_cmpR op_eq (pe_op op_modN (pe_callTy call_int1 (by rfl) T.z_int (by decide +kernel) (pa_cons (pe_ix (r := rIxL K) ix_list (pv 7) (pv 8) (fun _ _ => rfl)) pa_nil)) pe_int) pe_int (by first | exact nomark _ | rfl))) (fun _ _ _ _ _ => (pv 8))) pa_nil)))))))
      (pss_one (ps_ret (pv 4)))))), ?_⟩
  obtain ⟨st, p, m, rfl, G, hp, hp3, hm, hG, hst, k⟩ := h
  obtain ⟨t1, t2, t3⟩ := tops_at hp hp3
  walk_at "s"
  intro q1 nq1; generalize hEq1 : upd _ q1 _ = H1; have eH1 := exN nq1 hEq1; have hq1 := atN hEq1; clear hEq1
  walk_at "s"
  rw [show (p : Int) - 1 = ((p - 1 : Nat) : Int) by omega]
  refine go_ixL (sq_of hq1) (atI_nat t1) ?_
  have chit : ∀ c, 1 ≤ c → c ≤ tops p → ∃ x, x < p ∧ (c / 2 ^ x) % 2 = 1 := fun c => code_hit hp hp3
  generalize tops p = T0 at t1 t2 t3 chit
  walk_at "s"
  intro sq nsq; generalize hEsq : upd _ sq _ = H2; have eH2 := exN nsq hEsq; have hsq := atN hEsq; clear hEsq
  have nsq' : H sq = none := fresh_back eH1 nsq
  have e2 : Ex H H2 := eH1.trans eH2
  have sst : sq ≠ st := fun z => hst.dom (by rw [← z]; exact nsq')
  walk_at "s"
  refine ⟨by omega, by omega, ?_⟩
  refine for_range (lo := 0) (n := ((m : Nat) : Int).toNat) (fun i σ H' => ∃ (as : List Addr) (cs : List Nat), as.length = i ∧ cs.length = i ∧ (∀ c ∈ cs, 1 ≤ c ∧ c ≤ T0) ∧ Ex G H' ∧ StaAt G H' st ∧ Frm [st] H H' ∧ H' sq = some (.lst (as.map V.ref)) ∧ (∀ (k : Nat) a, as[k]? = some a → H a = none ∧ a ≠ sq ∧ H' a = some (.lst (bl p (bitF cs k)))) ∧
      ∃ v5 v6 v7 v8, σ = [some (.ref st), some (.int (p : Int)), some (.int (m : Int)), some (.int (T0 : Int)), some (.ref sq), v5, v6, v7, v8])
    ⟨[], [], rfl, rfl, (fun c hc => by cases hc), hG.trans e2, hst.up0 e2, Ex.frm e2, hsq, (fun k a h => by cases h), _, _, _, _, rfl⟩ ?_ ?_
  · rintro i σ H' hi ⟨as, cs, al, cl, hcs, hG', hst', f', hsq', has, v5, v6, v7, v8, rfl⟩
    rw [Int.zero_add]
    walk_at "s"
    refine ⟨st, _, rfl, G, T0, rfl, t2, by omega, hG', hst', fun v H3 hv e3 s3 f3 => ?_⟩
    walk_at "s"
    refine .inl ⟨_, rfl, ?_⟩
    walk_at "s"
    refine go_rI (by show (T0 : Int) ≠ 0; omega) ?_
    obtain ⟨c, hc, hc1, hc2⟩ : ∃ c : Nat, (1 : Int) + ((v : Int) + (i : Int)).fmod (T0 : Int) = (c : Int) ∧ 1 ≤ c ∧ c ≤ T0 := by
      refine ⟨1 + (v + i) % T0, ?_, by omega, by have := Nat.mod_lt (v + i) t2; omega⟩
      have e : ((v : Int) + (i : Int)) % (T0 : Int) = (((v + i) % T0 : Nat) : Int) := rfl
      rw [Int.fmod_eq_emod_of_nonneg _ (by omega), e]
      omega
    have hsq3 := f3 _ _ (no1 sst) hsq'
    walk_at "s"
    rw [hc]
    refine go_rI ⟨by decide, by decide⟩ ?_
    walk_at "s"
    refine go_rI ⟨by decide, by decide⟩ ?_
    rw [show ((c : Int)).fdiv 2 = ((c / 2 : Nat) : Int) by rw [Int.fdiv_eq_ediv_of_nonneg _ (by decide)]; rfl, show ((c : Int)).fdiv 4 = ((c / 4 : Nat) : Int) by rw [Int.fdiv_eq_ediv_of_nonneg _ (by decide)]; rfl]
    walk_at "s"
    intro bt nbt; generalize hEbt : upd _ bt _ = H4; have eH4 := exN nbt hEbt; have hbt := atN hEbt; clear hEbt
    have hsq4 := eH4 _ _ hsq3
    walk_at "s"
    refine el_cMR (m := p) (fun x => decide ((c / 2 ^ x) % 2 = 1)) (fun x => .int (x : Int)) ?_ (by omega) (fun _ => rfl) (fun x H5 e5 hx => ?_) (fun x H5 e5 hx _ => ev_var rfl) H4 (Ex.refl H4) _ fun q H5 nq e5 hq => ?_
    · intro H5 e5 Q5 q5
      walk_at "s"
      exact q5 _ (Ex.refl _)
    · intro H6 e6 Q6 q6
      walk_at "s"
      refine go_ixL (sq_of (e6 _ _ (e5 _ _ hbt))) (atI_nat (bits_at (by omega))) ?_
      refine .inl ⟨_, rfl, ?_⟩
      walk_at "s"
      refine go_rI (by decide) ?_
      walk_at "s"
      rw [show (((c / 2 ^ x : Nat) : Int)).fmod 2 = (((c / 2 ^ x) % 2 : Nat) : Int) by rw [Int.fmod_eq_emod_of_nonneg _ (by decide)]; rfl]
      have e : decide (V.int (((c / 2 ^ x) % 2 : Nat) : Int) = V.int 1) = decide ((c / 2 ^ x) % 2 = 1) := by
        by_cases h : (c / 2 ^ x) % 2 = 1
        · rw [decide_eq_true h, h]; rfl
        · rw [decide_eq_false h, decide_eq_false fun z => h (by have z := V.int.inj z; omega)]
      rw [e]
      exact q6 _ (Ex.refl _)
    have e35 : Ex H3 H5 := eH4.trans e5
    refine ⟨sq, _, _, rfl, rfl, e35 _ _ hsq3, by rw [List.length_map]; exact sz_lt (by omega), ?_⟩
    have nq3 : H3 q = none := fresh_back eH4 nq
    have nq' : H q = none := by
      cases z : H q with
      | none => rfl
      | some o =>
        by_cases zz : q = st
        · rw [zz] at nq3
          exact absurd nq3 s3.dom
        · have := (f'.trans f3) q o (no1 zz) z
          rw [nq3] at this
          cases this
    have qsq : q ≠ sq := fun z => by rw [z, hsq3] at nq3; cases nq3
    refine ⟨as ++ [q], cs ++ [c], by rw [List.length_append, al]; rfl, by rw [List.length_append, cl]; rfl, fun d hd => ?_, Ex.mut (e3.trans e35) (fresh_back hG nsq'), ?_, ?_, ?_, fun k a ha => ?_, _, _, _, _, rfl⟩
    · rcases List.mem_append.mp hd with h | h
      · exact hcs d h
      · rw [List.mem_singleton.mp h]
        exact ⟨hc1, hc2⟩
    · have s5 := s3.up0 e35
      obtain ⟨n, cur, idx, cs', cells, hc', h1, h2⟩ := s5
      exact ⟨n, cur, idx, cs', cells, hc', by rw [upd_ne sst.symm]; exact h1, h2⟩
    · exact ((f'.trans f3).trans (Ex.frm e35)).upd (.inr nsq')
    · rw [upd_same, List.map_append]
      rfl
    · rcases Nat.lt_or_ge k as.length with hk | hk
      · rw [List.getElem?_append_left hk] at ha
        obtain ⟨n1, n2, n3⟩ := has k a ha
        have ast : a ≠ st := fun z => hst.dom (by rw [← z]; exact n1)
        refine ⟨n1, n2, ?_⟩
        rw [upd_ne n2, bitF_app (by omega)]
        exact e35 _ _ (f3 _ _ (no1 ast) n3)
      · rw [List.getElem?_append_right hk] at ha
        have hk0 : k - as.length = 0 := by
          rcases Nat.eq_zero_or_pos (k - as.length) with z | z
          · exact z
          · rw [List.getElem?_eq_none (by show 1 ≤ _; omega)] at ha
            cases ha
        rw [hk0] at ha
        cases ha
        refine ⟨nq', qsq, ?_⟩
        rw [upd_ne qsq, show k = cs.length by omega, bitF_last]
        exact hq
  · rintro σ H' ⟨as, cs, al, cl, hcs, hG', hst', f', hsq', has, v5, v6, v7, v8, rfl⟩
    rw [Int.toNat_natCast] at al cl
    have g := hst'.gr hG f'
    walk_at "s"
    refine k (bitF cs) sq (ext G H H') H' (fun k hk => ?_) ⟨g, f', ?_⟩ ⟨as, by rw [ext_new nsq']; exact hsq', al, fun k a ha => by rw [ext_new (has k a ha).1]; exact (has k a ha).2.2⟩
    · have hck : cs[k]? = some (cs.getD k 0) := by simp [List.getD, show k < cs.length by omega]
      obtain ⟨h1, h2⟩ := hcs _ (List.mem_of_getElem? hck)
      obtain ⟨x, hx, hb⟩ := chit _ h1 h2
      exact ⟨x, hx, decide_eq_true hb⟩
    · obtain ⟨n, cur, idx, cs', cells, hc', h1, h2⟩ := hst'
      exact ⟨g.old st hst.dom n, cur, idx, cs', cells, hc', h1, g.ex _ _ h2⟩
def sp_law_words (K : Fr) : Sp := fun vs H Q _ => ∃ (p : Nat) (L : List Nat) (ss : Addr), vs = [.int (p : Int), .str (SX.S L), .ref ss] ∧ ∃ W : Wd, W.Ok ∧ p = W.p ∧ L = W.L ∧ WSets H ss W ∧ RetL (W.words.map fun z => V.str (SX.S z)) H Q
theorem ok_law_words (T : Tx w K mg) : FnOk P w K mg base CX0 1 (a_law_words K) (fdOf K (a_law_words K)) ["_law_places", "_law_letters", "_law_sets"] (sp_law_words K) := by
  refine (T.d_law_words).ok sc_law_words (fun vs H Q E h => ?_) (fun cdv A outer s H vs Q E hr h => ?_)
  · obtain ⟨_, _, _, rfl, _⟩ := h
    rfl
  refine ⟨_, PSs.nox (pss_cons (ps_set (i := 3) sc_law_words.nd rfl (Or.inl rfl) (pe_lst pa_nil))
      (pss_cons (ps_for PassesOwn.never rfl (pi_range1 rfl T.z_range (pa_cons (pv 0) pa_nil)) (pg_name (i := 4) sc_law_words.nd rfl (Or.inr rfl))
      (pss_cons (ps_setLc (i := 5) (own := [("_law_k", 6)]) (g := gName 6) rfl sc_law_words.nd rfl rfl (sw_true rfl rfl rfl (by decide +kernel)) (pi_range1 rfl T.z_range (pa_cons (pe_callB call_len (by rfl) T.z_len (by decide +kernel) (pa_cons (pv 1) pa_nil)) pa_nil)) (blkOk_by (N := N_law_words) (sc := defScope s_law_words) (by decide +kernel)) (fun _ _ _ _ _ => pg_name (i := 6) sc_law_words.nd rfl (Or.inl rfl)) (fun _ _ _ _ _ => pts_one (pt_cmpR (r := rIn K false) op_in_seq (pv 4) (pe_ix (r := rIxL K) ix_list (pv 2) (pv 6) (fun _ _ => rfl)) (by first | exact nomark _ | rfl))) (fun _ _ _ _ _ => (pe_ix ix_str (pv 1) (pv 6) (fun _ _ => rfl))))
        (pss_one (ps_expr (pe_bm PySem.F.plainAttrs_list PySem.F.slot_list_append PySem.F.type_list_append mt_append (pv 3) (pa_cons (pe_bm PySem.F.plainAttrs_str PySem.F.slot_str_join PySem.F.type_str_join mt_join pe_str (pa_cons (pv 5) pa_nil)) pa_nil))))))
      (pss_one (ps_ret (pv 3))))), ?_⟩
  obtain ⟨p, L, ss, rfl, W, O, rfl, rfl, hS, k⟩ := h
  have hp3 := O.le
  have hL := O.len
  walk_at "s"
  intro wl nwl; generalize hEwl : upd _ wl _ = H1; have eH1 := exN nwl hEwl; have hwl := atN hEwl; clear hEwl
  walk_at "s"
  refine ⟨by omega, by omega, ?_⟩
  refine for_range (lo := 0) (n := ((W.p : Int)).toNat) (fun i σ H' => Ex H H' ∧ H' wl = some (.lst (((List.range i).map W.word).map fun z => V.str (SX.S z))) ∧ ∃ v4 v5 v6, σ = [some (.int (W.p : Int)), some (.str (SX.S W.L)), some (.ref ss), some (.ref wl), v4, v5, v6]) ⟨eH1, hwl, _, _, _, rfl⟩ ?_ ?_
  · rintro i σ H' hi ⟨ex, hwl, v4, v5, v6, rfl⟩
    have hi' : i < W.p := by omega
    rw [Int.zero_add]
    walk_at "s"
    refine el_cMR (m := W.L.length) (fun k => W.st (W.L.getD k 0) i) (fun k => .str (SX.S [W.L.getD k 0])) ?_ (by omega) (fun _ => rfl) (fun k H2 e2 hk => ?_) (fun k H2 e2 hk _ => ?_) H' (Ex.refl H') _ fun cq H2 ncq e2 hcq => ?_
    · intro H1 e1 Q1 q1
      walk_at "s"
      refine ⟨_, _, rfl, ⟨by rw [SX.S_len]; exact sz_of (by omega), rfl⟩, ?_⟩
      rw [SX.S_len]
      exact q1 _ (Ex.refl _)
    · intro H3 e3 Q3 q3
      obtain ⟨as, a, s1, s2, s3⟩ := (hS.ex (ex.trans (e2.trans e3))).at_ hk
      walk_at "s"
      refine go_ixL (sq_of s1) (atI_nat s2) ?_
      refine go_inL (sq_of s3) rfl (sl_flat _ _) ?_
      refine ⟨W.st (W.L.getD k 0) i, congrArg V.bl ?_, q3 _ (Ex.refl _)⟩
      show inV _ _ = _
      rw [sl_inN O.pos (hS.per k hk) hi', Wd.S_nat hi']
    · intro H3 e3 Q3 q3
      have hc : W.L[k]? = some (W.L.getD k 0) := by simp [List.getD, hk]
      walk_at "s"
      refine go_ixS (by omega) (atI_nat hc) ?_
      exact q3 _ (Ex.refl _)
    have ew : (((List.range W.L.length).filter fun k => W.st (W.L.getD k 0) i).map fun k => V.str (SX.S [W.L.getD k 0])) = (((W.word i).map fun c => [c]).map SX.S).map V.str := by
      have e := given_list W.L (fun c => W.st c i) (fun c => V.str (SX.S [c]))
      rw [List.map_map, List.map_map]
      exact e
    rw [ew] at hcq
    have wlen : (W.word i).length ≤ 4 := Nat.le_trans Wd.word_len hL.2
    walk_at "s"
    rw [empty_eq]
    refine ⟨SX.S [], cq, ((W.word i).map fun c => [c]).map SX.S, rfl, rfl, .inl (sq_of hcq), ?_, ?_⟩
    · have h1 := sum_les (n := 1) (ys := ((W.word i).map fun c => [c]).map SX.S) fun y hy => by
        obtain ⟨q, hq, rfl⟩ := List.mem_map.mp hy
        obtain ⟨c, _, rfl⟩ := List.mem_map.mp hq
        rw [SX.S_len]
        exact Nat.le_refl _
      rw [List.length_map, List.length_map] at h1
      rw [SX.S_len, List.length_map, List.length_map]
      show _ + _ * 0 ≤ _
      omega
    rw [join0, flat1]
    walk_at "s"
    refine ⟨wl, _, _, rfl, rfl, e2 _ _ hwl, by rw [List.length_map, List.length_map, List.length_range]; exact sz_lt (by omega), ?_⟩
    refine ⟨Ex.mut (ex.trans e2) nwl, ?_, _, _, _, rfl⟩
    rw [upd_same, List.range_succ, List.map_append, List.map_append]
    rfl
  · rintro σ H' ⟨ex, hwl, v4, v5, v6, rfl⟩
    walk_at "s"
    exact k wl H' nwl ex hwl
/-! W34 -/

/-! ### the law's calls of the desk -/
def sp_law_told (K : Fr) : Sp := fun vs H Q _ => ∃ (dk a : Addr), vs = [.ref dk, .ref a] ∧ ∃ (G : Hp) (W : Wd) (A : Acc) (past : List Acc) (s : Stp), W.Ok ∧ DeskAt K G H dk W A past ∧ AccOk W A ∧ past.length ≤ 900 ∧ StpAt G a s ∧ s.Ok ∧
  (A.next W s = none → RetV (.bl false) H Q) ∧ (∀ A', A.next W s = some A' → ∀ G' H', Gr G H G' H' → Frm [dk] H H' → DeskAt K G' H' dk W A' (past ++ [A]) → Q (.bl true) H')
local macro_rules | `(tactic| walk_at "ifs") => `(tactic| repeat ((with_reducible refine iteNo (by with_unfolding_all decide +kernel) ?_); walk_at "s"))
theorem ok_law_told (T : Tx w K mg) : FnOk P w K mg base CX0 9 (a_law_told K) (fdOf K (a_law_told K)) ["_law_desk", "_law_step_here"] (sp_law_told K) := by
  refine (T.d_law_told).ok sc_law_told (fun vs H Q E h => ?_) (fun cdv A outer s H vs Q E hr h => ?_)
  · obtain ⟨_, _, rfl, _⟩ := h
    rfl
  refine ⟨_, PSs.nox (pss_cons (ps_set (i := 2) sc_law_told.nd rfl (Or.inl rfl) (pe_ix ix_list (pv 1) pe_int (fun _ _ => rfl)))
      (pss_cons (ps_set (i := 3) sc_law_told.nd rfl (Or.inl rfl) (pe_ix ix_list (pv 1) pe_int (fun _ _ => rfl)))
      (pss_cons (ps_set (i := 4) sc_law_told.nd rfl (Or.inl rfl) (pe_ix ix_list (pv 1) pe_int (fun _ _ => rfl)))
      (pss_cons (ps_try_only rfl rfl ⟨rfl, by decide, .inl T.g_RollError⟩ takes0 (fun W pn xe tk po =>
      (pss_cons (ps_if (pt_cmpR op_eq (pv 2) pe_str (by first | exact nomark _ | rfl))
        (pss_one (ps_expr (pe_meth (pv 0) T.cl_Desk T.m_Desk_put (ok_Desk_put T) (hr.mono (by decide)) T.b_Desk_put .nil (L2N.passes_call (takes_zn tk) (E := fun cls d H => ∀ σ, W cls d σ H) (fun _ _ σ _ h => h σ)) (pa_cons (pv 4) pa_nil))))
        pss_nil)
        (pss_cons (ps_if (pt_cmpR op_eq (pv 2) pe_str (by first | exact nomark _ | rfl))
        (pss_one (ps_expr (pe_meth (pv 0) T.cl_Desk T.m_Desk_insert (ok_Desk_insert T) (hr.mono (by decide)) T.b_Desk_insert .nil (L2N.passes_call (takes_zn tk) (E := fun cls d H => ∀ σ, W cls d σ H) (fun _ _ σ _ h => h σ)) (pa_cons (pv 3) (pa_cons (pv 4) pa_nil)))))
        pss_nil)
        (pss_cons (ps_if (pt_cmpR op_eq (pv 2) pe_str (by first | exact nomark _ | rfl))
        (pss_one (ps_asg (pv 4) (pg_sub (pv 0) (pv 3) (set_own T.m_Desk_setitem T.nq_Desk (ok_Desk_setitem T) (hr.mono (by decide)) T.b_Desk_setitem (L2N.passes_call (takes_zn tk) (E := fun cls d H => ∀ σ, W cls d σ H) (fun _ _ σ _ h => h σ))))))
        pss_nil)
        (pss_cons (ps_if (pt_cmpR op_eq (pv 2) pe_str (by first | exact nomark _ | rfl))
        (pss_one (ps_expr (pe_meth (pv 0) T.cl_Desk T.m_Desk_take (ok_Desk_take T) (hr.mono (by decide)) T.b_Desk_take .nil (L2N.passes_call (takes_zn tk) (E := fun cls d H => ∀ σ, W cls d σ H) (fun _ _ σ _ h => h σ)) (pa_cons (pv 3) pa_nil))))
        pss_nil)
        (pss_cons (ps_if (pt_cmpR op_eq (pv 2) pe_str (by first | exact nomark _ | rfl))
        (pss_one (ps_expr (pe_meth (pv 0) T.cl_Desk T.m_Desk_lose (ok_Desk_lose T) (hr.mono (by decide)) T.b_Desk_lose .nil (L2N.passes_call (takes_zn tk) (E := fun cls d H => ∀ σ, W cls d σ H) (fun _ _ σ _ h => h σ)) (pa_cons (pv 3) pa_nil))))
        pss_nil)
        (pss_cons (ps_if (pt_cmpR op_eq (pv 2) pe_str (by first | exact nomark _ | rfl))
        (pss_one (ps_expr (pe_meth (pv 0) T.cl_Desk T.m_Desk_find (ok_Desk_find T) (hr.mono (by decide)) T.b_Desk_find .nil (L2N.passes_call (takes_zn tk) (E := fun cls d H => ∀ σ, W cls d σ H) (fun _ _ σ _ h => h σ)) (pa_cons (pv 3) (pa_cons (pv 4) pa_nil)))))
        pss_nil)
        (pss_cons (ps_if (pt_cmpR op_eq (pv 2) pe_str (by first | exact nomark _ | rfl))
        (pss_one (ps_expr (pe_meth0 (pv 0) T.cl_Desk T.m_Desk_mark (ok_Desk_mark T) (hr.mono (by decide)) T.b_Desk_mark .nil (L2N.passes_call (takes_zn tk) (E := fun cls d H => ∀ σ, W cls d σ H) (fun _ _ σ _ h => h σ)))))
        pss_nil)
        (pss_cons (ps_if (pt_cmpR op_eq (pv 2) pe_str (by first | exact nomark _ | rfl))
        (pss_one (ps_expr (pe_meth0 (pv 0) T.cl_Desk T.m_Desk_tear (ok_Desk_tear T) (hr.mono (by decide)) T.b_Desk_tear .nil (L2N.passes_call (takes_zn tk) (E := fun cls d H => ∀ σ, W cls d σ H) (fun _ _ σ _ h => h σ)))))
        pss_nil)
        (pss_one (ps_if (pt_cmpR op_eq (pv 2) pe_str (by first | exact nomark _ | rfl))
        (pss_one (ps_expr (pe_meth (pv 0) T.cl_Desk T.m_Desk_change_bound (ok_Desk_change_bound T) (hr.mono (by decide)) T.b_Desk_change_bound .nil (L2N.passes_call (takes_zn tk) (E := fun cls d H => ∀ σ, W cls d σ H) (fun _ _ σ _ h => h σ)) (pa_cons (pv 3) pa_nil))))
        pss_nil))))))))))) (fun a oe cls d pn hz hf =>
      (pss_one (ps_ret pe_bl))))
      (pss_one (ps_ret pe_bl)))))), ?_⟩
  obtain ⟨dk, a, rfl, G, W, A, past, s, O, ⟨dx, c, st, pt, D⟩, ok, hpl, ha, so, kN, kS⟩ := h
  have hd := D.at_
  have hG := D.ex
  have ha' := hG _ _ ha
  have hl := so.len
  obtain ⟨kd, num, page⟩ := s
  have hl2 : page.length ≤ 100 := Nat.le_trans hl (by decide)
  walk_at "s"
  refine go_ixL (sq_of ha') (show atI _ ((0 : Nat) : Int) = some (V.str kd.nm) from rfl) ?_
  walk_at "s"
  refine go_ixL (sq_of ha') (show atI _ ((1 : Nat) : Int) = some (V.int num) from rfl) ?_
  walk_at "s"
  refine go_ixL (sq_of ha') (show atI _ ((2 : Nat) : Int) = some (V.str (SX.S page)) from rfl) ?_
  walk_at "s"
  have kN' : A.next W ⟨kd, num, page⟩ = none → ∀ H', Ex H H' → Q (.bl false) H' := kN
  cases kd
  · refine iteYes rfl ?_
    walk_at "s"
    refine ⟨_, _, _, rfl, hd, dkNo (by decide +kernel) (by decide +kernel) (by decide +kernel), ?_⟩
    walk_at "s"
    refine ⟨dk, page, rfl, hl2, G, W, A, past, O, ⟨dx, c, st, pt, D⟩, ok, (by omega), fun A1 G1 H1 e g f D1 => ?_, fun e C d H2 hC ex σ => ?_⟩
    · walk_at "s"
      walk_at "ifs"
      exact kS A1 e G1 H1 g f D1
    · refine ⟨true, hC.m, fun _ b nb => ?_, fun z => nomatch z⟩
      walk_at "s"
      exact kN' e H2 ex
  · walk_at "ifs"
    refine iteYes rfl ?_
    walk_at "s"
    refine ⟨_, _, _, rfl, hd, dkNo (by decide +kernel) (by decide +kernel) (by decide +kernel), ?_⟩
    walk_at "s"
    refine ⟨dk, num, page, rfl, hl2, G, W, A, past, O, ⟨dx, c, st, pt, D⟩, ok, (by omega), fun A1 G1 H1 e g f D1 => ?_, fun e C d H2 hC ex σ => ?_⟩
    · walk_at "s"
      walk_at "ifs"
      exact kS A1 e G1 H1 g f D1
    · refine ⟨true, hC.m, fun _ b nb => ?_, fun z => nomatch z⟩
      walk_at "s"
      exact kN' e H2 ex
  · walk_at "ifs"
    refine iteYes rfl ?_
    walk_at "s"
    refine go_setOwn ⟨dk, _, _, rfl, hd, ?_⟩
    refine ⟨dk, num, page, rfl, hl2, G, W, A, past, O, ⟨dx, c, st, pt, D⟩, ok, (by omega), fun A1 G1 H1 e g f D1 => ?_, fun e C d H2 hC ex σ => ?_⟩
    · walk_at "s"
      walk_at "ifs"
      exact kS A1 e G1 H1 g f D1
    · refine ⟨true, hC.m, fun _ b nb => ?_, fun z => nomatch z⟩
      walk_at "s"
      exact kN' e H2 ex
  · walk_at "ifs"
    refine iteYes rfl ?_
    walk_at "s"
    refine ⟨_, _, _, rfl, hd, dkNo (by decide +kernel) (by decide +kernel) (by decide +kernel), ?_⟩
    walk_at "s"
    refine ⟨dk, num, page, rfl, hl2, G, W, A, past, O, ⟨dx, c, st, pt, D⟩, ok, (by omega), fun A1 G1 H1 e g f D1 => ?_, fun e C d H2 hC ex σ => ?_⟩
    · walk_at "s"
      walk_at "ifs"
      exact kS A1 e G1 H1 g f D1
    · refine ⟨true, hC.m, fun _ b nb => ?_, fun z => nomatch z⟩
      walk_at "s"
      exact kN' e H2 ex
  · walk_at "ifs"
    refine iteYes rfl ?_
    walk_at "s"
    refine ⟨_, _, _, rfl, hd, dkNo (by decide +kernel) (by decide +kernel) (by decide +kernel), ?_⟩
    walk_at "s"
    refine ⟨dk, num, rfl, G, W, A, past, ⟨dx, c, st, pt, D⟩, ok, (by omega), fun A1 G1 H1 e g f D1 _ => ?_, fun e C d H2 hC ex σ => ?_⟩
    · walk_at "s"
      walk_at "ifs"
      exact kS A1 e G1 H1 g f D1
    · refine ⟨true, hC.m, fun _ b nb => ?_, fun z => nomatch z⟩
      walk_at "s"
      exact kN' e H2 ex
  · walk_at "ifs"
    refine iteYes rfl ?_
    walk_at "s"
    refine ⟨_, _, _, rfl, hd, dkNo (by decide +kernel) (by decide +kernel) (by decide +kernel), ?_⟩
    walk_at "s"
    refine ⟨dk, num, rfl, G, W, A, past, ⟨dx, c, st, pt, D⟩, ok, (by omega), fun A1 G1 H1 e g f D1 => ?_, fun e C d H2 hC ex σ => ?_⟩
    · walk_at "s"
      walk_at "ifs"
      exact kS A1 e G1 H1 g f D1
    · refine ⟨true, hC.m, fun _ b nb => ?_, fun z => nomatch z⟩
      walk_at "s"
      exact kN' e H2 ex
  · walk_at "ifs"
    refine iteYes rfl ?_
    walk_at "s"
    refine ⟨_, _, _, rfl, hd, dkNo (by decide +kernel) (by decide +kernel) (by decide +kernel), ?_⟩
    walk_at "s"
    refine ⟨dk, num, rfl, G, W, A, past, ⟨dx, c, st, pt, D⟩, ok, (by omega), fun A1 G1 H1 e g f D1 => ?_, fun e C d H2 hC ex σ => ?_⟩
    · walk_at "s"
      walk_at "ifs"
      exact kS A1 e G1 H1 g f D1
    · refine ⟨true, hC.m, fun _ b nb => ?_, fun z => nomatch z⟩
      walk_at "s"
      exact kN' e H2 ex
  · walk_at "ifs"
    refine iteYes rfl ?_
    walk_at "s"
    refine ⟨_, _, _, rfl, hd, dkNo (by decide +kernel) (by decide +kernel) (by decide +kernel), ?_⟩
    walk_at "s"
    refine ⟨dk, rfl, G, W, A, past, O, ⟨dx, c, st, pt, D⟩, ok, (by omega), fun A1 G1 H1 e g f D1 => ?_, fun e C d H2 hC ex σ => ?_⟩
    · walk_at "s"
      walk_at "ifs"
      exact kS A1 e G1 H1 g f D1
    · refine ⟨true, hC.m, fun _ b nb => ?_, fun z => nomatch z⟩
      walk_at "s"
      exact kN' e H2 ex
  · walk_at "ifs"
    refine iteYes rfl ?_
    walk_at "s"
    refine ⟨_, _, _, rfl, hd, dkNo (by decide +kernel) (by decide +kernel) (by decide +kernel), ?_⟩
    walk_at "s"
    refine ⟨dk, rfl, G, W, A, past, ⟨dx, c, st, pt, D⟩, ok, (by omega), fun A1 G1 H1 e g f D1 => ?_, fun e C d H2 hC ex σ => ?_⟩
    · walk_at "s"
      walk_at "ifs"
      exact kS A1 e G1 H1 g f D1
    · refine ⟨true, hC.m, fun _ b nb => ?_, fun z => nomatch z⟩
      walk_at "s"
      exact kN' e H2 ex
/-! W35 -/

/-! ### isinstance of the caught error -/
theorem excC_of {K : Fr} {x : Str} (C : XfC K (He.ga K x)) (h : insB K x = true) : ExcC K (He.ga K x) := by
  obtain ⟨h1, h2, h3, h4⟩ := insB_ok h
  exact ⟨C.ga, C.gg, C.exC, C.hdC, h1, h2, h3, h4⟩
def rIsX (K : Fr) (cls : Value) (d : Option Addr) (a : Addr) : List V → Hp → VK → Prop := fun xs H Q => ∃ (D : Addr) (c : V) (cv : Value) (b : Bool), cls = .ref D ∧ d = none ∧ ExcC K D ∧ xs = [.ref a, c] ∧ ClsV c cv ∧ PySem.W.kitOne K (.ref D) cv = some b ∧ Q (.bl b) H
def rIsXT (K : Fr) (cls : Value) (d : Option Addr) (a : Addr) : List V → Hp → VK → Prop := fun xs H Q => ∃ (D tp : Addr) (cs : List V) (us : List Value) (b : Bool), cls = .ref D ∧ d = none ∧ ExcC K D ∧ xs = [.ref a, .ref tp] ∧ H tp = some (.tup cs) ∧ Paired ClsV cs us ∧ PySem.W.kitAny K (.ref D) us = some b ∧ Q (.bl b) H
section
variable {X : Cx} {a : Addr} {cls : Value} {d : Option Addr} {oe : Obj} {pn : List (Addr × Obj)}
theorem inst_at {h : Heap} {D : Addr} (hz : Zc (.ref D) none oe) (hf : ∃ vs, oe.data = .fields vs) (hget : h.get? a = some oe) : PySem.W.InstAt h a oe D none := by
  obtain ⟨vs, hv⟩ := hf
  obtain ⟨oc, od, oda, osl⟩ := oe
  obtain ⟨h1, h2⟩ := hz
  dsimp only at h1 h2 hv
  subst h1 h2 hv
  exact ⟨hget, rfl, rfl, trivial⟩
theorem call_isX (hz : Zc cls d oe) (hf : ∃ vs, oe.data = .fields vs) : CallR (X.suite a ((a, oe) :: pn)) (.builtin "isinstance") (rIsX X.K cls d a) := by
  intro pins s σ H xs us Q I r h
  obtain ⟨D, c, cv, b, rfl, rfl, C, rfl, k, e, q⟩ := h
  obtain ⟨u1, u2, rfl, r1, r2⟩ := vals2 r
  have e2 := k.eq r2
  subst e2
  cases (show u1 = Value.ref a from r1)
  obtain ⟨hget, _⟩ := I.pin (a, oe) (List.mem_append.mpr (.inl List.mem_cons_self))
  exact PySem.W.kia_one (PySem.W.handS_kitx_exc C.hg C.hk C.hs C.hd C.ha C.hn C.ht C.hm) I.kIn (inst_at hz hf hget) e (fun z => nomatch z) fun tk => ⟨.bl b, H, I.kept (t' := tk) fun _ _ z => z, rfl, q⟩
theorem call_isXT (hz : Zc cls d oe) (hf : ∃ vs, oe.data = .fields vs) : CallR (X.suite a ((a, oe) :: pn)) (.builtin "isinstance") (rIsXT X.K cls d a) := by
  intro pins s σ H xs us Q I r h
  obtain ⟨D, tp, cs, ws, b, rfl, rfl, C, rfl, hT, k, e, q⟩ := h
  obtain ⟨u1, u2, rfl, r1, r2⟩ := vals2 r
  cases (show u1 = Value.ref a from r1)
  cases (show u2 = Value.ref tp from r2)
  obtain ⟨hget, _⟩ := I.pin (a, oe) (List.mem_append.mpr (.inl List.mem_cons_self))
  obtain ⟨_, its, rv, o, h1, h2, n, h3⟩ := (show ObjOk X.prog X.w H s.heap tp (.tup cs) from I.hok tp _ hT)
  have e3 := ClsV.all k rv
  subst e3
  obtain ⟨oc, od, dt, sl⟩ := o
  simp only at h2 h3
  subst h2 h3
  exact PySem.W.kia_tup (PySem.W.handS_kitx_exc C.hg C.hk C.hs C.hd C.ha C.hn C.ht C.hm) I.kIn (inst_at hz hf hget) h1 e (fun z => nomatch z) fun tk => ⟨.bl b, H, I.tok tk, rfl, q⟩
end
theorem go_ms0 {C : Addr} {m : Str} {sp : Sp} {E : L2.St → XK} {ta : TE} {σ : L2.St} {H : Hp} {Q : VK} (h : ta σ H fun x H1 => ∃ a dx fs, x = .ref a ∧ H1 a = some (.ins C dx fs) ∧ fs.lookup m = none ∧ sp [.ref a] H1 Q (E σ)) : tMethS0 C m sp E ta σ H Q := h
def sp_law_undone (K : Fr) : Sp := fun vs H Q _ => ∃ (dk : Addr), vs = [.ref dk] ∧ ∃ (G : Hp) (W : Wd) (A : Acc) (past : List Acc), DeskAt K G H dk W A past ∧ past.length ≤ 1000 ∧
  (past = [] → RetV (.str "nothing") H Q) ∧ (∀ p' A', past = p' ++ [A'] → ∀ G' H', Gr G H G' H' → Frm [dk] H H' → DeskAt K G' H' dk W A' p' → Q (.str "done") H')
theorem ok_law_undone (T : Tx w K mg) : FnOk P w K mg base CX0 2 (a_law_undone K) (fdOf K (a_law_undone K)) ["_law_desk"] (sp_law_undone K) := by
  refine (T.d_law_undone).ok sc_law_undone (fun vs H Q E h => ?_) (fun cdv A outer s H vs Q E hr h => ?_)
  · obtain ⟨_, rfl, _⟩ := h
    rfl
  refine ⟨_, PSs.nox (pss_cons (ps_try_as (i := 2) rfl rfl sc_law_undone.nd rfl rfl ⟨rfl, by decide, .inl T.g_NothingToUndo⟩ takes0 (fun W pn xe tk po =>
      (pss_one (ps_set (i := 1) sc_law_undone.nd rfl (Or.inl rfl) (pe_meth0S (pv 0) T.cl_Desk T.m_Desk_undo (ok_Desk_undo T) (hr.mono (by decide)) T.b_Desk_undo (fun σ => L2N.passAt (takes_zn tk) σ))))) (fun a oe cls d pn hz hf =>
      (pss_cons (ps_if (PW.pt (pw_or (pt_val (pe_callB (call_isXT hz hf) (by rfl) T.z_isinstance (by decide +kernel) (pa_cons (pv 2) (pa_cons (pe_tup (pa_cons (pe_gR T.g_Refused) (pa_cons (pe_gR T.g_PageLost) pa_nil))) pa_nil)))) (pw_or1 (pt_not (pt_val (pe_callB (call_isX hz hf) (by rfl) T.z_isinstance (by decide +kernel) (pa_cons (pv 2) (pa_cons (pe_gR T.g_RollError) pa_nil))))))))
        (pss_one (ps_ret pe_str))
        pss_nil)
        (pss_one (ps_ret pe_str)))))
      (pss_cons (ps_if (pt_cmpR op_isN (pv 1) pe_non (by first | exact nomark _ | rfl))
      (pss_one (ps_ret pe_str))
      pss_nil)
      (pss_one (ps_ret pe_str)))), ?_⟩
  obtain ⟨dk, rfl, G, W, A, past, ⟨dx, c, st, pt, D⟩, hpl, kN, kS⟩ := h
  have hd := D.at_
  walk_at "s"
  refine go_ms0 ?_
  walk_at "s"
  refine ⟨_, _, _, rfl, hd, dkNo (by decide +kernel) (by decide +kernel) (by decide +kernel), ?_⟩
  walk_at "s"
  refine ⟨dk, rfl, G, W, A, past, ⟨dx, c, st, pt, D⟩, hpl, fun e => ?_, fun p' A' e G' H' g f D' => ?_⟩
  · refine ⟨true, T.ee_NothingToUndo, fun _ b nb => ?_, fun z => nomatch z⟩
    walk_at "s"
    intro tp ntp; generalize hEtp : upd _ tp _ = H1; have eH1 := exN ntp hEtp; have htp := atN hEtp; clear hEtp
    walk_at "s"
    refine ⟨_, tp, _, _, false, rfl, rfl, excC_of T.xf_NothingToUndo T.ins_NothingToUndo, rfl, htp, .cons (.own _) (.cons (.own _) .nil), T.kit_not, ?_⟩
    walk_at "s"
    refine ⟨_, _, _, true, rfl, rfl, excC_of T.xf_NothingToUndo T.ins_NothingToUndo, rfl, .own _, T.kit_roll, ?_⟩
    walk_at "s"
    exact kN e _ eH1
  · walk_at "s"
    refine ⟨rfl, _, rfl, ?_⟩
    refine iteYes (c := V.non = V.non) rfl ?_
    walk_at "s"
    exact kS p' A' e G' H' g f D'
/-! W36 -/

theorem go_xf {a C dd : Addr} {n : Str} {v : V} {i : Nat} {σ : L2.St} {H : Hp} {Q : VK} (h : σ[i]? = some (some (.ref a))) (hd : H dd = some (.xd [(n, v)])) (q : Q v H) : tXf a (.ref C) (some dd) C n (tVar i) σ H Q := ⟨.ref a, h, rfl, rfl, dd, _, v, rfl, hd, lkY, q⟩
theorem lostI_some {rows : List Pg} {k : Nat} (h : lostAt rows = some k) : lostI rows = (k : Int) := by unfold lostI; rw [h]
theorem lostI_none {rows : List Pg} (h : lostAt rows = none) : lostI rows = -1 := by unfold lostI; rw [h]
def sp_law_cast_told (K : Fr) : Sp := fun vs H Q _ => ∃ (dk : Addr) (n : Int) (hh : Addr), vs = [.ref dk, .int n, .ref hh] ∧ ∃ (G : Hp) (W : Wd) (A : Acc) (past : List Acc) (hs : List Int), W.Ok ∧ DeskAt K G H dk W A past ∧ AccOk W A ∧ n = lostI A.rows ∧ H hh = some (.lst (hs.map V.int)) ∧ (lostAt A.rows = none → hs = W.card A.joined) ∧ RetV (.bl true) H Q
theorem ok_law_cast_told (T : Tx w K mg) : FnOk P w K mg base CX0 8 (a_law_cast_told K) (fdOf K (a_law_cast_told K)) ["_law_desk", "_law_lost", "_law_heights_here"] (sp_law_cast_told K) := by
  refine (T.d_law_cast_told).ok sc_law_cast_told (fun vs H Q E h => ?_) (fun cdv A outer s H vs Q E hr h => ?_)
  · obtain ⟨_, _, _, rfl, _⟩ := h
    rfl
  refine ⟨_, PSs.nox (pss_cons (ps_try_as (i := 4) rfl rfl sc_law_cast_told.nd rfl rfl ⟨rfl, by decide, .inl T.g_PageLost⟩ takes0 (fun W pn xe tk po =>
      (pss_one (ps_set (i := 3) sc_law_cast_told.nd rfl (Or.inl rfl) (pe_meth0S (pv 0) T.cl_Desk T.m_Desk_cast (ok_Desk_cast T) (hr.mono (by decide)) T.b_Desk_cast (fun σ => L2N.passAt (takes_zn tk) σ))))) (fun a oe cls d pn hz hf =>
      (pss_one (ps_ret (pe_and (pe_not (pe_callB (id := "isinstance") (r := rIsi K) call_isi (by rfl) T.z_isinstance (by decide +kernel) (pa_cons (pe_xf T.xf_PageLost T.xn_PageLost hz hf (pv 4)) (pa_cons (pe_bltn (v := .ty "bool") (by rfl) T.z_bool (by decide +kernel) rfl) pa_nil)))) (pe_one (pe_cmpR op_eq (pe_xf T.xf_PageLost T.xn_PageLost hz hf (pv 4)) (pv 1) (by first | exact nomark _ | rfl))))))))
      (pss_cons (ps_if (PW.pt (pw_or (pt_cmpR op_ge (pv 1) pe_int (by first | exact nomark _ | rfl)) (pw_or1 (pt_not (pt_val (pe_callB call_isi (by rfl) T.z_isinstance (by decide +kernel) (pa_cons (pv 3) (pa_cons (pe_gR T.g_Cast) pa_nil))))))))
      (pss_one (ps_ret pe_bl))
      pss_nil)
      (pss_one (ps_ret (pe_and (pe_callB call_isi (by rfl) T.z_isinstance (by decide +kernel) (pa_cons (pe_prop (pv 3) T.cl_Cast T.p_Cast_heights (ok_Cast_heights T) (hr.mono (by decide)) T.b_Cast_heights .nil pass0 rfl) (pa_cons (pe_bltn (v := .ty "list") (by rfl) T.z_list (by decide +kernel) rfl) pa_nil))) (pe_one (pe_cmpR (op_eqD (hu64 hr)) (pe_prop (pv 3) T.cl_Cast T.p_Cast_heights (ok_Cast_heights T) (hr.mono (by decide)) T.b_Cast_heights .nil pass0 rfl) (pv 2) (by first | exact nomark _ | rfl)))))))), ?_⟩
  obtain ⟨dk, n, hh, rfl, G, W, A, past, hs, O, ⟨dx, c, st, pt, D⟩, ok, rfl, hhh, hn, k⟩ := h
  have hd := D.at_
  walk_at "s"
  refine go_ms0 ?_
  walk_at "s"
  refine ⟨_, _, _, rfl, hd, dkNo (by decide +kernel) (by decide +kernel) (by decide +kernel), ?_⟩
  walk_at "s"
  refine ⟨dk, rfl, G, W, A, past, O, ⟨dx, c, st, pt, D⟩, ok, fun e x H' eH hx => ?_, fun i e d H' eH hd => ?_⟩
  · rw [lostI_none e]
    obtain ⟨dx', t, c1, c2⟩ := hx.at_
    obtain ⟨i1, i2, i3, i4⟩ := insB_ok T.ins_Cast
    walk_at "s"
    refine iteNo (by decide) ?_
    walk_at "s"
    refine ⟨_, _, _, _, true, rfl, .own _, .base (.ins c1 T.cl_Cast i1 i2 i3 i4), T.kit_Cast, ?_⟩
    walk_at "s"
    refine ⟨x, _, _, rfl, c1, x, rfl, _, ⟨_, _, c1, c2⟩, fun p H2 np e2 hp => ?_⟩
    walk_at "s"
    refine ⟨_, _, _, _, true, rfl, .ty _, .base (.lst hp), kit_ty (by decide +kernel), ?_⟩
    walk_at "s"
    have c1' := e2 _ _ c1
    have c2' := e2 _ _ c2
    refine ⟨x, _, _, rfl, c1', x, rfl, _, ⟨_, _, c1', c2'⟩, fun p2 H3 np2 e3 hp2 => ?_⟩
    walk_at "s"
    rw [hn e] at hhh
    have fi : ∀ xs : List Int, (xs.map V.int).all flatV = true := fun xs => all_ints _ (fun _ => rfl) xs
    have oi : ∀ xs : List Int, (xs.map V.int).all okV = true := fun xs => all_ints _ (fun _ => rfl) xs
    have ee := eH.trans (e2.trans e3)
    refine go_eqD (sq_of hp2) (sq_of (ee _ _ hhh)) (fi _) (fi _) (oi _) (oi _) ?_
    rw [eqv_ints, decide_eq_true rfl]
    exact k _ ee
  · refine ⟨true, T.ee_PageLost, fun _ b nb => ?_, fun z => nomatch z⟩
    rw [lostI_some e]
    walk_at "s"
    refine go_xf rfl hd ?_
    walk_at "s"
    refine ⟨_, _, _, _, false, rfl, .ty _, .base (.int _), kit_ty (by decide +kernel), ?_⟩
    walk_at "s"
    refine go_xf rfl hd ?_
    walk_at "s"
    show Q (V.bl (decide (V.int (i : Int) = V.int (i : Int)))) H'
    rw [decide_eq_true rfl]
    exact k _ eH
/-! W37 -/

def sp_law_asked (K : Fr) : Sp := fun vs H Q _ => ∃ (dk acc : Addr) (p : Nat) (L : List Nat) (ss : Addr), vs = [.ref dk, .ref acc, .int (p : Int), .str (SX.S L), .ref ss] ∧ ∃ (G : Hp) (W : Wd) (A : Acc) (past : List Acc), W.Ok ∧ p = W.p ∧ L = W.L ∧ DeskAt K G H dk W A past ∧ AccOk W A ∧ AccAt H acc A ∧ WSets H ss W ∧ RetV (.bl true) H Q
theorem ok_law_asked (T : Tx w K mg) : FnOk P w K mg base CX0 9 (a_law_asked K) (fdOf K (a_law_asked K)) ["_law_desk", "_law_account", "_law_places", "_law_letters", "_law_sets"] (sp_law_asked K) := by
  refine (T.d_law_asked).ok sc_law_asked (fun vs H Q E h => ?_) (fun cdv A outer s H vs Q E hr h => ?_)
  · obtain ⟨_, _, _, _, _, rfl, _⟩ := h
    rfl
  refine ⟨_, PSs.nox (pss_cons (ps_set (i := 5) sc_law_asked.nd rfl (Or.inl rfl) (pe_call (ok_law_first_lost T) (hr.mono (by decide)) rfl T.g_law_first_lost T.d_law_first_lost.kp T.b_law_first_lost .nil pass0 (pa_cons (pe_ix ix_list (pv 1) pe_int (fun _ _ => rfl)) pa_nil)))
      (pss_cons (ps_if (pt_cmpR op_ge (pv 5) pe_int (by first | exact nomark _ | rfl))
      (pss_one (ps_ret (pe_call (ok_law_cast_told T) (hr.mono (by decide)) rfl T.g_law_cast_told T.d_law_cast_told.kp T.b_law_cast_told .nil pass0 (pa_cons (pv 0) (pa_cons (pv 5) (pa_cons (pe_lst pa_nil) pa_nil))))))
      pss_nil)
      (pss_one (ps_ret (pe_call (ok_law_cast_told T) (hr.mono (by decide)) rfl T.g_law_cast_told T.d_law_cast_told.kp T.b_law_cast_told .nil pass0 (pa_cons (pv 0) (pa_cons (pv 5) (pa_cons (pe_call (ok_law_cast T) (hr.mono (by decide)) rfl T.g_law_cast T.d_law_cast.kp T.b_law_cast .nil pass0 (pa_cons (pv 1) (pa_cons (pv 2) (pa_cons (pv 3) (pa_cons (pv 4) pa_nil))))) pa_nil)))))))), ?_⟩
  obtain ⟨dk, acc, p, L, ss, rfl, G, W, A, past, O, rfl, rfl, ⟨dx, c, st, pt, D⟩, ok, hA, hS, k⟩ := h
  obtain ⟨h, cd, ha, hr, hcd⟩ := id hA
  walk_at "s"
  refine go_ixL (sq_of ha) (show atI _ ((0 : Nat) : Int) = some (.ref h) from rfl) ?_
  refine ⟨h, rfl, A.rows, by have := ok.len; omega, hr, ?_⟩
  walk_at "s"
  cases e : lostAt A.rows with
  | some i =>
    have ei := lostI_some e
    rw [ei]
    refine iteYes (by omega) ?_
    walk_at "s"
    intro ep nep; generalize hEep : upd _ ep _ = H1; have eH1 := exN nep hEep; have hep := atN hEep; clear hEep
    walk_at "s"
    exact ⟨dk, _, ep, rfl, G, W, A, past, [], O, ⟨dx, c, st, pt, D.grow eH1⟩, ok, ei.symm, hep, (fun z => by rw [e] at z; cases z), fun H2 e2 => k H2 (eH1.trans e2)⟩
  | none =>
    have ei := lostI_none e
    rw [ei]
    refine iteNo (by decide) ?_
    walk_at "s"
    refine ⟨acc, _, _, ss, rfl, W, A, O, rfl, rfl, hA, hS, ok, e, fun q H1 nq e1 hq => ?_⟩
    walk_at "s"
    exact ⟨dk, _, q, rfl, G, W, A, past, _, O, ⟨dx, c, st, pt, D.grow e1⟩, ok, ei.symm, hq, (fun _ => rfl), fun H2 e2 => k H2 (e1.trans e2)⟩
/-! W38 -/

def sp_law_due_text (K : Fr) : Sp := fun vs H Q _ => ∃ (acc ws : Addr), vs = [.ref acc, .ref ws] ∧ ∃ (W : Wd) (A : Acc), W.Ok ∧ AccOk W A ∧ AccAt H acc A ∧ H ws = some (.lst (W.words.map fun z => V.str (SX.S z))) ∧ RetV (.str (A.text W)) H Q
theorem ok_law_due_text (T : Tx w K mg) : FnOk P w K mg base CX0 1 (a_law_due_text K) (fdOf K (a_law_due_text K)) ["_law_account", "_law_words_here"] (sp_law_due_text K) := by
  refine (T.d_law_due_text).ok sc_law_due_text (fun vs H Q E h => ?_) (fun cdv A outer s H vs Q E hr h => ?_)
  · obtain ⟨_, _, rfl, _⟩ := h
    rfl
  refine ⟨_, PSs.nox (pss_cons (ps_setLc (i := 2) (own := [("_law_word", 5)]) (g := gName 5) (tt := tYes) rfl sc_law_due_text.nd rfl rfl (sw_true rfl rfl rfl (by decide +kernel)) (pi_list (pv 1)) (blkOk_by (N := N_law_due_text) (sc := defScope s_law_due_text) (by decide +kernel)) (fun _ _ _ _ _ => pg_name (i := 5) sc_law_due_text.nd rfl (Or.inl rfl)) (fun _ _ _ _ _ => pts_nil) (fun _ _ _ _ _ => (pe_ix (r := rIxL K) ix_list (pe_lst (pa_cons (pv 5) (pa_cons pe_str pa_nil))) (pe_callTy call_int1 (by rfl) T.z_int (by decide +kernel) (pa_cons (pe_cmpR op_eq (pv 5) pe_str (by first | exact nomark _ | rfl)) pa_nil)) (fun _ _ => rfl))))
      (pss_cons (ps_set (i := 3) sc_law_due_text.nd rfl (Or.inl rfl) (pe_lst (pa_cons (pe_op op_add_str pe_str (pe_bm PySem.F.plainAttrs_str PySem.F.slot_str_join PySem.F.type_str_join mt_join pe_str (pa_cons (pv 2) pa_nil))) (pa_cons (pe_op op_add_str pe_str (pe_callTy call_str_int (by rfl) T.z_str (by decide +kernel) (pa_cons (pe_ix ix_list (pv 0) pe_int (fun _ _ => rfl)) pa_nil))) pa_nil))))
      (pss_cons (ps_for PassesOwn.never rfl (pi_list (pe_ix ix_list (pv 0) pe_int (fun _ _ => rfl))) (pg_name (i := 4) sc_law_due_text.nd rfl (Or.inl rfl))
      (pss_one (ps_if (pt_cmpR op_isN (pe_ix ix_list (pv 4) pe_int (fun _ _ => rfl)) pe_non (by first | exact nomark _ | rfl))
        (pss_one (ps_expr (pe_bm PySem.F.plainAttrs_list PySem.F.slot_list_append PySem.F.type_list_append mt_append (pv 3) (pa_cons (pe_op op_add_str pe_str (pe_callTy call_str_int (by rfl) T.z_str (by decide +kernel) (pa_cons (pe_ix ix_list (pv 4) pe_int (fun _ _ => rfl)) pa_nil))) pa_nil))))
        (pss_one (ps_if (pt_cmpR op_eq (pe_ix ix_list (pv 4) pe_int (fun _ _ => rfl)) pe_str (by first | exact nomark _ | rfl))
          (pss_one (ps_expr (pe_bm PySem.F.plainAttrs_list PySem.F.slot_list_append PySem.F.type_list_append mt_append (pv 3) (pa_cons pe_str pa_nil))))
          (pss_one (ps_expr (pe_bm PySem.F.plainAttrs_list PySem.F.slot_list_append PySem.F.type_list_append mt_append (pv 3) (pa_cons (pe_op op_add_str pe_str (pe_ix ix_list (pv 4) pe_int (fun _ _ => rfl))) pa_nil)))))))))
      (pss_cons (ps_if (pt_cmpR op_notN (pe_ix ix_list (pv 0) pe_int (fun _ _ => rfl)) pe_non (by first | exact nomark _ | rfl))
      (pss_one (ps_expr (pe_bm PySem.F.plainAttrs_list PySem.F.slot_list_append PySem.F.type_list_append mt_append (pv 3) (pa_cons (pe_op op_add_str pe_str (pe_bm PySem.F.plainAttrs_str PySem.F.slot_str_join PySem.F.type_str_join mt_join pe_str (pa_cons (pe_lc (own := [("_law_x", 6)]) (g := gName 6) (tt := tYes) rfl sc_law_due_text.nd (pi_list (pe_ix ix_list (pv 0) pe_int (fun _ _ => rfl))) (blkOk_by (N := N_law_due_text) (sc := defScope s_law_due_text) (by decide +kernel)) (fun _ _ _ _ _ => pg_name (i := 6) sc_law_due_text.nd rfl (Or.inl rfl)) (fun _ _ _ _ _ => pts_nil) (fun _ _ _ _ _ => (pe_callTy call_str_int (by rfl) T.z_str (by decide +kernel) (pa_cons (pv 6) pa_nil)))) pa_nil))) pa_nil))))
      pss_nil)
      (pss_one (ps_ret (pe_bm PySem.F.plainAttrs_str PySem.F.slot_str_join PySem.F.type_str_join mt_join pe_str (pa_cons (pv 3) pa_nil)))))))), ?_⟩
  obtain ⟨acc, ws, rfl, W, A, O, ok, ⟨h, cd, ha, hr, hcd⟩, hws, k⟩ := h
  have bl := nm_len A.bound (by have := ok.bnd; omega)
  have wl := wtext_len O
  walk_at "s"
  refine el_cM (fun z => V.str (SX.S z)) (fun _ => true) (fun z => .str (SX.S (shw z))) (ev_var rfl) (sq_of hws) (by rw [Wd.words_len]; have := O.le; omega) (fun _ => rfl) (fun _ _ _ _ => et_yes) (fun z hz H1 e1 _ => ?_) H (Ex.refl H) _ fun q H1 nq e1 hq => ?_
  · intro H1 e1 Q1 q1
    walk_at "s"
    intro lp nlp; generalize hElp : upd _ lp _ = H2; have eH2 := exN nlp hElp; have hlp := atN hElp; clear hElp
    walk_at "s"
    refine .inr ⟨_, rfl, ?_⟩
    walk_at "s"
    rw [empty_eq, isS]
    by_cases hz : z = []
    · refine go_ixL (sq_of hlp) (show atI _ _ = some (V.str (SX.S (shw z))) from ?_) (q1 _ eH2)
      rw [decide_eq_true hz]
      unfold shw
      rw [if_pos hz, ← dash_eq]
      rfl
    · refine go_ixL (sq_of hlp) (show atI _ _ = some (V.str (SX.S (shw z))) from ?_) (q1 _ eH2)
      rw [decide_eq_false hz]
      unfold shw
      rw [if_neg hz]
      rfl
  rw [filter_yes] at hq
  walk_at "s"
  refine ⟨_, q, (W.words.map shw).map SX.S, rfl, rfl, .inl (sq_of (by rw [List.map_map, List.map_map]; exact hq)), text_len O, ?_⟩
  refine ⟨_, _, rfl, rfl, sz_of (by rw [show ("calendar " : Str).length = 9 by decide +kernel]; exact (show 9 + W.text.length ≤ 100000 by omega)), ?_⟩
  have ha1 := e1 _ _ ha
  walk_at "s"
  refine go_ixL (sq_of ha1) (show atI _ ((2 : Nat) : Int) = some (.int (A.bound : Int)) from rfl) ?_
  walk_at "s"
  refine ⟨log_ok (by have := ok.bnd; omega), ?_⟩
  refine ⟨_, _, rfl, rfl, sz_of (by rw [show ("bound " : Str).length = 6 by decide +kernel]; exact (show 6 + (nm (A.bound : Int)).length ≤ 100000 by omega)), ?_⟩
  walk_at "s"
  intro ls nls; generalize hEls : upd _ ls _ = H2; have eH2 := exN nls hEls; have hls := atN hEls; clear hEls
  have e2 : Ex H H2 := e1.trans eH2
  have ha2 := e2 _ _ ha
  walk_at "s"
  refine go_ixL (sq_of ha2) (show atI _ ((0 : Nat) : Int) = some (.ref h) from rfl) ?_
  obtain ⟨ras, hh, hp⟩ := hr
  have hrl := Paired.length hp
  have hh2 := e2 _ _ hh
  refine ⟨_, rfl, ⟨_, sq_of hh2⟩, ?_⟩
  refine for_list (xs := ras.map V.ref) (fun i σ H' => Ex H1 H' ∧ H' ls = some (.lst (([("calendar " : Str) ++ W.text, ("bound " : Str) ++ nm (A.bound : Int)] ++ (A.rows.take i).map rowLine).map V.str)) ∧ ∃ v4, σ = [some (.ref acc), some (.ref ws), some (.ref q), some (.ref ls), v4, none, none])
    ⟨eH2, hls, _, rfl⟩ (fun i σ H' _ p => sq_of ((e1.trans p.1) _ _ hh)) ?_ ?_
  · rintro i x σ H' hi ⟨e3, hls3, v4, rfl⟩
    rw [List.getElem?_map] at hi
    obtain ⟨ra, hra, rfl⟩ := Option.map_eq_some_iff.mp hi
    obtain ⟨r, hr, hrr⟩ := paired_at hp hra
    have hrr3 := (e1.trans e3) _ _ hrr
    have hil := (List.getElem?_eq_some_iff.mp hr).1
    have hsz := ok.size (List.mem_of_getElem? hr)
    have hn8 := ok.len
    have lz : (([("calendar " : Str) ++ W.text, ("bound " : Str) ++ nm (A.bound : Int)] ++ (A.rows.take i).map rowLine).map V.str).length < sizeLine := by
      rw [List.length_map, List.length_append, List.length_map, List.length_take]
      exact sz_lt (show 2 + _ < _ by omega)
    have fin : ∀ v, v = V.str (rowLine r) → Ex H1 (upd H' ls (.lst (([("calendar " : Str) ++ W.text, ("bound " : Str) ++ nm (A.bound : Int)] ++ (A.rows.take i).map rowLine).map V.str ++ [v]))) ∧
        upd H' ls (.lst (([("calendar " : Str) ++ W.text, ("bound " : Str) ++ nm (A.bound : Int)] ++ (A.rows.take i).map rowLine).map V.str ++ [v])) ls = some (.lst (([("calendar " : Str) ++ W.text, ("bound " : Str) ++ nm (A.bound : Int)] ++ (A.rows.take (i + 1)).map rowLine).map V.str)) := fun v hv => by
      refine ⟨Ex.mut e3 nls, ?_⟩
      rw [upd_same, hv, take_snoc hr, List.map_append (l₂ := [r]), ← List.append_assoc, List.map_append (l₂ := List.map rowLine [r])]
      rfl
    walk_at "s"
    refine go_ixL (sq_of hrr3) (show atI _ ((0 : Nat) : Int) = some r.shown from rfl) ?_
    cases r with
    | lo n =>
      refine ⟨rfl, _, rfl, ?_⟩
      refine iteYes (c := V.non = V.non) rfl ?_
      walk_at "s"
      refine go_ixL (sq_of hrr3) (show atI _ ((1 : Nat) : Int) = some (.int (n : Int)) from rfl) ?_
      walk_at "s"
      have hn16 : n ≤ 16 := hsz
      refine ⟨log_ok (show n < 200 by omega), ?_⟩
      have nl2 := nm_len n (by omega)
      refine ⟨_, _, rfl, rfl, sz_of (by rw [show ("lost " : Str).length = 5 by decide +kernel]; exact (show 5 + (nm (n : Int)).length ≤ 100000 by omega)), ?_⟩
      walk_at "s"
      refine ⟨ls, _, _, rfl, rfl, hls3, lz, ?_⟩
      obtain ⟨f1, f2⟩ := fin _ rfl
      exact ⟨f1, f2, _, rfl⟩
    | kn z =>
      refine ⟨rfl, _, rfl, ?_⟩
      refine iteNo (c := V.str (SX.S z) = V.non) (fun q => V.noConfusion q) ?_
      have sh : ∀ z : List Nat, (Pg.kn z).shown = V.str (SX.S z) := fun _ => rfl
      walk_at "s"
      refine go_ixL (sq_of hrr3) (show atI _ ((0 : Nat) : Int) = some (.str (SX.S z)) from rfl) ?_
      walk_at "s"
      rw [empty_eq, isS]
      by_cases hz : z = []
      · refine iteYes hz ?_
        walk_at "s"
        refine ⟨ls, _, _, rfl, rfl, hls3, lz, ?_⟩
        obtain ⟨f1, f2⟩ := fin (.str "page -") (by
          subst hz
          exact congrArg V.str (show ("page -" : Str) = "page " ++ SX.S [45] by decide +kernel))
        exact ⟨f1, f2, _, rfl⟩
      · refine iteNo hz ?_
        walk_at "s"
        refine go_ixL (sq_of hrr3) (show atI _ ((0 : Nat) : Int) = some (.str (SX.S z)) from rfl) ?_
        have zl : (SX.S z).length ≤ 16 := by rw [SX.S_len]; exact hsz
        refine ⟨_, _, rfl, rfl, sz_of (by rw [show ("page " : Str).length = 5 by decide +kernel]; omega), ?_⟩
        walk_at "s"
        refine ⟨ls, _, _, rfl, rfl, hls3, lz, ?_⟩
        obtain ⟨f1, f2⟩ := fin (.str ("page " ++ SX.S z)) (by
          show _ = V.str ("page " ++ SX.S (shw z))
          unfold shw
          rw [if_neg hz])
        exact ⟨f1, f2, _, rfl⟩
  · rintro σ H' ⟨e3, hls3, v4, rfl⟩
    rw [List.length_map, hrl, List.take_length] at hls3
    have e13 := e1.trans e3
    have ha3 := e13 _ _ ha
    walk_at "s"
    refine go_ixL (sq_of ha3) (show atI _ ((1 : Nat) : Int) = some cd from rfl) ?_
    refine ⟨rfl, _, rfl, ?_⟩
    cases hc : A.card with
    | none =>
      rw [hc] at hcd
      have ecd : cd = .non := hcd
      subst ecd
      rw [show (!decide (V.non = V.non)) = false from rfl]
      walk_at "s"
      refine ⟨_, ls, A.lines W, rfl, rfl, .inl (sq_of ?_), text_ok O ok, ?_⟩
      · rw [hls3]
        unfold Acc.lines Acc.cardL
        rw [hc, List.append_nil]
      · exact k H' e13
    | some hs =>
      rw [hc] at hcd
      obtain ⟨cc, rfl, hcc⟩ := hcd
      have L := ok.card hs hc
      have hcc3 := e13 _ _ hcc
      have cl := commas_len L
      rw [show (!decide (V.ref cc = V.non)) = true from rfl]
      walk_at "s"
      refine el_cM (fun x : Int => V.int x) (fun _ => true) (fun x => .str (nm x)) ?_ (sq_of hcc3) (by have := L.1; omega) (fun _ => rfl) (fun _ _ _ _ => et_yes) (fun x hx H4 e4 _ => ?_) H' (Ex.refl H') _ fun q4 H4 nq4 e4 hq4 => ?_
      · intro H4 e4 Q4 q4
        walk_at "s"
        refine go_ixL (sq_of (e4 _ _ ha3)) (show atI _ ((1 : Nat) : Int) = some (.ref cc) from rfl) ?_
        exact q4 _ (Ex.refl _)
      · intro H5 e5 Q5 q5
        walk_at "s"
        obtain ⟨h3, h4⟩ := L.2 x hx
        refine ⟨?_, q5 _ (Ex.refl _)⟩
        have : x.natAbs ≤ 100 := by omega
        exact Nat.lt_of_le_of_lt (Nat.log2_le_self _) (by omega)
      rw [filter_yes] at hq4
      have hls4 := e4 _ _ hls3
      walk_at "s"
      refine ⟨_, q4, hs.map nm, rfl, rfl, .inl (sq_of (by rw [List.map_map]; exact hq4)), low_len L, ?_⟩
      refine ⟨_, _, rfl, rfl, sz_of (by rw [show ("card " : Str).length = 5 by decide +kernel]; exact (show 5 + (commas hs).length ≤ 100000 by omega)), ?_⟩
      walk_at "s"
      refine ⟨ls, _, _, rfl, rfl, hls4, ?_, ?_⟩
      · rw [List.length_map, List.length_append, List.length_map]
        have := ok.len
        exact sz_lt (show 2 + _ < _ by omega)
      generalize hE5 : upd H4 ls _ = H5
      have a5 := atN hE5
      have e5 : Ex H1 H5 := hE5 ▸ Ex.mut (e3.trans e4) nls
      clear hE5
      walk_at "s"
      refine ⟨_, ls, A.lines W, rfl, rfl, .inl (sq_of ?_), text_ok O ok, ?_⟩
      · rw [a5]
        unfold Acc.lines Acc.cardL
        rw [hc, List.map_append (l₂ := [("card " : Str) ++ commas hs])]
        rfl
      · exact k H5 (e1.trans e5)
def sp_law_stands_so (K : Fr) : Sp := fun vs H Q _ => ∃ (dk acc ws : Addr), vs = [.ref dk, .ref acc, .ref ws] ∧ ∃ (G : Hp) (W : Wd) (A : Acc) (past : List Acc), W.Ok ∧ DeskAt K G H dk W A past ∧ AccOk W A ∧ AccAt H acc A ∧ H ws = some (.lst (W.words.map fun z => V.str (SX.S z))) ∧ RetV (.bl true) H Q
theorem ok_law_stands_so (T : Tx w K mg) : FnOk P w K mg base CX0 6 (a_law_stands_so K) (fdOf K (a_law_stands_so K)) ["_law_desk", "_law_account", "_law_words_here"] (sp_law_stands_so K) := by
  refine (T.d_law_stands_so).ok sc_law_stands_so (fun vs H Q E h => ?_) (fun cdv A outer s H vs Q E hr h => ?_)
  · obtain ⟨_, _, _, rfl, _⟩ := h
    rfl
  refine ⟨_, PSs.nox (pss_cons (ps_set (i := 3) sc_law_stands_so.nd rfl (Or.inl rfl) (pe_call (ok_write_desk T) (hr.mono (by decide)) rfl T.g_write_desk T.d_write_desk.kp T.b_write_desk .nil pass0 (pa_cons (pv 0) pa_nil)))
      (pss_one (ps_ret (pe_and (pe_callB call_isi (by rfl) T.z_isinstance (by decide +kernel) (pa_cons (pv 3) (pa_cons (pe_bltn (v := .ty "str") (by rfl) T.z_str (by decide +kernel) rfl) pa_nil))) (pe_one (pe_cmpR op_eq (pv 3) (pe_call (ok_law_due_text T) (hr.mono (by decide)) rfl T.g_law_due_text T.d_law_due_text.kp T.b_law_due_text .nil pass0 (pa_cons (pv 1) (pa_cons (pv 2) pa_nil))) (by first | exact nomark _ | rfl))))))), ?_⟩
  obtain ⟨dk, acc, ws, rfl, G, W, A, past, O, D, ok, hA, hws, k⟩ := h
  walk_at "s"
  refine ⟨dk, rfl, G, W, A, past, O, D, ok, fun H1 e1 => ?_⟩
  walk_at "s"
  refine ⟨_, _, _, _, true, rfl, .ty _, .base (.str _), kit_ty (by decide +kernel), ?_⟩
  walk_at "s"
  refine ⟨acc, ws, rfl, W, A, O, ok, hA.ex e1, e1 _ _ hws, fun H2 e2 => ?_⟩
  walk_at "s"
  show Q (V.bl (decide (V.str (A.text W) = V.str (A.text W)))) H2
  rw [decide_eq_true rfl]
  exact k _ (e1.trans e2)
/-! W39 -/

theorem eqv_strsA : ∀ xs : List Str, PyData.eqvAll ((xs.map V.str).map fl) ((xs.map V.str).map fl) = true
  | [] => by simp [PyData.eqvAll]
  | x :: xs => by simp only [List.map_cons, PyData.eqvAll, fl, PyData.eqv, eqv_strsA xs]; simp
theorem eqv_strs (xs : List Str) : PyData.eqv (.list ((xs.map V.str).map fl)) (.list ((xs.map V.str).map fl)) = true := by
  simp only [PyData.eqv]
  exact eqv_strsA xs
theorem all_strs {f : V → Bool} {xs : List Str} (h : ∀ x ∈ xs, f (.str x) = true) : (xs.map V.str).all f = true := by
  rw [List.all_eq_true]
  intro v hv
  obtain ⟨x, hx, rfl⟩ := List.mem_map.mp hv
  exact h x hx
theorem strOk_S {L : List Nat} (h : ∀ c ∈ L, c < 128) : PyData.strOk (SX.S L) = true := by
  unfold PyData.strOk SX.S
  simp only [List.all_toArray, List.all_eq_true, decide_eq_true_eq]
  intro c hc
  have := h c hc
  omega
theorem joinL_mem {a : List Nat} {c : Nat} : ∀ {ps : List (List Nat)}, c ∈ TL.joinL a ps → c ∈ a ∨ ∃ p ∈ ps, c ∈ p
  | [], h => by cases h
  | [p], h => .inr ⟨p, List.mem_cons_self .., h⟩
  | p :: q :: r, h => by
    have h : c ∈ p ++ (a ++ TL.joinL a (q :: r)) := h
    rcases List.mem_append.mp h with h | h
    · exact .inr ⟨p, List.mem_cons_self .., h⟩
    · rcases List.mem_append.mp h with h | h
      · exact .inl h
      · rcases joinL_mem h with h | ⟨x, hx, h⟩
        · exact .inl h
        · exact .inr ⟨x, List.mem_cons_of_mem _ hx, h⟩
theorem num_lt : ∀ n : Nat, n < 100 → ∀ c ∈ numT (n : Int), c < 128 := by decide +kernel
theorem neg_lt : ∀ c ∈ numT (-1), c < 128 := by decide +kernel
theorem cs_lt (k : Kd) : ∀ c ∈ k.cs, c < 128 := by cases k <;> decide +kernel
theorem Stp.Ok.line_lt {s : Stp} (o : s.Ok) : ∀ c ∈ s.line, c < 128 := fun c h => by
  unfold Stp.line at h
  rcases joinL_mem h with h | ⟨p, hp, h⟩
  · rw [List.mem_singleton.mp h]
    decide
  · unfold Stp.parts Stp.args at hp
    rcases List.mem_cons.mp hp with rfl | hp
    · exact cs_lt _ c h
    · rcases List.mem_append.mp hp with hp | hp
      · split at hp
        · rw [List.mem_singleton.mp hp] at h
          rcases Int.lt_or_le s.num 0 with q | q
          · rw [show s.num = -1 by have := o.lo; omega] at h
            exact neg_lt c h
          · obtain ⟨n, hn⟩ := Int.eq_ofNat_of_zero_le q
            rw [hn] at h
            have := o.hi
            exact num_lt n (by omega) c h
        · cases hp
      · split at hp
        · rw [List.mem_singleton.mp hp] at h
          unfold Dk.shw at h
          split at h
          · rw [List.mem_singleton.mp h]
            decide
          · have := o.pg c h
            omega
        · cases hp
theorem DeskAt.grow2 {K : Fr} {G H H' : Hp} {dk : Addr} {W : Wd} {A : Acc} {past : List Acc} (D : DeskAt K G H dk W A past) (e : Ex H H') : DeskAt K (ext G H H') H' dk W A past := by
  obtain ⟨dx, c, st, pt, D⟩ := D
  have g := Gr.pure D.ex e
  exact ⟨dx, c, st, pt, D.keep g ((e _ _ D.at_).trans D.at_.symm)⟩
def sp_law_entered (K : Fr) : Sp := fun vs H Q _ => ∃ (dk a : Addr), vs = [.ref dk, .ref a] ∧ ∃ (ss : List Stp) (G : Hp) (W : Wd) (A : Acc) (past : List Acc), (∀ s ∈ ss, s.Ok) ∧ ss.length ≤ 20 ∧ W.Ok ∧ DeskAt K G H dk W A past ∧ AccOk W A ∧ past.length ≤ 900 ∧ G a = some (.lst (ss.map fun s => V.str (SX.S s.line))) ∧
  (∀ A', Acc.go W ss A = some A' → ∀ p G' H', Gr G H G' H' → Frm [dk] H H' → DeskAt K G' H' dk W A' (past ++ [A]) → H' p = some (.lst [.str "done", .int ss.length]) → G' p = some (.lst [.str "done", .int ss.length]) → Q (.ref p) H') ∧
  (∀ (k : Nat) Ak s, Acc.go W (ss.take k) A = some Ak → ss[k]? = some s → Ak.next W s = none → ∀ p G' H', Gr G H G' H' → Frm [dk] H H' → DeskAt K G' H' dk W A past → H' p = some (.lst [.str "refused", .int k]) → G' p = some (.lst [.str "refused", .int k]) → Q (.ref p) H')
theorem ok_law_entered (T : Tx w K mg) : FnOk P w K mg base CX0 11 (a_law_entered K) (fdOf K (a_law_entered K)) ["_law_desk", "_law_lines"] (sp_law_entered K) := by
  refine (T.d_law_entered).ok sc_law_entered (fun vs H Q E h => ?_) (fun cdv A outer s H vs Q E hr h => ?_)
  · obtain ⟨_, _, rfl, _⟩ := h
    rfl
  refine ⟨_, PSs.nox (pss_cons (ps_set (i := 2) sc_law_entered.nd rfl (Or.inl rfl) (pe_callTy call_list_of (by rfl) T.z_list (by decide +kernel) (pa_cons (pv 1) pa_nil)))
      (pss_cons (ps_try_as (i := 4) rfl rfl sc_law_entered.nd rfl rfl ⟨rfl, by decide, .inl T.g_Refused⟩ takes0 (fun W pn xe tk po =>
      (pss_one (ps_set (i := 3) sc_law_entered.nd rfl (Or.inl rfl) (pe_callS (ok_enter T) (hr.mono (by decide)) rfl T.g_enter T.d_enter.kp T.b_enter (fun σ => L2.passAt tk σ) (pa_cons (pv 0) (pa_cons (pv 2) pa_nil)))))) (fun a oe cls d pn hz hf =>
      (pss_cons (ps_if (PW.pt (pw_or (pt_val (pe_callB (id := "isinstance") (r := rIsi K) call_isi (by rfl) T.z_isinstance (by decide +kernel) (pa_cons (pe_xf T.xf_Refused T.xn_Refused hz hf (pv 4)) (pa_cons (pe_bltn (v := .ty "bool") (by rfl) T.z_bool (by decide +kernel) rfl) pa_nil)))) (pw_or1 (pt_cmpR (r := rNeD K) (op_neD (by exact hr.units)) (pv 2) (pv 1) (by first | exact nomark _ | rfl)))))
        (pss_one (ps_ret (pe_lst (pa_cons pe_str pa_nil))))
        pss_nil)
        (pss_one (ps_ret (pe_lst (pa_cons pe_str (pa_cons (pe_xf T.xf_Refused T.xn_Refused hz hf (pv 4)) pa_nil))))))))
      (pss_cons (ps_if (PW.pt (pw_or (pt_val (pe_callB call_isi (by rfl) T.z_isinstance (by decide +kernel) (pa_cons (pv 3) (pa_cons (pe_bltn (v := .ty "bool") (by rfl) T.z_bool (by decide +kernel) rfl) pa_nil)))) (pw_or1 (pt_cmpR (op_neD (hu64 hr)) (pv 2) (pv 1) (by first | exact nomark _ | rfl)))))
      (pss_one (ps_ret (pe_lst (pa_cons pe_str pa_nil))))
      pss_nil)
      (pss_one (ps_ret (pe_lst (pa_cons pe_str (pa_cons (pv 3) pa_nil)))))))), ?_⟩
  obtain ⟨dk, a, rfl, ss, G, W, A, past, so, hl, O, ⟨dx, c, st, pt, D⟩, ok, hpl, ha, kS, kN⟩ := h
  have hd := D.at_
  have hG := D.ex
  have ha' := hG _ _ ha
  walk_at "s"
  refine ⟨a, _, rfl, .inl (sq_of ha'), ?_⟩
  intro hp nhp; generalize hEhp : upd _ hp _ = H1; have eH1 := exN nhp hEhp; have hhp := atN hEhp; clear hEhp
  have D1 := D.grow eH1
  have el : (ss.map fun s => V.str (SX.S s.line)) = (ss.map fun s => SX.S s.line).map V.str := by rw [List.map_map]; rfl
  have fi : (ss.map fun s => V.str (SX.S s.line)).all flatV = true := by rw [el]; exact all_strs fun _ _ => rfl
  have oi : (ss.map fun s => V.str (SX.S s.line)).all okV = true := by
    rw [el]
    refine all_strs fun x hx => ?_
    obtain ⟨s, hs, rfl⟩ := List.mem_map.mp hx
    exact strOk_S (so s hs).line_lt
  have ev : (!PyData.eqv (.list ((ss.map fun s => V.str (SX.S s.line)).map fl)) (.list ((ss.map fun s => V.str (SX.S s.line)).map fl))) = false := by rw [el, eqv_strs]; rfl
  obtain ⟨g1, hp1⟩ : Gr G H (ext G H H1) H1 ∧ (ext G H H1) hp = some (.lst (ss.map fun s => V.str (SX.S s.line))) := ⟨Gr.pure hG eH1, by rw [ext_new nhp]; exact hhp⟩
  have D2 : DeskIn K (ext G H H1) H1 dk dx c st pt W A past := D.keep g1 (by rw [hd]; exact eH1 _ _ hd)
  have ha2 := g1.ex _ _ ha
  generalize ext G H H1 = G1 at g1 hp1 D2 ha2
  have f1 : Frm [dk] H H1 := Ex.frm eH1
  walk_at "s"
  refine go_callS ?_
  walk_at "s"
  refine ⟨dk, hp, rfl, ss, G1, W, A, past, so, hl, O, ⟨dx, c, st, pt, D2⟩, ok, hpl, sq_of hp1, fun A' eA G' H' g f D' => ?_, fun i Ai s eA hs hn d G' H' g f D' hd' => ?_⟩
  · walk_at "s"
    refine ⟨_, _, _, _, false, rfl, .ty _, .base (.int _), kit_ty (by decide +kernel), ?_⟩
    walk_at "s"
    refine go_neD (sq_of (g.up _ _ (g.ex _ _ hp1))) (sq_of (g.up _ _ (g.ex _ _ ha2))) fi fi oi oi ?_
    rw [ev]
    walk_at "s"
    intro rp nrp; generalize hErp : upd _ rp _ = H2; have eH2 := exN nrp hErp; have hrp := atN hErp; clear hErp
    have g2 := (g1.trans g).trans (Gr.pure g.up eH2)
    exact kS A' eA rp _ H2 g2 ((f1.trans f).trans (Ex.frm eH2)) (D'.grow2 eH2) hrp (by rw [ext_new nrp]; exact hrp)
  · refine ⟨true, T.ee_Refused, fun _ b nb => ?_, fun z => nomatch z⟩
    walk_at "s"
    refine go_xf rfl hd' ?_
    walk_at "s"
    refine ⟨_, _, _, _, false, rfl, .ty _, .base (.int _), kit_ty (by decide +kernel), ?_⟩
    walk_at "s"
    refine go_neD (sq_of (g.up _ _ (g.ex _ _ hp1))) (sq_of (g.up _ _ (g.ex _ _ ha2))) fi fi oi oi ?_
    rw [ev]
    walk_at "s"
    refine go_xf rfl hd' ?_
    walk_at "s"
    intro rp nrp; generalize hErp : upd _ rp _ = H2; have eH2 := exN nrp hErp; have hrp := atN hErp; clear hErp
    have g2 := (g1.trans g).trans (Gr.pure g.up eH2)
    exact kN i Ai s eA hs hn rp _ H2 g2 ((f1.trans f).trans (Ex.frm eH2)) (D'.grow2 eH2) hrp (by rw [ext_new nrp]; exact hrp)
/-! W40 -/

theorem ne_self (x : V) : (!decide (x = x)) = false := by rw [decide_eq_true rfl]; rfl
theorem paired_at' {α β : Type} {R : α → β → Prop} : ∀ {xs : List α} {ys : List β}, Paired R xs ys → ∀ {i : Nat} {y : β}, ys[i]? = some y → ∃ x, xs[i]? = some x ∧ R x y
  | _, _, .nil, i, x, e => by simp at e
  | a :: _, b :: _, .cons h t, 0, y, e => ⟨a, rfl, by
    have e2 : b = y := Option.some.inj e
    rw [← e2]
    exact h⟩
  | a :: _, b :: _, .cons h t, i + 1, y, e => paired_at' t (i := i) e
def AccsAt (G : Hp) (pl : Addr) (past : List Acc) : Prop := ∃ pas : List Addr, G pl = some (.lst (pas.map V.ref)) ∧ Paired (fun a B => AccAt G a B) pas past
def sp_law_all_back (K : Fr) : Sp := fun vs H Q _ => ∃ (dk pl ws : Addr), vs = [.ref dk, .ref pl, .ref ws] ∧ ∃ (G : Hp) (W : Wd) (A : Acc) (past : List Acc), W.Ok ∧ DeskAt K G H dk W A past ∧ past.length ≤ 100 ∧ (∀ B ∈ past, AccOk W B) ∧ AccsAt G pl past ∧ G ws = some (.lst (W.words.map fun z => V.str (SX.S z))) ∧
  ∀ G' H', Gr G H G' H' → Frm [dk] H H' → DeskAt K G' H' dk W ((past ++ [A]).getD 0 A) [] → Q (.bl true) H'
theorem ok_law_all_back (T : Tx w K mg) : FnOk P w K mg base CX0 7 (a_law_all_back K) (fdOf K (a_law_all_back K)) ["_law_desk", "_law_past", "_law_words_here"] (sp_law_all_back K) := by
  refine (T.d_law_all_back).ok sc_law_all_back (fun vs H Q E h => ?_) (fun cdv A outer s H vs Q E hr h => ?_)
  · obtain ⟨_, _, _, rfl, _⟩ := h
    rfl
  refine ⟨_, PSs.nox (pss_cons (ps_for PassesOwn.never rfl (pi_range1 rfl T.z_range (pa_cons (pe_callB call_len (by rfl) T.z_len (by decide +kernel) (pa_cons (pv 1) pa_nil)) pa_nil)) (pg_name (i := 3) sc_law_all_back.nd rfl (Or.inl rfl))
      (pss_cons (ps_if (pt_cmpR op_ne (pe_call (ok_law_undone T) (hr.mono (by decide)) rfl T.g_law_undone T.d_law_undone.kp T.b_law_undone .nil pass0 (pa_cons (pv 0) pa_nil)) pe_str (by first | exact nomark _ | rfl))
        (pss_one (ps_ret pe_bl))
        pss_nil)
        (pss_one (ps_if (pt_not (pt_val (pe_call (ok_law_stands_so T) (hr.mono (by decide)) rfl T.g_law_stands_so T.d_law_stands_so.kp T.b_law_stands_so .nil pass0 (pa_cons (pv 0) (pa_cons (pe_ix ix_list (pv 1) (pe_op op_sub (pe_op op_sub (pe_callB call_len (by rfl) T.z_len (by decide +kernel) (pa_cons (pv 1) pa_nil)) pe_int) (pv 3)) (fun _ _ => rfl)) (pa_cons (pv 2) pa_nil))))))
        (pss_one (ps_ret pe_bl))
        pss_nil))))
      (pss_cons (ps_for PassesOwn.never rfl (pi_range1 rfl T.z_range (pa_cons pe_int pa_nil)) (pg_name (i := 3) sc_law_all_back.nd rfl (Or.inl rfl))
      (pss_one (ps_if (pt_cmpR op_ne (pe_call (ok_law_undone T) (hr.mono (by decide)) rfl T.g_law_undone T.d_law_undone.kp T.b_law_undone .nil pass0 (pa_cons (pv 0) pa_nil)) pe_str (by first | exact nomark _ | rfl))
        (pss_one (ps_ret pe_bl))
        pss_nil)))
      (pss_one (ps_ret pe_bl)))), ?_⟩
  obtain ⟨dk, pl, ws, rfl, G, W, A, past, O, D, hpl, hok, ⟨pas, hpas, hpp⟩, hws, k⟩ := h
  have hlen := Paired.length hpp
  have hG : Ex G H := by obtain ⟨_, _, _, _, D⟩ := D; exact D.ex
  have hpas' := hG _ _ hpas
  walk_at "s"
  refine ⟨by omega, by rw [List.length_map]; omega, ?_⟩
  rw [List.length_map, hlen]
  refine for_range (lo := 0) (n := ((past.length : Nat) : Int).toNat) (fun i σ H' => ∃ G', Gr G H G' H' ∧ Frm [dk] H H' ∧ DeskAt K G' H' dk W ((past ++ [A]).getD (past.length - i) A) (past.take (past.length - i)) ∧ ∃ v, σ = [some (.ref dk), some (.ref pl), some (.ref ws), v])
    ⟨G, Gr.refl hG, Frm.refl _ _, ?_, _, rfl⟩ ?_ ?_
  · rw [Nat.sub_zero, List.take_length]
    have e : (past ++ [A]).getD past.length A = A := by simp [List.getD]
    rw [e]
    exact D
  · rintro i σ H' hi ⟨G', g, f, D', v, rfl⟩
    rw [Int.toNat_natCast] at hi
    obtain ⟨B, hB⟩ : ∃ B, past[past.length - 1 - i]? = some B := ⟨_, List.getElem?_eq_getElem (by omega)⟩
    have et : past.take (past.length - i) = past.take (past.length - (i + 1)) ++ [B] := by
      have h := take_snoc hB
      rw [show past.length - 1 - i + 1 = past.length - i by omega, show past.length - 1 - i = past.length - (i + 1) by omega] at h
      exact h
    have eB : (past ++ [A]).getD (past.length - (i + 1)) A = B := by
      have : (past ++ [A])[past.length - (i + 1)]? = some B := by
        rw [List.getElem?_append_left (by omega), show past.length - (i + 1) = past.length - 1 - i by omega]
        exact hB
      simp [List.getD, this]
    walk_at "s"
    refine ⟨dk, rfl, G', W, _, _, D', by rw [List.length_take]; omega, fun e => ?_, fun p' A' e G2 H2 g2 f2 D2 => ?_⟩
    · rw [et] at e
      exact absurd e (by simp)
    rw [et] at e
    obtain ⟨rfl, e2⟩ := List.append_inj' e rfl
    obtain rfl : B = A' := List.cons.inj e2 |>.1
    walk_at "s"
    refine ifF (ne_self _) ?_
    have hpas2 := g2.up _ _ (g2.ex _ _ (g.ex _ _ hpas))
    have hws2 := g2.up _ _ (g2.ex _ _ (g.ex _ _ hws))
    walk_at "s"
    obtain ⟨pa, hpa, hpB⟩ := paired_at' hpp hB
    have hat : (pas.map V.ref)[past.length - 1 - i]? = some (.ref pa) := by rw [List.getElem?_map, hpa]; rfl
    rw [show (((pas.map V.ref).length : Nat) : Int) - 1 - (0 + (i : Int)) = ((past.length - 1 - i : Nat) : Int) by rw [List.length_map, hlen]; omega]
    refine go_ixL (sq_of hpas2) (atI_nat hat) ?_
    walk_at "s"
    refine ⟨dk, pa, ws, rfl, G2, W, _, _, O, D2, hok _ (List.mem_of_getElem? hB), hpB.ex (g.ex.trans (g2.ex.trans g2.up)), hws2, fun H3 e3 => ?_⟩
    walk_at "s"
    exact ⟨_, (g.trans g2).trans (Gr.pure g2.up e3), (f.trans f2).trans (Ex.frm e3), by rw [eB]; exact D2.grow2 e3, _, rfl⟩
  · rintro σ H' ⟨G', g, f, D', v, rfl⟩
    rw [Int.toNat_natCast, Nat.sub_self, List.take_zero] at D'
    walk_at "s"
    refine ⟨by decide, by decide, ?_⟩
    refine for_range (lo := 0) (n := Int.toNat 2) (fun i σ H2 => ∃ G2, Gr G H G2 H2 ∧ Frm [dk] H H2 ∧ DeskAt K G2 H2 dk W ((past ++ [A]).getD 0 A) [] ∧ ∃ v, σ = [some (.ref dk), some (.ref pl), some (.ref ws), v])
      ⟨G', g, f, D', _, rfl⟩ ?_ ?_
    · rintro i σ H2 hi ⟨G2, g2, f2, D2, v, rfl⟩
      walk_at "s"
      refine ⟨dk, rfl, G2, W, _, _, D2, by decide, fun _ H3 e3 => ?_, fun p' A' e => absurd e (by simp)⟩
      walk_at "s"
      refine ifF (ne_self _) ?_
      walk_at "s"
      exact ⟨_, g2.trans (Gr.pure g2.up e3), f2.trans (Ex.frm e3), D2.grow2 e3, _, rfl⟩
    · rintro σ H2 ⟨G2, g2, f2, D2, v, rfl⟩
      walk_at "s"
      exact k G2 H2 g2 f2 D2
/-! W41 -/

/-! ### the turns -/
theorem Wd.Ok.lok {W : Wd} (O : W.Ok) : LOk W.L := ⟨O.len, O.rng⟩
def WAt (G : Hp) (wd : Addr) (W : Wd) : Prop := ∃ ss, G wd = some (.lst [.int (W.p : Int), .str (SX.S W.L), .ref ss]) ∧ WSets G ss W
/-- how a turn begins -/
structure TurnP (K : Fr) (G H : Hp) (dk acc st wd : Addr) (W : Wd) (A : Acc) (past : List Acc) : Prop where
  O : W.Ok
  D : DeskAt K G H dk W A past
  ok : AccOk W A
  bd : A.rows.length ≤ A.bound
  pl : past.length ≤ 100
  ac : AccAt G acc A
  sta : StaAt G H st
  wd : WAt G wd W
/-- how it ends -/
def TurnQ (K : Fr) (G H : Hp) (dk st : Addr) (W : Wd) (A : Acc) (past : List Acc) (Q : VK) : Prop :=
  (∀ p G' H', Gr G H G' H' → Frm [dk, st] H H' → StaAt G' H' st → DeskAt K G' H' dk W A past → G' p = some (.lst [.bl true, .non]) → Q (.ref p) H') ∧
  (∀ A' a' p G' H', Gr G H G' H' → Frm [dk, st] H H' → StaAt G' H' st → AccOk W A' → A'.rows.length ≤ A'.bound → DeskAt K G' H' dk W A' (past ++ [A]) → AccAt G' a' A' → G' p = some (.lst [.bl true, .ref a']) → Q (.ref p) H')
theorem DeskAt.keep {K : Fr} {G H G' H' : Hp} {dk : Addr} {W : Wd} {A : Acc} {past : List Acc} (D : DeskAt K G H dk W A past) (g : Gr G H G' H') (h : H' dk = H dk) : DeskAt K G' H' dk W A past := by
  obtain ⟨dx, c, st, pt, D⟩ := D
  exact ⟨dx, c, st, pt, D.keep g h⟩
theorem frm_at {S : List Addr} {H H' : Hp} {a : Addr} (f : Frm S H H') (n : a ∉ S) (h : H a ≠ none) : H' a = H a := by
  cases e : H a with
  | none => exact absurd e h
  | some o => exact f a o n e
theorem DeskAt.dom {K : Fr} {G H : Hp} {dk : Addr} {W : Wd} {A : Acc} {past : List Acc} (D : DeskAt K G H dk W A past) : H dk ≠ none := by
  obtain ⟨dx, c, st, pt, D⟩ := D
  rw [D.at_]
  exact fun z => nomatch z
theorem desk_ne_sta {K : Fr} {G G2 H : Hp} {dk st : Addr} {W : Wd} {A : Acc} {past : List Acc} (D : DeskAt K G H dk W A past) (s : StaAt G2 H st) : dk ≠ st := fun e => by
  obtain ⟨dx, c, s1, pt, D⟩ := D
  obtain ⟨_, cur, idx, cs, cells, _, h, _⟩ := s
  have h1 := D.at_
  rw [e, h] at h1
  cases h1
def sp_law_step_turn (K : Fr) : Sp := fun vs H Q _ => ∃ (dk acc st : Addr) (t : Nat) (wd : Addr), vs = [.ref dk, .ref acc, .ref st, .int (t : Int), .ref wd] ∧ ∃ (G : Hp) (W : Wd) (A : Acc) (past : List Acc), t ≤ 40 ∧ TurnP K G H dk acc st wd W A past ∧ TurnQ K G H dk st W A past Q
theorem ok_law_step_turn (T : Tx w K mg) : FnOk P w K mg base CX0 10 (a_law_step_turn K) (fdOf K (a_law_step_turn K)) ["_law_desk", "_law_account", "_law_state", "_law_turn", "_law_world"] (sp_law_step_turn K) := by
  refine (T.d_law_step_turn).ok sc_law_step_turn (fun vs H Q E h => ?_) (fun cdv A outer s H vs Q E hr h => ?_)
  · obtain ⟨_, _, _, _, _, rfl, _⟩ := h
    rfl
  refine ⟨_, PSs.nox (pss_cons (ps_set (i := 5) sc_law_step_turn.nd rfl (Or.inl rfl) (pe_call (ok_law_step T) (hr.mono (by decide)) rfl T.g_law_step T.d_law_step.kp T.b_law_step .nil pass0 (pa_cons (pv 2) (pa_cons (pv 3) (pa_cons (pe_ix ix_list (pv 1) pe_int (fun _ _ => rfl)) (pa_cons (pe_ix ix_list (pv 4) pe_int (fun _ _ => rfl)) pa_nil))))))
      (pss_cons (ps_set (i := 6) sc_law_step_turn.nd rfl (Or.inl rfl) (pe_call (ok_law_next T) (hr.mono (by decide)) rfl T.g_law_next T.d_law_next.kp T.b_law_next .nil pass0 (pa_cons (pv 1) (pa_cons (pv 5) (pa_cons (pe_ix ix_list (pv 4) pe_int (fun _ _ => rfl)) (pa_cons (pe_ix ix_list (pv 4) pe_int (fun _ _ => rfl)) (pa_cons (pe_ix ix_list (pv 4) pe_int (fun _ _ => rfl)) pa_nil)))))))
      (pss_one (ps_ret (pe_lst (pa_cons (pe_cmpR op_eq (pe_call (ok_law_told T) (hr.mono (by decide)) rfl T.g_law_told T.d_law_told.kp T.b_law_told .nil pass0 (pa_cons (pv 0) (pa_cons (pv 5) pa_nil))) (pe_cmpR op_notN (pv 6) pe_non (by first | exact nomark _ | rfl)) (by first | exact nomark _ | rfl)) (pa_cons (pv 6) pa_nil))))))), ?_⟩
  obtain ⟨dk, acc, st, t, wd, rfl, G, W, A, past, ht, P, kN, kS⟩ := h
  obtain ⟨ss, hwd, hW⟩ := P.wd
  obtain ⟨h, cd, ha, hr, hcd⟩ := id P.ac
  have hG : Ex G H := by obtain ⟨_, _, _, _, D⟩ := P.D; exact D.ex
  have hwd' := hG _ _ hwd
  have ha' := hG _ _ ha
  have nds := desk_ne_sta P.D P.sta
  walk_at "s"
  refine go_ixL (sq_of ha') (show atI _ ((0 : Nat) : Int) = some (.ref h) from rfl) ?_
  walk_at "s"
  refine go_ixL (sq_of hwd') (show atI _ ((1 : Nat) : Int) = some (.str (SX.S W.L)) from rfl) ?_
  walk_at "s"
  refine ⟨st, t, h, W.L, rfl, G, A.rows, by omega, P.O.lok, hG, P.sta, hr, P.ok.len, fun r hr => P.ok.size hr, fun s sa G1 H1 so b1 hs1 => ?_⟩
  have D1 := P.D.keep b1.g (frm_at b1.f (no1 nds) P.D.dom)
  have hwd1 := b1.g.up _ _ (b1.g.ex _ _ hwd)
  walk_at "s"
  refine go_ixL (sq_of hwd1) (show atI _ ((0 : Nat) : Int) = some (.int (W.p : Int)) from rfl) ?_
  walk_at "s"
  refine go_ixL (sq_of hwd1) (show atI _ ((1 : Nat) : Int) = some (.str (SX.S W.L)) from rfl) ?_
  walk_at "s"
  refine go_ixL (sq_of hwd1) (show atI _ ((2 : Nat) : Int) = some (.ref ss) from rfl) ?_
  walk_at "s"
  refine ⟨acc, sa, W.p, W.L, ss, rfl, G1, W, A, s, P.O, rfl, rfl, b1.g.up, P.ac.ex b1.g.ex, hs1, so, hW.ex b1.g.ex, P.ok, P.bd, fun eN H2 e2 => ?_, fun A' eA a' G2 H2 g2 e2 hA' => ?_⟩
  · have g2 := Gr.pure b1.g.up e2
    have D2 := D1.grow2 e2
    have hs2 := g2.ex _ _ hs1
    have s2 := b1.s.up b1.g.up e2
    generalize ext G1 H1 H2 = G2 at g2 D2 hs2 s2
    walk_at "s"
    refine ⟨dk, sa, rfl, G2, W, A, past, s, P.O, D2, P.ok, by have := P.pl; omega, hs2, so, fun _ H3 e3 => ?_, fun A' eA => by rw [eN] at eA; cases eA⟩
    walk_at "s"
    refine ⟨rfl, ?_⟩
    rw [ne_self]
    walk_at "s"
    rw [decide_eq_true (show V.bl false = V.bl false from rfl)]
    intro p np; generalize hEp : upd _ p _ = H4; have eH4 := exN np hEp; have hp := atN hEp; clear hEp
    have e34 := e3.trans eH4
    have g3 := Gr.pure g2.up e34
    refine kN p _ H4 ((b1.g.trans g2).trans g3) (((b1.f.trans (Ex.frm e2)).trans (Ex.frm e34)).mono (by simp)) (s2.up g2.up e34) (D2.grow2 e34) ?_
    rw [ext_new (fresh_back e3 np)]
    exact hp
  · have D2 := D1.keep g2 (frm_at (Ex.frm e2 : Frm [] H1 H2) (by simp) D1.dom)
    have hs2 := g2.ex _ _ hs1
    have s2 := b1.s.grow g2 (b1.s.ex_ e2)
    walk_at "s"
    refine ⟨dk, sa, rfl, G2, W, A, past, s, P.O, D2, P.ok, by have := P.pl; omega, hs2, so, fun eN => by (rw [eA] at eN; cases eN), fun A'' eA2 G3 H3 g3 f3 D3 => ?_⟩
    rw [eA] at eA2
    cases eA2
    walk_at "s"
    refine ⟨rfl, ?_⟩
    rw [show (!decide (V.ref a' = V.non)) = true from rfl]
    walk_at "s"
    rw [decide_eq_true (show V.bl true = V.bl true from rfl)]
    intro p np; generalize hEp : upd _ p _ = H4; have eH4 := exN np hEp; have hp := atN hEp; clear hEp
    have s3 := s2.grow g3 (frm_at f3 (no1 nds.symm) s2.dom)
    have g4 := Gr.pure g3.up eH4
    refine kS A' a' p _ H4 (((b1.g.trans g2).trans g3).trans g4) ((((b1.f.mono (by simp)).trans (Ex.frm e2)).trans (f3.mono (by simp))).trans (Ex.frm eH4)) (s3.up g3.up eH4) (P.ok.next P.O eA) (next_bnd P.bd eA) (D3.grow2 eH4) (hA'.ex (g3.ex.trans g4.ex)) ?_
    rw [ext_new np]
    exact hp
/-! W42 -/

theorem Gr.keep {G H H' : Hp} (e : Ex G H') (d : ∀ a, H a ≠ none → H' a ≠ none) : Gr G H G H' := ⟨Ex.refl G, e, fun _ _ h => h, d⟩
theorem Gr.ext_ {G H G' H' : Hp} (g : Gr G H G' H') : Ex G' (ext G H H') := fun a o h => by
  by_cases z : H a = none
  · rw [ext_new z]
    exact g.up a o h
  · rw [ext_old z]
    cases q : G a with
    | none => rw [g.old a z q] at h; cases h
    | some o2 =>
      have := g.ex a o2 q
      rw [h] at this
      exact this.symm
theorem ex_upd {G H : Hp} {p : Addr} {o : HO} (e : Ex G H) (n : G p = none) : Ex G (upd H p o) := fun a u h => by
  have na : a ≠ p := fun z => by rw [z, n] at h; cases h
  rw [upd_ne na]
  exact e a u h
theorem dom_upd {H : Hp} {p : Addr} {o : HO} : ∀ a, H a ≠ none → upd H p o a ≠ none := fun a h => by
  by_cases e : a = p
  · rw [e, upd_same]; exact fun z => nomatch z
  · rw [upd_ne e]; exact h
theorem dom_ex {H H' : Hp} (e : Ex H H') : ∀ a, H a ≠ none → H' a ≠ none := fun a h => by
  cases q : H a with
  | none => exact absurd q h
  | some o => rw [e a o q]; exact fun z => nomatch z
/-- the first bad step, or what the steps make -/
def Bad (W : Wd) (A : Acc) (ss : List Stp) (B : Acc) (b : Int) : Prop := (b = -1 ∧ Acc.go W ss A = some B) ∨ ∃ (k : Nat) (Ak : Acc) (s : Stp), b = (k : Int) ∧ Acc.go W (ss.take k) A = some Ak ∧ ss[k]? = some s ∧ Ak.next W s = none
theorem Bad.more {W : Wd} {A B : Acc} {ss : List Stp} {k : Nat} {Ak : Acc} {t s : Stp} (h1 : Acc.go W (ss.take k) A = some Ak) (h2 : ss[k]? = some s) (h3 : Ak.next W s = none) : Bad W A (ss ++ [t]) B (k : Int) := by
  have hk := (List.getElem?_eq_some_iff.mp h2).1
  exact .inr ⟨k, Ak, s, rfl, by rw [List.take_append_of_le_length (by omega)]; exact h1, by rw [List.getElem?_append_left hk]; exact h2, h3⟩
theorem go_apd {W : Wd} {b : List Stp} : ∀ {a : List Stp} {A : Acc}, Acc.go W (a ++ b) A = (Acc.go W a A).bind (Acc.go W b)
  | [], A => rfl
  | t :: a, A => by
    show (A.next W t).bind (Acc.go W (a ++ b)) = ((A.next W t).bind (Acc.go W a)).bind (Acc.go W b)
    cases A.next W t with
    | none => rfl
    | some B => exact go_apd
theorem go_dead {W : Wd} {A Ak : Acc} {ss : List Stp} {k : Nat} {s : Stp} (h1 : Acc.go W (ss.take k) A = some Ak) (h2 : ss[k]? = some s) (h3 : Ak.next W s = none) (m : Nat) (hm : k < m) : Acc.go W (ss.take m) A = none := by
  have e : ss.take m = (ss.take k ++ [s]) ++ (ss.take m).drop (k + 1) := by
    have h := List.take_append_drop (k + 1) (ss.take m)
    rw [List.take_take, Nat.min_eq_left hm, take_snoc h2] at h
    exact h.symm
  rw [e, go_apd, go_snoc, h1]
  show (Ak.next W s).bind _ = none
  rw [h3]
  rfl
theorem ok_pair {x : Str} {n : Int} (h : PyData.strOk x = true) : [V.str x, V.int n].all okV = true := by simp [okV, h]
theorem eqv_pair {x : Str} {n : Int} : PyData.eqv (.list ([V.str x, V.int n].map fl)) (.list ([V.str x, V.int n].map fl)) = true := by
  simp [PyData.eqv, PyData.eqvAll, fl]
def sp_law_enter_turn (K : Fr) : Sp := fun vs H Q _ => ∃ (dk acc st : Addr) (t : Nat) (wd : Addr), vs = [.ref dk, .ref acc, .ref st, .int (t : Int), .ref wd] ∧ ∃ (G : Hp) (W : Wd) (A : Acc) (past : List Acc), t ≤ 40 ∧ TurnP K G H dk acc st wd W A past ∧ TurnQ K G H dk st W A past Q
theorem ok_law_enter_turn (T : Tx w K mg) : FnOk P w K mg base CX0 12 (a_law_enter_turn K) (fdOf K (a_law_enter_turn K)) ["_law_desk", "_law_account", "_law_state", "_law_turn", "_law_world"] (sp_law_enter_turn K) := by
  refine (T.d_law_enter_turn).ok sc_law_enter_turn (fun vs H Q E h => ?_) (fun cdv A outer s H vs Q E hr h => ?_)
  · obtain ⟨_, _, _, _, _, rfl, _⟩ := h
    rfl
  refine ⟨_, PSs.nox (pss_cons (ps_set (i := 5) sc_law_enter_turn.nd rfl (Or.inl rfl) (pe_lst pa_nil))
      (pss_cons (ps_set (i := 6) sc_law_enter_turn.nd rfl (Or.inl rfl) (pv 1))
      (pss_cons (ps_set (i := 7) sc_law_enter_turn.nd rfl (Or.inl rfl) (pe_un un_neg pe_int))
      (pss_cons (ps_for PassesOwn.never rfl (pi_range1 rfl T.z_range (pa_cons (pe_op op_modN (pe_callTy call_int1 (by rfl) T.z_int (by decide +kernel) (pa_cons (pe_op op_add (pe_call (ok_law_draw T) (hr.mono (by decide)) rfl T.g_law_draw T.d_law_draw.kp T.b_law_draw .nil pass0 (pa_cons (pv 2) (pa_cons pe_int pa_nil))) pe_int) pa_nil)) pe_int) pa_nil)) (pg_name (i := 8) sc_law_enter_turn.nd rfl (Or.inl rfl))
      (pss_cons (ps_set (i := 9) sc_law_enter_turn.nd rfl (Or.inl rfl) (pe_call (ok_law_step T) (hr.mono (by decide)) rfl T.g_law_step T.d_law_step.kp T.b_law_step .nil pass0 (pa_cons (pv 2) (pa_cons (pe_op op_add (pv 3) (pv 8)) (pa_cons (pe_ix ix_list (pv 6) pe_int (fun _ _ => rfl)) (pa_cons (pe_ix ix_list (pv 4) pe_int (fun _ _ => rfl)) pa_nil))))))
        (pss_cons (ps_expr (pe_bm PySem.F.plainAttrs_list PySem.F.slot_list_append PySem.F.type_list_append mt_append (pv 5) (pa_cons (pe_call (ok_law_line T) (hr.mono (by decide)) rfl T.g_law_line T.d_law_line.kp T.b_law_line .nil pass0 (pa_cons (pv 9) pa_nil)) pa_nil)))
        (pss_cons (ps_set (i := 10) sc_law_enter_turn.nd rfl (Or.inl rfl) (pe_call (ok_law_next T) (hr.mono (by decide)) rfl T.g_law_next T.d_law_next.kp T.b_law_next .nil pass0 (pa_cons (pv 6) (pa_cons (pv 9) (pa_cons (pe_ix ix_list (pv 4) pe_int (fun _ _ => rfl)) (pa_cons (pe_ix ix_list (pv 4) pe_int (fun _ _ => rfl)) (pa_cons (pe_ix ix_list (pv 4) pe_int (fun _ _ => rfl)) pa_nil)))))))
        (pss_one (ps_if (pt_cmpR op_notN (pv 10) pe_non (by first | exact nomark _ | rfl))
        (pss_one (ps_set (i := 6) sc_law_enter_turn.nd rfl (Or.inl rfl) (pv 10)))
        (pss_one (ps_if (pt_cmpR op_lt (pv 7) pe_int (by first | exact nomark _ | rfl))
          (pss_one (ps_set (i := 7) sc_law_enter_turn.nd rfl (Or.inl rfl) (pv 8)))
          pss_nil))))))))
      (pss_cons (ps_set (i := 11) sc_law_enter_turn.nd rfl (Or.inl rfl) (pe_call (ok_law_entered T) (hr.mono (by decide)) rfl T.g_law_entered T.d_law_entered.kp T.b_law_entered .nil pass0 (pa_cons (pv 0) (pa_cons (pv 5) pa_nil))))
      (pss_cons (ps_if (pt_cmpR op_ge (pv 7) pe_int (by first | exact nomark _ | rfl))
      (pss_one (ps_ret (pe_lst (pa_cons (pe_cmpR (op_eqD (hu64 hr)) (pv 11) (pe_lst (pa_cons pe_str (pa_cons (pv 7) pa_nil))) (by first | exact nomark _ | rfl)) (pa_cons pe_non pa_nil)))))
      pss_nil)
      (pss_one (ps_ret (pe_lst (pa_cons (pe_cmpR (op_eqD (hu64 hr)) (pv 11) (pe_lst (pa_cons pe_str (pa_cons (pe_callB call_len (by rfl) T.z_len (by decide +kernel) (pa_cons (pv 5) pa_nil)) pa_nil))) (by first | exact nomark _ | rfl)) (pa_cons (pv 6) pa_nil))))))))))), ?_⟩
  obtain ⟨dk, acc, st, t, wd, rfl, G, W, A, past, ht, P, kN, kS⟩ := h
  obtain ⟨ss0, hwd, hW⟩ := P.wd
  have hG : Ex G H := by obtain ⟨_, _, _, _, D⟩ := P.D; exact D.ex
  have nds := desk_ne_sta P.D P.sta
  walk_at "s"
  intro ls nls; generalize hEls : upd _ ls _ = H1; have eH1 := exN nls hEls; have hls := atN hEls; clear hEls
  walk_at "s"
  refine ⟨st, _, rfl, G, 4, rfl, by decide, by decide, hG.trans eH1, P.sta.up0 eH1, fun v H2 hv e2 s2 f2 => ?_⟩
  have nst : ls ≠ st := fun z => by
    have := P.sta.dom
    rw [← z] at this
    exact this nls
  have hls2 := f2 _ _ (no1 nst) hls
  walk_at "s"
  refine .inl ⟨_, rfl, ?_⟩
  walk_at "s"
  refine go_rI (by decide) ?_
  rw [show ((v : Int) + 2).fmod 4 = (((v + 2) % 4 : Nat) : Int) by rw [Int.fmod_eq_emod_of_nonneg _ (by decide)]; omega]
  have hm4 : (v + 2) % 4 < 4 := Nat.mod_lt _ (by decide)
  generalize (v + 2) % 4 = m at hm4
  walk_at "s"
  refine ⟨by omega, by omega, ?_⟩
  have f12 : Frm [st] H H2 := (Ex.frm eH1).trans f2
  have d2 : ∀ a, H a ≠ none → H2 a ≠ none := fun a h => by
    by_cases z : a = st
    · rw [z]; exact s2.dom
    · rw [frm_at f12 (no1 z) h]; exact h
  refine for_range (lo := 0) (n := (m : Int).toNat) (fun i σ H' => ∃ (ss : List Stp) (G' : Hp) (B : Acc) (b : Int) (aa : Addr), ss.length = i ∧ (∀ s ∈ ss, s.Ok) ∧ Gr G H G' H' ∧ Frm [st] H H' ∧ G' ls = none ∧ StaAt G' H' st ∧ H' ls = some (.lst (ss.map fun s => V.str (SX.S s.line))) ∧ AccAt G' aa B ∧ AccOk W B ∧ B.rows.length ≤ B.bound ∧ Bad W A ss B b ∧
      ∃ v8 v9 v10, σ = [some (.ref dk), some (.ref acc), some (.ref st), some (.int (t : Int)), some (.ref wd), some (.ref ls), some (.ref aa), some (.int b), v8, v9, v10, none])
    ⟨[], G, A, -1, acc, rfl, (fun s h => nomatch h), ⟨Ex.refl G, e2, fun _ _ h => h, d2⟩, f12, fresh_back hG nls, s2, hls2, P.ac, P.ok, P.bd, .inl ⟨rfl, rfl⟩, _, _, _, rfl⟩ ?_ ?_
  · rintro i σ H' hi ⟨ss, G', B, b, aa, hl, so, g, f, nl, s', hls', ⟨h, cd, ha, hr, hcd⟩, okB, bdB, hb, v8, v9, v10, rfl⟩
    rw [Int.toNat_natCast] at hi
    have ha' := g.up _ _ ha
    have hwd' := g.up _ _ (g.ex _ _ hwd)
    walk_at "s"
    rw [show (t : Int) + (0 + (i : Int)) = ((t + i : Nat) : Int) by omega]
    refine go_ixL (sq_of ha') (show atI _ ((0 : Nat) : Int) = some (.ref h) from rfl) ?_
    walk_at "s"
    refine go_ixL (sq_of hwd') (show atI _ ((1 : Nat) : Int) = some (.str (SX.S W.L)) from rfl) ?_
    walk_at "s"
    refine ⟨st, t + i, h, W.L, rfl, G', B.rows, by omega, P.O.lok, g.up, s', hr, okB.len, fun r hr => okB.size hr, fun s sa G3 H3 so3 b3 hs3 => ?_⟩
    have hls3 := (frm_at b3.f (no1 nst) (by rw [hls']; exact fun z => nomatch z)).trans hls'
    have nl3 := b3.g.old ls (by rw [hls']; exact fun z => nomatch z) nl
    walk_at "s"
    refine ⟨sa, rfl, s, so3, b3.g.up _ _ hs3, fun H4 e4 => ?_⟩
    have hls4 := e4 _ _ hls3
    walk_at "s"
    refine ⟨ls, _, _, rfl, rfl, hls4, by rw [List.length_map]; exact sz_lt (by omega), ?_⟩
    generalize hE5 : upd H4 ls _ = H5
    have a5 := atN hE5
    have x5 : Ex G3 H5 := hE5 ▸ ex_upd (b3.g.up.trans e4) nl3
    have d5 : ∀ a, H3 a ≠ none → H5 a ≠ none := fun a h => hE5 ▸ dom_upd a (dom_ex e4 a h)
    have f5 : Frm [st] H H5 := hE5 ▸ ((f.trans b3.f).trans (Ex.frm e4)).upd (.inr nls)
    have s5 : StaAt G3 H5 st := by
      have s4 := b3.s.up0 e4
      obtain ⟨n, cur, idx, cs, cells, hc, h1, h2⟩ := s4
      exact ⟨n, cur, idx, cs, cells, hc, by rw [← hE5, upd_ne nst.symm]; exact h1, h2⟩
    clear hE5
    have g5 : Gr G H G3 H5 := (g.trans b3.g).trans (Gr.keep x5 d5)
    have hwd5 := x5 _ _ (b3.g.ex _ _ (g.ex _ _ hwd))
    have el : (ss.map fun s => V.str (SX.S s.line)) ++ [V.str (SX.S s.line)] = (ss ++ [s]).map fun s => V.str (SX.S s.line) := by rw [List.map_append]; rfl
    rw [el] at a5
    have so' : ∀ x ∈ ss ++ [s], x.Ok := fun x hx => by
      rcases List.mem_append.mp hx with h | h
      · exact so x h
      · rw [List.mem_singleton.mp h]
        exact so3
    have sl' : (ss ++ [s]).length = i + 1 := by rw [List.length_append, hl]; rfl
    walk_at "s"
    refine go_ixL (sq_of hwd5) (show atI _ ((0 : Nat) : Int) = some (.int (W.p : Int)) from rfl) ?_
    walk_at "s"
    refine go_ixL (sq_of hwd5) (show atI _ ((1 : Nat) : Int) = some (.str (SX.S W.L)) from rfl) ?_
    walk_at "s"
    refine go_ixL (sq_of hwd5) (show atI _ ((2 : Nat) : Int) = some (.ref ss0) from rfl) ?_
    walk_at "s"
    have hW3 := hW.ex (g.trans b3.g).ex
    refine ⟨aa, sa, W.p, W.L, ss0, rfl, G3, W, B, s, P.O, rfl, rfl, x5, ⟨h, cd, b3.g.ex _ _ ha, hr.ex b3.g.ex, hcd.ex b3.g.ex⟩, hs3, so3, hW3, okB, bdB, fun eN H6 e6 => ?_, fun B' eB a' G6 H6 g6 e6 hB' => ?_⟩
    · have g6 : Gr G H G3 H6 := g5.trans (Gr.keep (x5.trans e6) (dom_ex e6))
      have ac6 : AccAt G3 aa B := ⟨h, cd, b3.g.ex _ _ ha, hr.ex b3.g.ex, hcd.ex b3.g.ex⟩
      walk_at "s"
      refine ⟨rfl, _, rfl, ?_⟩
      refine ifF (ne_self _) ?_
      walk_at "s"
      rcases hb with ⟨rfl, eg⟩ | ⟨k, Ak, sk, rfl, k1, k2, k3⟩
      · refine iteYes (by decide) ?_
        walk_at "s"
        exact ⟨ss ++ [s], G3, B, 0 + (i : Int), aa, sl', so', g6, f5.trans (Ex.frm e6), nl3, s5.up0 e6, e6 _ _ a5, ac6, okB, bdB, .inr ⟨i, B, s, by omega, by rw [List.take_append_of_le_length (by omega), List.take_of_length_le (by omega)]; exact eg, by rw [List.getElem?_append_right (by omega), hl, Nat.sub_self]; rfl, eN⟩, _, _, _, rfl⟩
      · refine iteNo (by omega) ?_
        walk_at "s"
        exact ⟨ss ++ [s], G3, B, (k : Int), aa, sl', so', g6, f5.trans (Ex.frm e6), nl3, s5.up0 e6, e6 _ _ a5, ac6, okB, bdB, Bad.more k1 k2 k3, _, _, _, rfl⟩
    · have nl6 := g6.old ls (by rw [a5]; exact fun z => nomatch z) nl3
      walk_at "s"
      refine ⟨rfl, _, rfl, ?_⟩
      refine ifT rfl ?_
      walk_at "s"
      refine ⟨ss ++ [s], G6, B', b, a', sl', so', g5.trans g6, f5.trans (Ex.frm e6), nl6, s5.grow g6 (s5.ex_ e6), e6 _ _ a5, hB', okB.next P.O eB, next_bnd bdB eB, ?_, _, _, _, rfl⟩
      rcases hb with ⟨rfl, eg⟩ | ⟨k, Ak, sk, rfl, k1, k2, k3⟩
      · exact .inl ⟨rfl, by rw [go_snoc, eg]; exact eB⟩
      · exact Bad.more k1 k2 k3
  · rintro σ H' ⟨ss, G', B, b, aa, hl, so, g, f, nl, s', hls', hB, okB, bdB, hb, v8, v9, v10, rfl⟩
    have gE : Gr G H (ext G H H') H' := Gr.of (S := [st]) hG f (fun a m => by rw [List.mem_singleton.mp m]; exact P.sta.1) (fun a m h => g.dom a h)
    have DE := P.D.keep gE (frm_at f (no1 nds) P.D.dom)
    have xE : Ex G' (ext G H H') := g.ext_
    have lE : (ext G H H') ls = some (.lst (ss.map fun s => V.str (SX.S s.line))) := by rw [ext_new nls]; exact hls'
    have sE : StaAt (ext G H H') H' st := by
      obtain ⟨n, cur, idx, cs, cells, hc, h1, h2⟩ := s'
      exact ⟨gE.old st P.sta.dom P.sta.1, cur, idx, cs, cells, hc, h1, xE _ _ h2⟩
    have hBE := hB.ex xE
    generalize ext G H H' = GE at gE DE xE lE sE hBE
    rw [Int.toNat_natCast] at hl
    walk_at "s"
    refine ⟨dk, ls, rfl, ss, GE, W, A, past, so, by omega, P.O, DE, P.ok, by have := P.pl; omega, lE, fun A' eA p G2 H2 g2 f2 D2 hp hp2 => ?_, fun k Ak s eA hk hn p G2 H2 g2 f2 D2 hp hp2 => ?_⟩
    · walk_at "s"
      rcases hb with ⟨rfl, eg⟩ | ⟨k, Ak, sk, rfl, k1, k2, k3⟩
      · rw [eg] at eA
        cases eA
        refine iteNo (by decide) ?_
        have hls2 := g2.up _ _ (g2.ex _ _ lE)
        walk_at "s"
        rw [List.length_map]
        intro q nq; generalize hEq : upd _ q _ = H3; have eH3 := exN nq hEq; have hq := atN hEq; clear hEq
        refine go_eqD (sq_of (eH3 _ _ hp)) (sq_of hq) rfl rfl (ok_pair (by decide +kernel)) (ok_pair (by decide +kernel)) ?_
        rw [eqv_pair]
        walk_at "s"
        intro r nr; generalize hEr : upd _ r _ = H4; have eH4 := exN nr hEr; have hr := atN hEr; clear hEr
        have e24 := eH3.trans eH4
        have s2 := sE.grow g2 (frm_at f2 (no1 nds.symm) sE.dom)
        refine kS B aa r _ H4 ((gE.trans g2).trans (Gr.pure g2.up e24)) (((f.mono (by simp)).trans (f2.mono (by simp))).trans (Ex.frm e24)) (s2.up g2.up e24) okB bdB (D2.grow2 e24) ((hBE.ex g2.ex).ex (Gr.pure g2.up e24).ex) ?_
        rw [ext_new (fresh_back eH3 nr)]
        exact hr
      · have := go_dead k1 k2 k3 ss.length (List.getElem?_eq_some_iff.mp k2).1
        rw [List.take_length, eA] at this
        cases this
    · walk_at "s"
      rcases hb with ⟨rfl, eg⟩ | ⟨k', Ak', sk, rfl, k1, k2, k3⟩
      · have := go_dead eA hk hn ss.length (List.getElem?_eq_some_iff.mp hk).1
        rw [List.take_length, eg] at this
        cases this
      · obtain rfl : k = k' := by
          rcases Nat.lt_trichotomy k k' with q | q | q
          · rw [go_dead eA hk hn k' q] at k1
            cases k1
          · exact q
          · rw [go_dead k1 k2 k3 k q] at eA
            cases eA
        refine iteYes (by omega) ?_
        walk_at "s"
        intro q nq; generalize hEq : upd _ q _ = H3; have eH3 := exN nq hEq; have hq := atN hEq; clear hEq
        refine go_eqD (sq_of (eH3 _ _ hp)) (sq_of hq) rfl rfl (ok_pair (by decide +kernel)) (ok_pair (by decide +kernel)) ?_
        rw [eqv_pair]
        walk_at "s"
        intro r nr; generalize hEr : upd _ r _ = H4; have eH4 := exN nr hEr; have hr := atN hEr; clear hEr
        have e24 := eH3.trans eH4
        have s2 := sE.grow g2 (frm_at f2 (no1 nds.symm) sE.dom)
        refine kN r _ H4 ((gE.trans g2).trans (Gr.pure g2.up e24)) (((f.mono (by simp)).trans (f2.mono (by simp))).trans (Ex.frm e24)) (s2.up g2.up e24) (D2.grow2 e24) ?_
        rw [ext_new (fresh_back eH3 nr)]
        exact hr
/-! W43 -/

theorem b_Desk_dflt (T : Tx w K mg) : ∃ ds, Vals [V.int 8] ds ∧ Binds K (fdOf K (a_Desk_init K)) ["self", "calendar", "bound"] ds :=
  (T.d_Desk_init).binds0 2 (by simp) rfl fun D doc pm an cdv ct us ks hl hk => match us, hl, ks, hk with
    | [_, _], _, [_], _ => ⟨_, _, _, _, _, _, rfl, rfl, rfl⟩
theorem b_Desk_kw (T : Tx w K mg) : ∃ mv : List Value, KBn K (fdOf K (a_Desk_init K)) ["self", "calendar", "bound"] 2 ["bound"] (fun us ws => us ++ (mv ++ ws)) (fun vs zs => vs ++ ([] ++ zs)) :=
  (T.d_Desk_init).kbinds0 2 ["bound"] [] (fun us mv ws => us ++ (mv ++ ws)) (by simp) (fun q hq => nomatch hq) (fun r1 r2 r3 => r1.append (r2.append r3)) fun D doc pm an cdv ct us mv ws hl hm hw => match us, hl, mv, hm, ws, hw with
    | [_, _], _, [], _, [_], _ => rfl
/-! ### the account as data -/
def pgD (r : Pg) : PyData := .list [fl r.shown, .int (r.size : Int)]
def cardD : Option (List Int) → PyData
  | none => .none
  | some hs => .list ((hs.map V.int).map fl)
def accD (A : Acc) : PyData := .list [.list (A.rows.map pgD), cardD A.card, .int (A.bound : Int)]
theorem dpa_of {K : Fr} {H : Hp} {α : Type} {f : α → PyData} {R : Addr → α → Prop} (h : ∀ a x, R a x → Dp K H (.ref a) (f x)) : ∀ {as : List Addr} {xs : List α}, Paired R as xs → DpAll K H (as.map V.ref) (xs.map f)
  | _, _, .nil => .nil
  | _, _, .cons r t => .cons (h _ _ r) (dpa_of h t)
theorem dp_acc {K : Fr} {G H : Hp} {a : Addr} {A : Acc} (e : Ex G H) (h : AccAt G a A) : Dp K H (.ref a) (accD A) := by
  obtain ⟨r, cd, h1, ⟨ras, h2, h3⟩, h4⟩ := h
  refine .lst (sq_of (e _ _ h1)) (.cons (.lst (sq_of (e _ _ h2)) (dpa_of (fun a x hx => ?_) h3)) (.cons ?_ (.cons (.int _) .nil)))
  · exact .lst (sq_of (e _ _ hx)) (.cons (dp_fl (by cases x <;> rfl)) (.cons (.int _) .nil))
  · cases hc : A.card with
    | none =>
      rw [hc] at h4
      have h4 : cd = .non := h4
      rw [h4]
      exact .non
    | some hs =>
      rw [hc] at h4
      obtain ⟨b, rfl, hb⟩ := h4
      exact .lst (sq_of (e _ _ hb)) (dpa_fl (all_ints _ (fun _ => rfl) hs))
theorem depthAll_le {n : Nat} : ∀ {ds : List PyData}, (∀ d ∈ ds, PyData.depth d ≤ n) → PyData.depthAll ds ≤ n
  | [], _ => by simp [PyData.depthAll]
  | d :: ds, h => by
    have h1 := h d (List.mem_cons_self ..)
    have h2 := depthAll_le fun x hx => h x (List.mem_cons_of_mem d hx)
    simp only [PyData.depthAll]
    omega
theorem depth_list {n : Nat} {ds : List PyData} (h : ∀ d ∈ ds, PyData.depth d ≤ n) : PyData.depth (.list ds) ≤ n + 1 := by
  have := depthAll_le h
  simp only [PyData.depth]
  omega
theorem depth_fl (v : V) : PyData.depth (fl v) = 0 := by cases v <;> simp [fl, PyData.depth]
theorem depth_acc (A : Acc) : PyData.depth (accD A) ≤ 3 := by
  refine depth_list fun d hd => ?_
  rcases List.mem_cons.mp hd with rfl | hd
  · refine depth_list fun d hd => ?_
    obtain ⟨r, _, rfl⟩ := List.mem_map.mp hd
    refine depth_list fun d hd => ?_
    rcases List.mem_cons.mp hd with rfl | hd
    · rw [depth_fl]
      exact Nat.le_refl 0
    · rw [List.mem_singleton.mp hd]
      simp [PyData.depth]
  · rcases List.mem_cons.mp hd with rfl | hd
    · cases A.card with
      | none => simp [cardD, PyData.depth]
      | some hs =>
        refine Nat.le_trans (depth_list (n := 0) fun d hd => ?_) (by decide)
        obtain ⟨v, _, rfl⟩ := List.mem_map.mp hd
        rw [depth_fl]
        exact Nat.le_refl 0
    · rw [List.mem_singleton.mp hd]
      simp [PyData.depth]
theorem layAll {ds : List PyData} (h : ∀ d ∈ ds, PyData.canLay0 d = true) : PyData.canLayAll0 ds = true := by
  induction ds with
  | nil => simp [PyData.canLayAll0]
  | cons d ds ih =>
    simp only [PyData.canLayAll0, h d (List.mem_cons_self ..), ih fun x hx => h x (List.mem_cons_of_mem _ hx), Bool.and_self]
theorem lay_list {ds : List PyData} (h : ∀ d ∈ ds, PyData.canLay0 d = true) : PyData.canLay0 (.list ds) = true := by
  simp only [PyData.canLay0]
  exact layAll h
theorem lay_acc {W : Wd} {A : Acc} (O : W.Ok) (ok : AccOk W A) : PyData.canLay0 (accD A) = true := by
  have hi : ∀ i : Int, PyData.canLay0 (.int i) = true := fun i => by simp [PyData.canLay0]
  refine lay_list fun d hd => ?_
  rcases List.mem_cons.mp hd with rfl | hd
  · refine lay_list fun d hd => ?_
    obtain ⟨r, hr, rfl⟩ := List.mem_map.mp hd
    refine lay_list fun d hd => ?_
    rcases List.mem_cons.mp hd with rfl | hd
    · cases r with
      | lo n => simp [Pg.shown, fl, PyData.canLay0]
      | kn z =>
        show PyData.canLay0 (.str (SX.S z)) = true
        simp only [PyData.canLay0]
        exact strOk_S fun c hc => by have := O.rng c (ok.let_ z hr c hc); omega
    · rw [List.mem_singleton.mp hd]
      exact hi _
  · rcases List.mem_cons.mp hd with rfl | hd
    · cases A.card with
      | none => simp [cardD, PyData.canLay0]
      | some hs =>
        refine lay_list fun d hd => ?_
        obtain ⟨v, hv, rfl⟩ := List.mem_map.mp hd
        obtain ⟨i, _, rfl⟩ := List.mem_map.mp hv
        exact hi i
    · rw [List.mem_singleton.mp hd]
      exact hi _
theorem go_eqP {K : Fr} {G H : Hp} {W : Wd} {pl p : Addr} {past : List Acc} {Q : VK} (O : W.Ok) (e : Ex G H) (h : AccsAt G pl past) (ok : ∀ B ∈ past, AccOk W B) (hp : SqL K H p []) (q : Q (.bl past.isEmpty) H) : rEqD K (.ref pl) (.ref p) H Q := by
  obtain ⟨pas, h1, h2⟩ := h
  refine ⟨_, _, .lst (sq_of (e _ _ h1)) (dpa_of (f := accD) (fun a x hx => dp_acc e hx) h2), .lst hp .nil, ?_, ?_, ?_⟩
  · show (PyData.canLay0 _ && decide (PyData.depth _ ≤ 64)) = true
    rw [lay_list fun d hd => by obtain ⟨B, hB, rfl⟩ := List.mem_map.mp hd; exact lay_acc O (ok B hB), Bool.true_and, decide_eq_true_eq]
    exact Nat.le_trans (depth_list (n := 3) fun d hd => by obtain ⟨B, hB, rfl⟩ := List.mem_map.mp hd; exact depth_acc B) (by decide)
  · show (PyData.canLay0 _ && decide (PyData.depth _ ≤ 64)) = true
    simp [PyData.canLay0, PyData.canLayAll0, PyData.depth, PyData.depthAll]
  · rw [eqv_nil]
    cases past <;> exact q
/-! ### the letters -/
def alphas : List (List Nat) := [[97, 98, 99, 100], [98, 104, 113, 122], [97, 99, 120, 121], [108, 109, 110, 111]]
theorem alpha_at : ∀ {i : Nat}, i < 4 → ([V.str "abcd", V.str "bhqz", V.str "acxy", V.str "lmno"] : List V)[i]? = some (.str (SX.S (alphas.getD i [])))
  | 0, _ => congrArg (fun z => some (V.str z)) (show ("abcd" : Str) = SX.S [97, 98, 99, 100] by decide +kernel)
  | 1, _ => congrArg (fun z => some (V.str z)) (show ("bhqz" : Str) = SX.S [98, 104, 113, 122] by decide +kernel)
  | 2, _ => congrArg (fun z => some (V.str z)) (show ("acxy" : Str) = SX.S [97, 99, 120, 121] by decide +kernel)
  | 3, _ => congrArg (fun z => some (V.str z)) (show ("lmno" : Str) = SX.S [108, 109, 110, 111] by decide +kernel)
theorem alpha_cut : ∀ i : Nat, i < 4 → ∀ v : Nat, v < 3 → cutS (SX.S (alphas.getD i [])) none (some (2 + (v : Int))) = SX.S ((alphas.getD i []).take (2 + v)) := by decide +kernel
theorem alpha_ok : ∀ i : Nat, i < 4 → ∀ v : Nat, v < 3 → let L := (alphas.getD i []).take (2 + v); (2 ≤ L.length ∧ L.length ≤ 4) ∧ L.Pairwise (· < ·) ∧ (∀ c ∈ L, 97 ≤ c ∧ c ≤ 122) ∧ ∀ k, k < L.length → L.idxOf (L.getD k 0) = k := by decide +kernel
theorem alpha_len : ∀ i : Nat, i < 4 → (SX.S (alphas.getD i [])).length = 4 := by decide +kernel
def mkW (p : Nat) (L : List Nat) (f : Nat → Nat → Bool) : Wd := ⟨p, L, fun c x => f (L.idxOf c) x⟩
theorem mkW_ok {p : Nat} {L : List Nat} {f : Nat → Nat → Bool} (hp : 0 < p) (hp3 : p ≤ 3) (h1 : 2 ≤ L.length ∧ L.length ≤ 4) (h2 : L.Pairwise (· < ·)) (h3 : ∀ c ∈ L, 97 ≤ c ∧ c ≤ 122) (hf : ∀ k, k < L.length → ∃ x, x < p ∧ f k x = true) : (mkW p L f).Ok :=
  ⟨hp, hp3, h2, h1, h3, fun c hc => hf _ (List.idxOf_lt_length_iff.mpr hc)⟩
theorem mkW_sets {G : Hp} {ss : Addr} {p : Nat} {L : List Nat} {f : Nat → Nat → Bool} (hp : 0 < p) (hi : ∀ k, k < L.length → L.idxOf (L.getD k 0) = k) (h : ∃ as : List Addr, G ss = some (.lst (as.map V.ref)) ∧ as.length = L.length ∧ ∀ (k : Nat) a, as[k]? = some a → G a = some (.lst (bl p (f k)))) : WSets G ss (mkW p L f) := by
  obtain ⟨as, h1, h2, h3⟩ := h
  refine ⟨⟨as, h1, h2, fun k a ha => ?_⟩, fun k hk y => ?_⟩
  · have hk : k < L.length := by rw [← h2]; exact (List.getElem?_eq_some_iff.mp ha).1
    rw [h3 k a ha]
    show some (HO.lst (bl p (f k))) = some (HO.lst (sl p ((mkW p L f).S (L.getD k 0))))
    unfold bl sl
    have e : (List.range p).filter (f k) = (List.range p).filter fun i : Nat => (mkW p L f).S (L.getD k 0) (i : Int) := by
      refine List.filter_congr fun x hx => ?_
      have hx := List.mem_range.mp hx
      rw [Wd.S_nat (W := mkW p L f) hx]
      show f k x = f (L.idxOf (L.getD k 0)) x
      rw [hi k hk]
    rw [e]
  · show f _ ((y + p) % p).toNat = f _ (y % p).toNat
    rw [Int.add_emod_right]
theorem ins_first {W : Wd} (O : W.Ok) {k : Nat} (h : 1 ≤ k) : Acc.ins W ⟨[], none, k⟩ ((([] : List Pg).length : Nat) : Int) W.L = some ⟨[.kn W.L], none, k⟩ := by
  have h4 := O.len.2
  unfold Acc.ins
  rw [if_pos ⟨⟨by omega, Int.le_refl _⟩, fun c hc => hc, by omega⟩]
  unfold Acc.putAt
  rw [if_pos ⟨h, by show 0 + W.L.length ≤ 16; omega⟩]
  rfl
theorem first_ok {W : Wd} {k : Nat} (h : 1 ≤ k) (h8 : k ≤ 8) : AccOk W ⟨[], none, k⟩ := ⟨Nat.zero_le 8, Nat.zero_le 16, (fun z hz => nomatch hz), (fun hs h => nomatch h), ⟨h, h8⟩⟩
/-! W44 -/

/-- what stands between the turns -/
structure LS (K : Fr) (G H : Hp) (dk bs st ss ws wd fa : Addr) (W : Wd) (A0 A : Acc) (past : List Acc) (acc pl : Addr) : Prop where
  s : StaAt G H st
  D : DeskAt K G H dk W A past
  B : DeskAt K G H bs W ⟨[.kn W.L], none, 8⟩ [⟨[], none, 8⟩]
  ok : AccOk W A
  bd : A.rows.length ≤ A.bound
  pok : ∀ B ∈ past, AccOk W B ∧ B.rows.length ≤ B.bound
  ac : AccAt G acc A
  pl : AccsAt G pl past
  hW : WSets G ss W
  hws : G ws = some (.lst (W.words.map fun z => V.str (SX.S z)))
  hwd : G wd = some (.lst [.int (W.p : Int), .str (SX.S W.L), .ref ss])
  fst : (past ++ [A]).getD 0 A = A0
  ha : AccAt G fa A0
  nb : bs ≠ dk
section
variable {K : Fr} {G H G' H' : Hp} {dk bs st ss ws wd fa : Addr} {W : Wd} {A0 A A' : Acc} {past past' : List Acc} {acc pl acc' pl' : Addr}
theorem DeskAt.ex_ (D : DeskAt K G H dk W A past) : Ex G H := by obtain ⟨_, _, _, _, D⟩ := D; exact D.ex
theorem AccsAt.ex_ (h : AccsAt G pl past) (e : Ex G G') : AccsAt G' pl past := by
  obtain ⟨pas, h1, h2⟩ := h
  exact ⟨pas, e _ _ h1, paired_mono (fun _ _ z => z.ex e) h2⟩
theorem LS.mv (L : LS K G H dk bs st ss ws wd fa W A0 A past acc pl) (g : Gr G H G' H') (f : Frm [dk, st] H H') (s' : StaAt G' H' st) (D' : DeskAt K G' H' dk W A' past') (ok' : AccOk W A') (bd' : A'.rows.length ≤ A'.bound)
    (pok' : ∀ B ∈ past', AccOk W B ∧ B.rows.length ≤ B.bound) (ac' : AccAt G' acc' A') (pl_ : AccsAt G' pl' past') (fst' : (past' ++ [A']).getD 0 A' = A0) : LS K G' H' dk bs st ss ws wd fa W A0 A' past' acc' pl' :=
  ⟨s', D', L.B.keep g (frm_at f (fun m => by
      rcases List.mem_cons.mp m with z | m
      · exact L.nb z
      · exact desk_ne_sta L.B L.s (List.mem_singleton.mp m)) L.B.dom), ok', bd', pok', ac', pl_, L.hW.ex g.ex, g.ex _ _ L.hws, g.ex _ _ L.hwd, fst', L.ha.ex g.ex, L.nb⟩
theorem LS.ex_ (L : LS K G H dk bs st ss ws wd fa W A0 A past acc pl) (e : Ex H H') : LS K (ext G H H') H' dk bs st ss ws wd fa W A0 A past acc pl :=
  L.mv (Gr.pure L.D.ex_ e) (Ex.frm e) (L.s.up L.D.ex_ e) (L.D.grow2 e) L.ok L.bd L.pok (L.ac.ex (Gr.pure L.D.ex_ e).ex) (L.pl.ex_ (Gr.pure L.D.ex_ e).ex) L.fst
theorem LS.draw (L : LS K G H dk bs st ss ws wd fa W A0 A past acc pl) (s : StaAt G H' st) (f : Frm [st] H H') : LS K (ext G H H') H' dk bs st ss ws wd fa W A0 A past acc pl := by
  have g := s.gr L.D.ex_ f
  have s' : StaAt (ext G H H') H' st := by
    obtain ⟨n, cur, idx, cs, cells, hc, h1, h2⟩ := s
    exact ⟨g.old st L.s.dom n, cur, idx, cs, cells, hc, h1, g.ex _ _ h2⟩
  exact L.mv g (f.mono (by simp)) s' (L.D.keep g (frm_at f (no1 (desk_ne_sta L.D L.s)) L.D.dom)) L.ok L.bd L.pok (L.ac.ex g.ex) (L.pl.ex_ g.ex) L.fst
end
theorem LS.pl_ {K : Fr} {G H : Hp} {dk bs st ss ws wd fa : Addr} {W : Wd} {A0 A : Acc} {past : List Acc} {acc pl pl' : Addr} (L : LS K G H dk bs st ss ws wd fa W A0 A past acc pl) (h : AccsAt G pl' past) : LS K G H dk bs st ss ws wd fa W A0 A past acc pl' :=
  ⟨L.s, L.D, L.B, L.ok, L.bd, L.pok, L.ac, h, L.hW, L.hws, L.hwd, L.fst, L.ha, L.nb⟩
theorem go_makeK {C : Addr} {n m : Nat} {sp : Sp} {gV : List V → List V → List V} {E : XK} {t tk : TA} {σ : L2.St} {H : Hp} {Q : VK} (h : t σ H fun vs H1 => tk σ H1 fun zs H2 => vs.length = n ∧ zs.length = m ∧ ∀ x dx, H2 x = none → H2 dx = none → dx ≠ x →
  sp (gV (.ref x :: vs) zs) (upd (upd H2 dx (.own x)) x (.ins C dx [])) (fun v H3 => v = .non ∧ Q (.ref x) H3) E) : tMakeK C n m sp gV E t tk σ H Q := h
theorem cut_l0 : cutV [] (some (-1)) none = [] := rfl
theorem cut_b0 : cutV [] none (some (-1)) = [] := rfl
theorem cut_l1 {ys : List V} {v : V} : cutV (ys ++ [v]) (some (-1)) none = [v] := by
  unfold cutV
  have e : HT.sIx (ys ++ [v]).length 0 (some (-1)) = ys.length := by
    rw [List.length_append]
    unfold HT.sIx
    simp
    omega
  have e2 : HT.sIx (ys ++ [v]).length (ys ++ [v]).length none = ys.length + 1 := by
    rw [List.length_append]
    rfl
  rw [e, e2, List.drop_left, Nat.add_sub_cancel_left]
  rfl
theorem wd_eq {v i : Nat} : ((v : Int) + (i : Int)).fmod 6 = (((v + i) % 6 : Nat) : Int) := by
  rw [Int.fmod_eq_emod_of_nonneg _ (by decide)]
  omega
def sp_law (K : Fr) : Sp := fun vs H Q _ => ∃ a, vs = [.ref a] ∧ ∃ xs : List Int, xs.length ≤ 40000 ∧ SqL K H a (xs.map V.int) ∧ ∀ H', Q (.bl true) H'
theorem ok_law (T : Tx w K mg) : FnOk P w K mg base CX0 13 (a_law K) (fdOf K (a_law K)) ["_law_script"] (sp_law K) := by
  refine (T.d_law).ok sc_law (fun vs H Q E h => ?_) (fun cdv A outer s H vs Q E hr h => ?_)
  · obtain ⟨_, rfl, _⟩ := h
    rfl
  obtain ⟨ds, hdD, hbD⟩ := b_Desk_dflt T
  obtain ⟨mv, hbK⟩ := b_Desk_kw T
  refine ⟨_, PSs.nox (pss_cons (ps_set (i := 1) sc_law.nd rfl (Or.inl rfl) (pe_call (ok_law_begin T) (hr.mono (by decide)) rfl T.g_law_begin T.d_law_begin.kp T.b_law_begin .nil pass0 (pa_cons (pv 0) pa_nil)))
      (pss_cons (ps_set (i := 2) sc_law.nd rfl (Or.inl rfl) (pe_ix ix_list (pe_lst (pa_cons pe_int (pa_cons pe_int (pa_cons pe_int (pa_cons pe_int pa_nil))))) (pe_call (ok_law_draw T) (hr.mono (by decide)) rfl T.g_law_draw T.d_law_draw.kp T.b_law_draw .nil pass0 (pa_cons (pv 1) (pa_cons pe_int pa_nil))) (fun _ _ => rfl)))
      (pss_cons (ps_set (i := 3) sc_law.nd rfl (Or.inl rfl) (pe_ix ix_list (pe_lst (pa_cons pe_str (pa_cons pe_str (pa_cons pe_str (pa_cons pe_str pa_nil))))) (pe_call (ok_law_draw T) (hr.mono (by decide)) rfl T.g_law_draw T.d_law_draw.kp T.b_law_draw .nil pass0 (pa_cons (pv 1) (pa_cons pe_int pa_nil))) (fun _ _ => rfl)))
      (pss_cons (ps_set (i := 3) sc_law.nd rfl (Or.inl rfl) (pe_slice sl_str (pv 3) po_none (po_some (pe_op op_add pe_int (pe_call (ok_law_draw T) (hr.mono (by decide)) rfl T.g_law_draw T.d_law_draw.kp T.b_law_draw .nil pass0 (pa_cons (pv 1) (pa_cons pe_int pa_nil)))))))
      (pss_cons (ps_set (i := 4) sc_law.nd rfl (Or.inl rfl) (pe_call (ok_law_stands T) (hr.mono (by decide)) rfl T.g_law_stands T.d_law_stands.kp T.b_law_stands .nil pass0 (pa_cons (pv 1) (pa_cons (pv 2) (pa_cons (pe_callB call_len (by rfl) T.z_len (by decide +kernel) (pa_cons (pv 3) pa_nil)) pa_nil)))))
      (pss_cons (ps_set (i := 5) sc_law.nd rfl (Or.inl rfl) (pe_call (ok_law_words T) (hr.mono (by decide)) rfl T.g_law_words T.d_law_words.kp T.b_law_words .nil pass0 (pa_cons (pv 2) (pa_cons (pv 3) (pa_cons (pv 4) pa_nil)))))
      (pss_cons (ps_set (i := 6) sc_law.nd rfl (Or.inl rfl) (pe_lst (pa_cons (pv 2) (pa_cons (pv 3) (pa_cons (pv 4) pa_nil)))))
      (pss_cons (ps_set (i := 7) sc_law.nd rfl (Or.inl rfl) (pe_make T.mk_Calendar (ok_Calendar_init T) (hr.mono (by decide)) rfl T.g_Calendar T.b_Calendar_init .nil pass0 (pa_cons (pe_callTy call_list_of (by rfl) T.z_list (by decide +kernel) (pa_cons (pv 5) pa_nil)) pa_nil)))
      (pss_cons (ps_set (i := 8) sc_law.nd rfl (Or.inl rfl) (pe_ix ix_list (pe_lst (pa_cons pe_int (pa_cons pe_int (pa_cons pe_int (pa_cons pe_int (pa_cons pe_int (pa_cons pe_int (pa_cons pe_int (pa_cons pe_int pa_nil))))))))) (pe_call (ok_law_draw T) (hr.mono (by decide)) rfl T.g_law_draw T.d_law_draw.kp T.b_law_draw .nil pass0 (pa_cons (pv 1) (pa_cons pe_int pa_nil))) (fun _ _ => rfl)))
      (pss_cons (ps_set (i := 9) sc_law.nd rfl (Or.inl rfl) (pe_makeK T.mk_Desk (ok_Desk_init T) (hr.mono (by decide)) rfl T.g_Desk hbK pass0 (pa_cons (pv 7) pa_nil) (pk_cons (pv 8) pk_nil)))
      (pss_cons (ps_set (i := 10) sc_law.nd rfl (Or.inl rfl) (pe_make T.mk_Desk (ok_Desk_init T) (hr.mono (by decide)) rfl T.g_Desk hbD hdD pass0 (pa_cons (pv 7) pa_nil)))
      (pss_cons (ps_expr (pe_meth (pv 10) T.cl_Desk T.m_Desk_put (ok_Desk_put T) (hr.mono (by decide)) T.b_Desk_put .nil passE0 (pa_cons (pv 3) pa_nil)))
      (pss_cons (ps_set (i := 11) sc_law.nd rfl (Or.inl rfl) (pe_lst (pa_cons (pe_lst pa_nil) (pa_cons pe_non (pa_cons (pv 8) pa_nil)))))
      (pss_cons (ps_set (i := 12) sc_law.nd rfl (Or.inl rfl) (pv 11))
      (pss_cons (ps_set (i := 13) sc_law.nd rfl (Or.inl rfl) (pe_lst pa_nil))
      (pss_cons (ps_if (pt_cmpR op_ne (pe_call (ok_law_undone T) (hr.mono (by decide)) rfl T.g_law_undone T.d_law_undone.kp T.b_law_undone .nil pass0 (pa_cons (pv 9) pa_nil)) pe_str (by first | exact nomark _ | rfl))
      (pss_one (ps_ret pe_bl))
      pss_nil)
      (Evl.pss_cut (ps_for PassesOwn.never rfl (pi_range1 rfl T.z_range (pa_cons (pe_op op_add pe_int (pe_op op_modN (pe_callTy call_int1 (by rfl) T.z_int (by decide +kernel) (pa_cons (pe_op op_add (pe_call (ok_law_draw T) (hr.mono (by decide)) rfl T.g_law_draw T.d_law_draw.kp T.b_law_draw .nil pass0 (pa_cons (pv 1) (pa_cons pe_int pa_nil))) pe_int) pa_nil)) pe_int)) pa_nil)) (pg_name (i := 14) sc_law.nd rfl (Or.inl rfl))
      (pss_cons (ps_set (i := 15) sc_law.nd rfl (Or.inl rfl) (pe_op op_modN (pe_callTy call_int1 (by rfl) T.z_int (by decide +kernel) (pa_cons (pe_op op_add (pe_call (ok_law_draw T) (hr.mono (by decide)) rfl T.g_law_draw T.d_law_draw.kp T.b_law_draw .nil pass0 (pa_cons (pv 1) (pa_cons pe_int pa_nil))) (pv 14)) pa_nil)) pe_int))
        (Evl.pss_cut (ps_if (pt_cmpR op_eq (pv 15) pe_int (by first | exact nomark _ | rfl))
        (pss_cons (ps_if (pt_cmpR op_ne (pe_call (ok_law_undone T) (hr.mono (by decide)) rfl T.g_law_undone T.d_law_undone.kp T.b_law_undone .nil pass0 (pa_cons (pv 9) pa_nil)) (pe_ix ix_list (pe_lst (pa_cons pe_str (pa_cons pe_str pa_nil))) (pe_callTy call_int1 (by rfl) T.z_int (by decide +kernel) (pa_cons (pe_cmpR (op_eqD (hu64 hr)) (pv 13) (pe_lst pa_nil) (by first | exact nomark _ | rfl)) pa_nil)) (fun _ _ => rfl)) (by first | exact nomark _ | rfl))
          (pss_one (ps_ret pe_bl))
          pss_nil)
          (pss_cons (ps_set (i := 12) sc_law.nd rfl (Or.inl rfl) (pe_ix ix_list (pe_op op_cat (pe_slice sl_list (pv 13) (po_some (pe_un un_neg pe_int)) po_none) (pe_lst (pa_cons (pv 12) pa_nil))) pe_int (fun _ _ => rfl)))
          (pss_one (ps_set (i := 13) sc_law.nd rfl (Or.inl rfl) (pe_slice sl_list (pv 13) po_none (po_some (pe_un un_neg pe_int)))))))
        (Evl.pss_cut (ps_if (pt_cmpR op_eq (pv 15) pe_int (by first | exact nomark _ | rfl))
          (pss_one (ps_set (i := 16) sc_law.nd rfl (Or.inl rfl) (pe_call (ok_law_enter_turn T) (hr.mono (by decide)) rfl T.g_law_enter_turn T.d_law_enter_turn.kp T.b_law_enter_turn .nil pass0 (pa_cons (pv 9) (pa_cons (pv 12) (pa_cons (pv 1) (pa_cons (pv 14) (pa_cons (pv 6) pa_nil))))))))
          (pss_one (ps_set (i := 16) sc_law.nd rfl (Or.inl rfl) (pe_call (ok_law_step_turn T) (hr.mono (by decide)) rfl T.g_law_step_turn T.d_law_step_turn.kp T.b_law_step_turn .nil pass0 (pa_cons (pv 9) (pa_cons (pv 12) (pa_cons (pv 1) (pa_cons (pv 14) (pa_cons (pv 6) pa_nil)))))))))
          (pss_cons (ps_if (pt_not (pt_val (pe_ix ix_list (pv 16) pe_int (fun _ _ => rfl))))
          (pss_one (ps_ret pe_bl))
          pss_nil)
          (pss_one (ps_if (pt_cmpR op_notN (pe_ix ix_list (pv 16) pe_int (fun _ _ => rfl)) pe_non (by first | exact nomark _ | rfl))
          (pss_cons (ps_set (i := 13) sc_law.nd rfl (Or.inl rfl) (pe_op op_cat (pv 13) (pe_lst (pa_cons (pv 12) pa_nil))))
            (pss_one (ps_set (i := 12) sc_law.nd rfl (Or.inl rfl) (pe_ix ix_list (pv 16) pe_int (fun _ _ => rfl)))))
          pss_nil)))))
        (pss_cons (ps_if (pt_not (pt_val (pe_call (ok_law_stands_so T) (hr.mono (by decide)) rfl T.g_law_stands_so T.d_law_stands_so.kp T.b_law_stands_so .nil pass0 (pa_cons (pv 9) (pa_cons (pv 12) (pa_cons (pv 5) pa_nil))))))
        (pss_one (ps_ret pe_bl))
        pss_nil)
        (pss_one (ps_if (pt_not (pt_val (pe_call (ok_law_asked T) (hr.mono (by decide)) rfl T.g_law_asked T.d_law_asked.kp T.b_law_asked .nil pass0 (pa_cons (pv 9) (pa_cons (pv 12) (pa_cons (pv 2) (pa_cons (pv 3) (pa_cons (pv 4) pa_nil))))))))
        (pss_one (ps_ret pe_bl))
        pss_nil))))))
      (pss_cons (ps_if (pt_not (pt_val (pe_call (ok_law_all_back T) (hr.mono (by decide)) rfl T.g_law_all_back T.d_law_all_back.kp T.b_law_all_back .nil pass0 (pa_cons (pv 9) (pa_cons (pv 13) (pa_cons (pv 5) pa_nil))))))
      (pss_one (ps_ret pe_bl))
      pss_nil)
      (pss_cons (ps_expr (pe_meth (pv 9) T.cl_Desk T.m_Desk_put (ok_Desk_put T) (hr.mono (by decide)) T.b_Desk_put .nil passE0 (pa_cons (pv 3) pa_nil)))
      (pss_cons (ps_set (i := 17) sc_law.nd rfl (Or.inl rfl) (pe_lst (pa_cons (pe_lst (pa_cons (pv 3) (pa_cons (pe_callB call_len (by rfl) T.z_len (by decide +kernel) (pa_cons (pv 3) pa_nil)) pa_nil))) pa_nil)))
      (pss_cons (ps_if (pt_not (pt_val (pe_call (ok_law_stands_so T) (hr.mono (by decide)) rfl T.g_law_stands_so T.d_law_stands_so.kp T.b_law_stands_so .nil pass0 (pa_cons (pv 9) (pa_cons (pe_lst (pa_cons (pv 17) (pa_cons pe_non (pa_cons (pv 8) pa_nil)))) (pa_cons (pv 5) pa_nil))))))
      (pss_one (ps_ret pe_bl))
      pss_nil)
      (pss_cons (ps_if (pt_not (pt_val (pe_call (ok_law_all_back T) (hr.mono (by decide)) rfl T.g_law_all_back T.d_law_all_back.kp T.b_law_all_back .nil pass0 (pa_cons (pv 9) (pa_cons (pe_lst (pa_cons (pv 11) pa_nil)) (pa_cons (pv 5) pa_nil))))))
      (pss_one (ps_ret pe_bl))
      pss_nil)
      (pss_one (ps_ret (pe_call (ok_law_stands_so T) (hr.mono (by decide)) rfl T.g_law_stands_so T.d_law_stands_so.kp T.b_law_stands_so .nil pass0 (pa_cons (pv 10) (pa_cons (pe_lst (pa_cons (pv 17) (pa_cons pe_non (pa_cons pe_int pa_nil)))) (pa_cons (pv 5) pa_nil)))))))))))))))))))))))))))), ?_⟩
  obtain ⟨a, rfl, xs, hxl, hxs, k⟩ := h
  have es0 : L2.start N_law [V.ref a] = [some (.ref a), none, none, none, none, none, none, none, none, none, none, none, none, none, none, none, none, none] := by with_unfolding_all rfl
  walk_at "s"
  refine ⟨a, rfl, xs, hxl, hxs, fun st cs cells H1 n1 n2 ne1 e1 hc63 hst hcs => ?_⟩
  have b1 : Bs (hid [st] H1) H1 (hid [st] H1) H1 st := Bs.refl hid_ex ⟨hid_in (List.mem_cons_self ..), 0, 0, cs, cells, hc63, hst, (hid_out (no1 ne1.symm)).trans hcs⟩
  generalize hid [st] H1 = G1 at b1
  walk_at "s"
  intro p1 np1; generalize hEp1 : upd _ p1 _ = H2; have eH2 := exN np1 hEp1; have hp1 := atN hEp1; clear hEp1
  have b2 := b1.ex eH2
  have hp1 : (ext G1 H1 H2) p1 = some (.lst [.int 2, .int 3, .int 1, .int 2]) := by rw [ext_new np1]; exact hp1
  generalize ext G1 H1 H2 = G2 at b2 hp1
  walk_at "s"
  refine ⟨st, _, rfl, G2, 4, rfl, by decide, by decide, b2.g.up, b2.s, fun v H3 hv e3 s3 f3 => ?_⟩
  have b3 := b2.draw s3 f3
  have hp1 := e3 _ _ hp1
  generalize ext G2 H2 H3 = G3 at b3
  obtain ⟨p, hp, hp0, hp3⟩ : ∃ p : Nat, ([V.int 2, .int 3, .int 1, .int 2] : List V)[v]? = some (.int (p : Int)) ∧ 0 < p ∧ p ≤ 3 := by
    match v, hv with
    | 0, _ => exact ⟨2, rfl, by decide, by decide⟩
    | 1, _ => exact ⟨3, rfl, by decide, by decide⟩
    | 2, _ => exact ⟨1, rfl, by decide, by decide⟩
    | 3, _ => exact ⟨2, rfl, by decide, by decide⟩
  refine go_ixL (sq_of hp1) (atI_nat hp) ?_
  walk_at "s"
  intro p2 np2; generalize hEp2 : upd _ p2 _ = H4; have eH4 := exN np2 hEp2; have hp2 := atN hEp2; clear hEp2
  have b4 := b3.ex eH4
  have hp2 : (ext G3 H3 H4) p2 = some (.lst [V.str "abcd", V.str "bhqz", V.str "acxy", V.str "lmno"]) := by rw [ext_new np2]; exact hp2
  generalize ext G3 H3 H4 = G4 at b4 hp2
  walk_at "s"
  refine ⟨st, _, rfl, G4, 4, rfl, by decide, by decide, b4.g.up, b4.s, fun i H5 hi e5 s5 f5 => ?_⟩
  have b5 := b4.draw s5 f5
  have hp2 := e5 _ _ hp2
  generalize ext G4 H4 H5 = G5 at b5
  refine go_ixL (sq_of hp2) (atI_nat (alpha_at hi)) ?_
  walk_at "s"
  refine ⟨st, _, rfl, G5, 3, rfl, by decide, by decide, b5.g.up, b5.s, fun j H6 hj e6 s6 f6 => ?_⟩
  have b6 := b5.draw s6 f6
  generalize ext G5 H5 H6 = G6 at b6
  walk_at "s"
  refine ⟨_, rfl, sz_of (by rw [alpha_len i hi]; decide), ?_⟩
  rw [alpha_cut i hi j hj]
  obtain ⟨⟨l2, l4⟩, la, lr, li⟩ := alpha_ok i hi j hj
  generalize (alphas.getD i []).take (2 + j) = L at l2 l4 la lr li
  walk_at "s"
  refine ⟨_, _, rfl, ⟨by rw [SX.S_len]; exact sz_of (by omega), rfl⟩, ?_⟩
  rw [SX.S_len]
  walk_at "s"
  refine ⟨st, p, L.length, rfl, G6, hp0, hp3, l4, b6.g.up, b6.s, fun f ss G7 H7 hf b7 hss => ?_⟩
  have O := mkW_ok hp0 hp3 ⟨l2, l4⟩ la lr hf
  have hW := mkW_sets hp0 li hss
  have b7 := b6.call b7.g b7.f b7.s
  have hWp : (mkW p L f).p = p := rfl
  have hWL : (mkW p L f).L = L := rfl
  generalize mkW p L f = W at O hW hWp hWL
  subst hWp hWL
  have hWH := hW.ex b7.g.up
  walk_at "s"
  generalize hsig0 : List.set _ _ _ = sig0
  obtain rfl : sig0 = [some (.ref a), some (.ref st), some (.int (W.p : Int)), some (.str (SX.S W.L)), some (.ref ss), none, none, none, none, none, none, none, none, none, none, none, none, none] := by
    rw [← hsig0]
    simp only [es0, List.set_cons_succ, List.set_cons_zero]
  clear hsig0
  refine ⟨W.p, W.L, ss, rfl, W, O, rfl, rfl, hWH, fun ws H8 nws e8 hws => ?_⟩
  have b8 := b7.ex e8
  have hW8 := hW.ex (Gr.pure b7.g.up e8).ex
  have hws8 : (ext G7 H7 H8) ws = some (.lst (W.words.map fun z => V.str (SX.S z))) := by rw [ext_new nws]; exact hws
  generalize ext G7 H7 H8 = G8 at b8 hW8 hws8
  walk_at "s"
  intro wd nwd; generalize hEwd : upd _ wd _ = H9; have eH9 := exN nwd hEwd; have hwd := atN hEwd; clear hEwd
  have b9 := b8.ex eH9
  have x9 := (Gr.pure b8.g.up eH9).ex
  have hW9 := hW8.ex x9
  have hws9 := x9 _ _ hws8
  have hwd9 : (ext G8 H8 H9) wd = some (.lst [.int (W.p : Int), .str (SX.S W.L), .ref ss]) := by rw [ext_new nwd]; exact hwd
  clear x9
  generalize ext G8 H8 H9 = G9 at b9 hW9 hws9 hwd9
  have hwsH := b9.g.up _ _ hws9
  walk_at "s"
  refine ⟨ws, _, rfl, .inl (sq_of hwsH), ?_⟩
  intro wl nwl; generalize hEwl : upd _ wl _ = H10; have eH10 := exN nwl hEwl; have hwl := atN hEwl; clear hEwl
  have b10 := b9.ex eH10
  have x10 := (Gr.pure b9.g.up eH10).ex
  have hW10 := hW9.ex x10
  have hws10 := x10 _ _ hws9
  have hwd10 := x10 _ _ hwd9
  clear x10
  generalize ext G9 H9 H10 = G10 at b10 hW10 hws10 hwd10
  walk_at "s"
  intro c dx nc ndx nex
  have mk : Ex H10 (upd (upd H10 dx (.own c)) c (.ins (He.ga K "Calendar") dx [])) := mkEx nc ndx nex
  refine ⟨c, wl, rfl, dx, W, O, sq_of (mk _ _ hwl), upd_same, fun wc H11 nwc hc hwc f11 => ⟨rfl, ?_⟩⟩
  have e11 : Ex H10 H11 := frm_nil (((Ex.frm mk : Frm [] H10 _)).fresh f11 (fun o h => by rw [nc] at h; cases h))
  have b11 := b10.ex e11
  have x11 := (Gr.pure b10.g.up e11).ex
  have hW11 := hW10.ex x11
  have hws11 := x11 _ _ hws10
  have hwd11 := x11 _ _ hwd10
  have hcal : CalAt K (ext G10 H10 H11) c W := ⟨dx, wc, by rw [ext_new nc]; exact hc, by rw [ext_new (fresh_back mk nwc)]; exact hwc⟩
  clear x11
  generalize ext G10 H10 H11 = G11 at b11 hW11 hws11 hwd11 hcal
  walk_at "s"
  intro p4 np4; generalize hEp4 : upd _ p4 _ = H12; have eH12 := exN np4 hEp4; have hp4 := atN hEp4; clear hEp4
  have b12 := b11.ex eH12
  have x12 := (Gr.pure b11.g.up eH12).ex
  have hW12 := hW11.ex x12
  have hws12 := x12 _ _ hws11
  have hwd12 := x12 _ _ hwd11
  have hcal12 := hcal.ex x12
  have hp3' : (ext G11 H11 H12) p4 = some (.lst [.int 8, .int 4, .int 6, .int 3, .int 5, .int 2, .int 7, .int 8]) := by rw [ext_new np4]; exact hp4
  clear x12
  generalize ext G11 H11 H12 = G12 at b12 hW12 hws12 hwd12 hcal12 hp3'
  walk_at "s"
  refine ⟨st, _, rfl, G12, 8, rfl, by decide, by decide, b12.g.up, b12.s, fun v H13 hv e13 s13 f13 => ?_⟩
  have b13 := b12.draw s13 f13
  have hp3'' := e13 _ _ hp3'
  have x13 := (s13.gr b12.g.up f13).ex
  have hW13 := hW12.ex x13
  have hws13 := x13 _ _ hws12
  have hwd13 := x13 _ _ hwd12
  have hcal13 := hcal12.ex x13
  clear x13
  generalize ext G12 H12 H13 = G13 at b13 hW13 hws13 hwd13 hcal13
  obtain ⟨k8, hk, hk1, hk8⟩ : ∃ k : Nat, ([V.int 8, .int 4, .int 6, .int 3, .int 5, .int 2, .int 7, .int 8] : List V)[v]? = some (.int (k : Int)) ∧ 1 ≤ k ∧ k ≤ 8 := by
    match v, hv with
    | 0, _ => exact ⟨8, rfl, by decide, by decide⟩
    | 1, _ => exact ⟨4, rfl, by decide, by decide⟩
    | 2, _ => exact ⟨6, rfl, by decide, by decide⟩
    | 3, _ => exact ⟨3, rfl, by decide, by decide⟩
    | 4, _ => exact ⟨5, rfl, by decide, by decide⟩
    | 5, _ => exact ⟨2, rfl, by decide, by decide⟩
    | 6, _ => exact ⟨7, rfl, by decide, by decide⟩
    | 7, _ => exact ⟨8, rfl, by decide, by decide⟩
  refine go_ixL (sq_of hp3'') (atI_nat hk) ?_
  walk_at "s"
  generalize hsig0 : List.set _ _ _ = sig0
  obtain rfl : sig0 = [some (.ref a), some (.ref st), some (.int (W.p : Int)), some (.str (SX.S W.L)), some (.ref ss), some (.ref ws), some (.ref wd), some (.ref c), some (.int (k8 : Int)), none, none, none, none, none, none, none, none, none] := by
    rw [← hsig0]
    simp only [es0, List.set_cons_succ, List.set_cons_zero]
  clear hsig0
  refine go_makeK ?_
  walk_at "s"
  refine ⟨rfl, rfl, ?_⟩
  intro dk dxd ndk ndxd nexd
  have mk14 : Ex H13 (upd (upd H13 dxd (.own dk)) dk (.ins (He.ga K "Desk") dxd [])) := mkEx ndk ndxd nexd
  refine ⟨dk, c, _, rfl, G13, dxd, W, k8, rfl, hk1, hk8, b13.g.up.trans mk14, fresh_back b13.g.up ndk, hcal13, upd_same, fun G14 H14 g14 f14 D14 => ⟨rfl, ?_⟩⟩
  have e14 : Ex H13 H14 := frm_nil (((Ex.frm mk14 : Frm [] H13 _)).fresh f14 (fun o h => by rw [ndk] at h; cases h))
  have g14 : Gr G13 H13 G14 H14 := (Gr.keep (b13.g.up.trans mk14) (dom_ex mk14)).trans g14
  have s14 := b13.s.grow g14 (b13.s.ex_ e14)
  have hW14 := hW13.ex g14.ex
  have hws14 := g14.ex _ _ hws13
  have hwd14 := g14.ex _ _ hwd13
  have hcal14 := hcal13.ex g14.ex
  clear mk14 f14
  walk_at "s"
  intro bs dxb nbs ndxb nexb
  have mk15 : Ex H14 (upd (upd H14 dxb (.own bs)) bs (.ins (He.ga K "Desk") dxb [])) := mkEx nbs ndxb nexb
  refine ⟨bs, c, _, rfl, G14, dxb, W, 8, rfl, by decide, by decide, g14.up.trans mk15, fresh_back g14.up nbs, hcal14, upd_same, fun G15 H15 g15 f15 D15 => ⟨rfl, ?_⟩⟩
  have nb : bs ≠ dk := fun z => D14.dom (by rw [← z]; exact nbs)
  have e15 : Ex H14 H15 := frm_nil (((Ex.frm mk15 : Frm [] H14 _)).fresh f15 (fun o h => by rw [nbs] at h; cases h))
  have g15 : Gr G14 H14 G15 H15 := (Gr.keep (g14.up.trans mk15) (dom_ex mk15)).trans g15
  have s15 := s14.grow g15 (s14.ex_ e15)
  have hW15 := hW14.ex g15.ex
  have hws15 := g15.ex _ _ hws14
  have hwd15 := g15.ex _ _ hwd14
  have D14 := D14.keep g15 (frm_at (Ex.frm e15 : Frm [] H14 H15) (by simp) D14.dom)
  clear mk15 f15
  obtain ⟨dxb', cb, sb, pb, D15'⟩ := id D15
  have hbs := D15'.at_
  walk_at "s"
  refine ⟨_, _, _, rfl, hbs, dkNo (by decide +kernel) (by decide +kernel) (by decide +kernel), ?_⟩
  walk_at "s"
  refine ⟨bs, W.L, rfl, by have := O.len.2; omega, G15, W, _, _, O, D15, first_ok (by decide) (by decide), by decide, fun A' G16 H16 eA g16 f16 D16 => ?_, fun eN => by (rw [ins_first O (by decide)] at eN; cases eN)⟩
  rw [ins_first O (by decide)] at eA
  cases eA
  have s16 := s15.grow g16 (frm_at f16 (no1 (desk_ne_sta D15 s15).symm) s15.dom)
  have D16d := D14.keep g16 (frm_at f16 (no1 nb.symm) D14.dom)
  have hW16 := hW15.ex g16.ex
  have hws16 := g16.ex _ _ hws15
  have hwd16 := g16.ex _ _ hwd15
  walk_at "s"
  intro r0 nr0; generalize hEr0 : upd _ r0 _ = H17; have eH17 := exN nr0 hEr0; have hr0 := atN hEr0; clear hEr0
  walk_at "s"
  intro fa nfa; generalize hEfa : upd _ fa _ = H18; have eH18 := exN nfa hEfa; have hfa := atN hEfa; clear hEfa
  walk_at "s"
  intro pl npl; generalize hEpl : upd _ pl _ = H19; have eH19 := exN npl hEpl; have hpl := atN hEpl; clear hEpl
  have e19 : Ex H16 H19 := eH17.trans (eH18.trans eH19)
  have L19 : LS K (ext G16 H16 H19) H19 dk bs st ss ws wd fa W ⟨[], none, k8⟩ ⟨[], none, k8⟩ [] fa pl := by
    have x := (Gr.pure g16.up e19).ex
    have fA : AccAt (ext G16 H16 H19) fa ⟨[], none, k8⟩ := ⟨r0, .non, by rw [ext_new (fresh_back eH17 nfa)]; exact eH19 _ _ hfa, ⟨[], by rw [ext_new nr0]; exact eH19 _ _ (eH18 _ _ hr0), .nil⟩, rfl⟩
    exact ⟨s16.up g16.up e19, D16d.grow2 e19, D16.grow2 e19, first_ok hk1 hk8, Nat.zero_le _, (fun B h => nomatch h), fA, ⟨[], by rw [ext_new (fresh_back eH17 (fresh_back eH18 npl))]; exact hpl, .nil⟩, hW16.ex x, x _ _ hws16, x _ _ hwd16, rfl, fA, nb⟩
  generalize ext G16 H16 H19 = G19 at L19
  walk_at "s"
  generalize hsig0 : List.set _ _ _ = sig0
  obtain rfl : sig0 = [some (.ref a), some (.ref st), some (.int (W.p : Int)), some (.str (SX.S W.L)), some (.ref ss), some (.ref ws), some (.ref wd), some (.ref c), some (.int (k8 : Int)), some (.ref dk), some (.ref bs), some (.ref fa), some (.ref fa), some (.ref pl), none, none, none, none] := by
    rw [← hsig0]
    simp only [es0, List.set_cons_succ, List.set_cons_zero]
  clear hsig0
  refine ⟨dk, rfl, G19, W, _, _, L19.D, by decide, fun _ H20 e20 => ?_, fun p' A' e => absurd e (by simp)⟩
  have L20 := L19.ex_ e20
  walk_at "s"
  refine ifF (ne_self _) ?_
  clear b1 b2 b3 b4 b5 b6 b7 b8 b9 b10 b11 b12 b13
  walk_at "s"
  refine Evl.q_cut (M := fun σ H' => ∃ (G' : Hp) (A : Acc) (past : List Acc) (acc pl : Addr), LS K G' H' dk bs st ss ws wd fa W ⟨[], none, k8⟩ A past acc pl ∧ past.length ≤ 13 ∧ ∃ v14 v15 v16, σ = [some (.ref a), some (.ref st), some (.int (W.p : Int)), some (.str (SX.S W.L)), some (.ref ss), some (.ref ws), some (.ref wd), some (.ref c), some (.int (k8 : Int)), some (.ref dk), some (.ref bs), some (.ref fa), some (.ref acc), some (.ref pl), v14, v15, v16, none]) ?_ ?_
  · walk_at "s"
    refine ⟨st, _, rfl, _, 7, rfl, by decide, by decide, L20.D.ex_, L20.s, fun v7 H21 hv7 e21 s21 f21 => ?_⟩
    have L21 := L20.draw s21 f21
    walk_at "s"
    refine .inl ⟨_, rfl, ?_⟩
    walk_at "s"
    refine go_rI (by decide) ?_
    rw [show ((v7 : Int) + 6).fmod 7 = (((v7 + 6) % 7 : Nat) : Int) by rw [Int.fmod_eq_emod_of_nonneg _ (by decide)]; omega]
    have hm7 : (v7 + 6) % 7 < 7 := Nat.mod_lt _ (by decide)
    generalize (v7 + 6) % 7 = m at hm7
    walk_at "s"
    refine ⟨by omega, by omega, ?_⟩
    refine for_range (lo := 0) (n := (6 + (m : Int)).toNat) (fun i σ H' => ∃ (G' : Hp) (A : Acc) (past : List Acc) (acc pl : Addr), LS K G' H' dk bs st ss ws wd fa W ⟨[], none, k8⟩ A past acc pl ∧ past.length ≤ i ∧ ∃ v14 v15 v16, σ = [some (.ref a), some (.ref st), some (.int (W.p : Int)), some (.str (SX.S W.L)), some (.ref ss), some (.ref ws), some (.ref wd), some (.ref c), some (.int (k8 : Int)), some (.ref dk), some (.ref bs), some (.ref fa), some (.ref acc), some (.ref pl), v14, v15, v16, none])
      ⟨_, ⟨[], none, k8⟩, [], fa, pl, L21, Nat.le_refl 0, none, none, none, by with_unfolding_all exact rfl⟩ ?_ ?_
    · rintro i σ H hi ⟨G, A, past, acc, pl, L, hpl, v14, v15, v16, rfl⟩
      have hi12 : i ≤ 12 := by omega
      rw [Int.zero_add]
      walk_at "s"
      refine ⟨st, _, rfl, G, 6, rfl, by decide, by decide, L.D.ex_, L.s, fun v6 H1 hv6 e1 s1 f1 => ?_⟩
      have L1 := L.draw s1 f1
      generalize ext G H H1 = G1 at L1
      walk_at "s"
      refine .inl ⟨_, rfl, ?_⟩
      walk_at "s"
      refine go_rI (by decide) ?_
      rw [wd_eq]
      generalize (v6 + i) % 6 = wn
      walk_at "s"
      refine Evl.q_cut (M := fun σ H' => ∃ (G' : Hp) (A : Acc) (past : List Acc) (acc pl : Addr), LS K G' H' dk bs st ss ws wd fa W ⟨[], none, k8⟩ A past acc pl ∧ past.length ≤ i + 1 ∧ ∃ v14 v15 v16, σ = [some (.ref a), some (.ref st), some (.int (W.p : Int)), some (.str (SX.S W.L)), some (.ref ss), some (.ref ws), some (.ref wd), some (.ref c), some (.int (k8 : Int)), some (.ref dk), some (.ref bs), some (.ref fa), some (.ref acc), some (.ref pl), v14, v15, v16, none]) ?_ ?_
      · walk_at "s"
        refine ite2 (fun q => ?_) (fun q => ?_)
        · walk_at "s"
          refine ⟨dk, rfl, G1, W, A, past, L1.D, by omega, fun e H2 e2 => ?_, fun p' A' e G2 H2 g2 f2 D2 => ?_⟩
          · subst e
            have L2 := L1.ex_ e2
            generalize ext G1 H1 H2 = G2 at L2
            walk_at "s"
            intro q1 nq1; generalize hEq1 : upd _ q1 _ = H3; have eH3 := exN nq1 hEq1; have hq1 := atN hEq1; clear hEq1
            walk_at "s"
            intro q2 nq2; generalize hEq2 : upd _ q2 _ = H4; have eH4 := exN nq2 hEq2; have hq2 := atN hEq2; clear hEq2
            have x4 := eH3.trans eH4
            refine go_eqP O (L2.D.ex_.trans x4) L2.pl (fun B h => (L2.pok B h).1) (sq_of hq2) ?_
            walk_at "s"
            refine .inr ⟨_, rfl, ?_⟩
            walk_at "s"
            refine go_ixL (sq_of (eH4 _ _ hq1)) (show atI _ _ = some (.str "nothing") from rfl) ?_
            walk_at "s"
            refine ifF (ne_self _) ?_
            have L4 := L2.ex_ x4
            generalize ext G2 H2 H4 = G4 at L4
            obtain ⟨pas, hpas, hpp⟩ := L4.pl
            cases hpp
            have hplH := L4.D.ex_ _ _ hpas
            walk_at "s"
            refine go_slL (sq_of hplH) ?_
            intro m1 nm1; generalize hEm1 : upd _ m1 _ = H5; have eH5 := exN nm1 hEm1; have hm1 := atN hEm1; clear hEm1
            have hplH5 := eH5 _ _ hplH
            walk_at "s"
            intro m2 nm2; generalize hEm2 : upd _ m2 _ = H6; have eH6 := exN nm2 hEm2; have hm2 := atN hEm2; clear hEm2
            refine go_cat (eH6 _ _ hm1) hm2 (by rw [show cutV (List.map V.ref []) (some (-1)) none = [] from rfl]; exact (show 0 + 1 ≤ 100000 by decide)) ?_
            intro m3 nm3; generalize hEm3 : upd _ m3 _ = H7; have eH7 := exN nm3 hEm3; have hm3 := atN hEm3; clear hEm3
            have hplH7 := eH7 _ _ (eH6 _ _ hplH5)
            walk_at "s"
            refine go_ixL (sq_of hm3) (show atI _ ((0 : Nat) : Int) = some (.ref acc) from rfl) ?_
            walk_at "s"
            refine go_slL (sq_of hplH7) ?_
            intro m4 nm4; generalize hEm4 : upd _ m4 _ = H8; have eH8 := exN nm4 hEm4; have hm4 := atN hEm4; clear hEm4
            have L8 := L4.ex_ (eH5.trans (eH6.trans (eH7.trans eH8)))
            walk_at "s"
            exact ⟨_, A, [], acc, m4, L8.pl_ ⟨[], by rw [ext_new (fresh_back (eH5.trans (eH6.trans eH7)) nm4)]; exact hm4, .nil⟩, Nat.zero_le _, _, _, _, rfl⟩
          · subst e
            obtain ⟨pas, hpas, hpp⟩ := L1.pl
            obtain ⟨pas', b, rfl, hpp', hb⟩ := paired_unsnoc hpp
            rw [List.map_append] at hpas
            have nds := desk_ne_sta L1.D L1.s
            have s2 := L1.s.grow g2 (frm_at f2 (no1 nds.symm) L1.s.dom)
            have hplH := g2.up _ _ (g2.ex _ _ hpas)
            walk_at "s"
            intro q1 nq1; generalize hEq1 : upd _ q1 _ = H3; have eH3 := exN nq1 hEq1; have hq1 := atN hEq1; clear hEq1
            walk_at "s"
            intro q2 nq2; generalize hEq2 : upd _ q2 _ = H4; have eH4 := exN nq2 hEq2; have hq2 := atN hEq2; clear hEq2
            have x4 := eH3.trans eH4
            refine go_eqP O (g2.up.trans x4) (L1.pl.ex_ g2.ex) (fun B h => (L1.pok B h).1) (sq_of hq2) ?_
            rw [show (p' ++ [A']).isEmpty = false by cases p' <;> rfl]
            walk_at "s"
            refine .inr ⟨_, rfl, ?_⟩
            walk_at "s"
            refine go_ixL (sq_of (eH4 _ _ hq1)) (show atI _ _ = some (.str "done") from rfl) ?_
            walk_at "s"
            refine ifF (ne_self _) ?_
            have hplH4 := x4 _ _ hplH
            walk_at "s"
            refine go_slL (sq_of hplH4) ?_
            intro m1 nm1; generalize hEm1 : upd _ m1 _ = H5; have eH5 := exN nm1 hEm1; have hm1 := atN hEm1; clear hEm1
            have hm1' : H5 m1 = some (.lst [.ref b]) := hm1.trans (congrArg (fun z => some (HO.lst z)) cut_l1)
            have hplH5 := eH5 _ _ hplH4
            walk_at "s"
            intro m2 nm2; generalize hEm2 : upd _ m2 _ = H6; have eH6 := exN nm2 hEm2; have hm2 := atN hEm2; clear hEm2
            refine go_cat (eH6 _ _ hm1') hm2 (show 1 + 1 ≤ 100000 by decide) ?_
            intro m3 nm3; generalize hEm3 : upd _ m3 _ = H7; have eH7 := exN nm3 hEm3; have hm3 := atN hEm3; clear hEm3
            have hplH7 := eH7 _ _ (eH6 _ _ hplH5)
            walk_at "s"
            refine go_ixL (sq_of hm3) (show atI _ ((0 : Nat) : Int) = some (.ref b) from rfl) ?_
            walk_at "s"
            refine go_slL (sq_of hplH7) ?_
            intro m4 nm4; generalize hEm4 : upd _ m4 _ = H8; have eH8 := exN nm4 hEm4; have hm4 := atN hEm4; clear hEm4
            have hm4' : H8 m4 = some (.lst (pas'.map V.ref)) := hm4.trans (congrArg (fun z => some (HO.lst z)) cut_last)
            have x8 := x4.trans (eH5.trans (eH6.trans (eH7.trans eH8)))
            have g8 := g2.trans (Gr.pure g2.up x8)
            walk_at "s"
            exact ⟨_, A', p', b, m4, L1.mv g8 ((f2.mono (by simp)).trans (Ex.frm x8)) (s2.up g2.up x8) (D2.grow2 x8) (L1.pok A' (by simp)).1 (L1.pok A' (by simp)).2 (fun B h => L1.pok B (by simp [h])) (hb.ex g8.ex) ⟨pas', by rw [ext_new (fresh_back (x4.trans (eH5.trans (eH6.trans eH7))) nm4)]; exact hm4', paired_mono (fun _ _ z => z.ex g8.ex) hpp'⟩ (by have q := L1.fst; cases p' <;> exact q), by (rw [List.length_append] at hpl; have : [A'].length = 1 := rfl; omega), _, _, _, rfl⟩
        · walk_at "s"
          refine Evl.q_cut (M := fun σ H' => ∃ (G' : Hp) (tp : Addr), Gr G1 H1 G' H' ∧ Frm [dk, st] H1 H' ∧ StaAt G' H' st ∧ σ = [some (.ref a), some (.ref st), some (.int (W.p : Int)), some (.str (SX.S W.L)), some (.ref ss), some (.ref ws), some (.ref wd), some (.ref c), some (.int (k8 : Int)), some (.ref dk), some (.ref bs), some (.ref fa), some (.ref acc), some (.ref pl), some (.int (i : Int)), some (.int (wn : Int)), some (.ref tp), none] ∧
            ((DeskAt K G' H' dk W A past ∧ G' tp = some (.lst [.bl true, .non])) ∨ ∃ A' a', AccOk W A' ∧ A'.rows.length ≤ A'.bound ∧ DeskAt K G' H' dk W A' (past ++ [A]) ∧ AccAt G' a' A' ∧ G' tp = some (.lst [.bl true, .ref a']))) ?_ ?_
          · walk_at "s"
            refine ite2 (fun q => ?_) (fun q => ?_)
            · walk_at "s"
              refine ⟨dk, acc, st, i, wd, rfl, G1, W, A, past, by omega, ⟨O, L1.D, L1.ok, L1.bd, by omega, L1.ac, L1.s, ss, L1.hwd, L1.hW⟩, fun p G2 H2 g2 f2 s2 D2 hp => ?_, fun A2 a2 p G2 H2 g2 f2 s2 ok2 bd2 D2 ac2 hp => ?_⟩
              · walk_at "s"
                exact ⟨G2, p, g2, f2, s2, rfl, .inl ⟨D2, hp⟩⟩
              · walk_at "s"
                exact ⟨G2, p, g2, f2, s2, rfl, .inr ⟨A2, a2, ok2, bd2, D2, ac2, hp⟩⟩
            · walk_at "s"
              refine ⟨dk, acc, st, i, wd, rfl, G1, W, A, past, by omega, ⟨O, L1.D, L1.ok, L1.bd, by omega, L1.ac, L1.s, ss, L1.hwd, L1.hW⟩, fun p G2 H2 g2 f2 s2 D2 hp => ?_, fun A2 a2 p G2 H2 g2 f2 s2 ok2 bd2 D2 ac2 hp => ?_⟩
              · walk_at "s"
                exact ⟨G2, p, g2, f2, s2, rfl, .inl ⟨D2, hp⟩⟩
              · walk_at "s"
                exact ⟨G2, p, g2, f2, s2, rfl, .inr ⟨A2, a2, ok2, bd2, D2, ac2, hp⟩⟩
          · rintro σ H2 ⟨G2, tp, g2, f2, s2, rfl, h2⟩
            rcases h2 with ⟨D2, htp⟩ | ⟨A', a', ok', bd', D2, ac', htp⟩
            · have htp' := g2.up _ _ htp
              walk_at "s"
              refine go_ixL (sq_of htp') (show atI _ ((0 : Nat) : Int) = some (.bl true) from rfl) ?_
              walk_at "s"
              refine go_ixL (sq_of htp') (show atI _ ((1 : Nat) : Int) = some .non from rfl) ?_
              refine ⟨rfl, _, rfl, ?_⟩
              refine ifF (ne_self _) ?_
              walk_at "s"
              exact ⟨G2, A, past, acc, pl, L1.mv g2 f2 s2 D2 L1.ok L1.bd L1.pok (L1.ac.ex g2.ex) (L1.pl.ex_ g2.ex) L1.fst, by omega, _, _, _, rfl⟩
            · have htp' := g2.up _ _ htp
              obtain ⟨pas, hpas, hpp⟩ := L1.pl
              have hpal := Paired.length hpp
              have hplH := g2.up _ _ (g2.ex _ _ hpas)
              walk_at "s"
              refine go_ixL (sq_of htp') (show atI _ ((0 : Nat) : Int) = some (.bl true) from rfl) ?_
              walk_at "s"
              refine go_ixL (sq_of htp') (show atI _ ((1 : Nat) : Int) = some (.ref a') from rfl) ?_
              refine ⟨rfl, _, rfl, ?_⟩
              refine ifT rfl ?_
              walk_at "s"
              intro m1 nm1; generalize hEm1 : upd _ m1 _ = H3; have eH3 := exN nm1 hEm1; have hm1 := atN hEm1; clear hEm1
              refine go_cat (eH3 _ _ hplH) hm1 (by rw [List.length_map]; exact (show _ + 1 ≤ 100000 by omega)) ?_
              intro m2 nm2; generalize hEm2 : upd _ m2 _ = H4; have eH4 := exN nm2 hEm2; have hm2 := atN hEm2; clear hEm2
              have x4 := eH3.trans eH4
              have htp4 := x4 _ _ htp'
              walk_at "s"
              refine go_ixL (sq_of htp4) (show atI _ ((1 : Nat) : Int) = some (.ref a') from rfl) ?_
              walk_at "s"
              have g4 := g2.trans (Gr.pure g2.up x4)
              exact ⟨_, A', past ++ [A], a', m2, L1.mv g4 (f2.trans (Ex.frm x4)) (s2.up g2.up x4) (D2.grow2 x4) ok' bd' (fun B h => by
                rcases List.mem_append.mp h with h | h
                · exact L1.pok B h
                · rw [List.mem_singleton.mp h]
                  exact ⟨L1.ok, L1.bd⟩) ((ac'.ex (Gr.pure g2.up x4).ex)) ⟨pas ++ [acc], by rw [ext_new (fresh_back eH3 nm2), List.map_append]; exact hm2, paired_snoc (paired_mono (fun _ _ z => z.ex g4.ex) hpp) (L1.ac.ex g4.ex)⟩ (by have q := L1.fst; cases past <;> exact q), by (rw [List.length_append]; have : [A].length = 1 := rfl; omega), _, _, _, rfl⟩
      · rintro σ H2 ⟨G2, A2, past2, acc2, pl2, L2, hpl2, v14, v15, v16, rfl⟩
        have hws2 := L2.D.ex_ _ _ L2.hws
        walk_at "s"
        refine ⟨dk, acc2, ws, rfl, G2, W, A2, past2, O, L2.D, L2.ok, L2.ac.ex L2.D.ex_, hws2, fun H3 e3 => ?_⟩
        have L3 := L2.ex_ e3
        generalize ext G2 H2 H3 = G3 at L3
        walk_at "s"
        refine ⟨dk, acc2, W.p, W.L, ss, rfl, G3, W, A2, past2, O, rfl, rfl, L3.D, L3.ok, L3.ac.ex L3.D.ex_, L3.hW.ex L3.D.ex_, fun H4 e4 => ?_⟩
        have L4 := L3.ex_ e4
        walk_at "s"
        exact ⟨_, A2, past2, acc2, pl2, L4, hpl2, _, _, _, rfl⟩
    · rintro σ H ⟨G, A, past, acc, pl, L, hpl, v14, v15, v16, rfl⟩
      exact ⟨G, A, past, acc, pl, L, by omega, _, _, _, rfl⟩
  · rintro σ H ⟨G, A, past, acc, pl, L, hpl, v14, v15, v16, rfl⟩
    walk_at "s"
    refine ⟨dk, pl, ws, rfl, G, W, A, past, O, L.D, by omega, fun B h => (L.pok B h).1, L.pl, L.hws, fun G2 H2 g2 f2 D2 => ?_⟩
    rw [L.fst] at D2
    have B2 := L.B.keep g2 (frm_at f2 (no1 L.nb) L.B.dom)
    have hws2 := g2.ex _ _ L.hws
    have ha2 := L.ha.ex g2.ex
    have nb := L.nb
    obtain ⟨dx2, c2, st2, pt2, D2'⟩ := id D2
    have hd2 := D2'.at_
    walk_at "s"
    refine ⟨_, _, _, rfl, hd2, dkNo (by decide +kernel) (by decide +kernel) (by decide +kernel), ?_⟩
    walk_at "s"
    refine ⟨dk, W.L, rfl, by have := O.len.2; omega, G2, W, _, _, O, D2, first_ok hk1 hk8, by decide, fun A' G3 H3 eA g3 f3 D3 => ?_, fun eN => by (rw [ins_first O hk1] at eN; cases eN)⟩
    have ok3 := (first_ok (W := W) hk1 hk8).ins eA
    rw [ins_first O hk1] at eA
    cases eA
    have B3 := B2.keep g3 (frm_at f3 (no1 nb) B2.dom)
    have hws3 := g3.ex _ _ hws2
    have ha3 := ha2.ex g3.ex
    walk_at "s"
    refine ⟨_, _, rfl, ⟨by rw [SX.S_len]; exact sz_of (by have := O.len.2; omega), rfl⟩, ?_⟩
    rw [SX.S_len]
    walk_at "s"
    intro r1 nr1; generalize hEr1 : upd _ r1 _ = H4; have eH4 := exN nr1 hEr1; have hr1 := atN hEr1; clear hEr1
    walk_at "s"
    intro r2 nr2; generalize hEr2 : upd _ r2 _ = H5; have eH5 := exN nr2 hEr2; have hr2 := atN hEr2; clear hEr2
    walk_at "s"
    intro r3 nr3; generalize hEr3 : upd _ r3 _ = H6; have eH6 := exN nr3 hEr3; have hr3 := atN hEr3; clear hEr3
    have x6 := eH4.trans (eH5.trans eH6)
    have g6 := Gr.pure g3.up x6
    have D6 := D3.grow2 x6
    have B6 := B3.grow2 x6
    have lst : ∀ k : Nat, ∀ r H', Ex H5 H' → H' r = some (.lst [.ref r2, .non, .int (k : Int)]) → AccAt H' r ⟨[.kn W.L], none, k⟩ := fun k r H' e h => ⟨r2, .non, h, ⟨[r1], e _ _ hr2, .cons (e _ _ (eH5 _ _ hr1)) .nil⟩, rfl⟩
    have hws6 := g6.ex _ _ hws3
    have q1 : (ext G3 H3 H6) r1 = some (.lst [.str (SX.S W.L), .int (W.L.length : Int)]) := by rw [ext_new nr1]; exact eH6 _ _ (eH5 _ _ hr1)
    have q2 : (ext G3 H3 H6) r2 = some (.lst [.ref r1]) := by rw [ext_new (fresh_back eH4 nr2)]; exact eH6 _ _ hr2
    have ha6 := ha3.ex g6.ex
    walk_at "s"
    refine ⟨dk, r3, ws, rfl, _, W, _, _, O, D6, ok3, lst _ _ _ eH6 hr3, g6.up _ _ hws6, fun H7 e7 => ?_⟩
    have D7 := D6.grow2 e7
    have B7 := B6.grow2 e7
    have g7 := Gr.pure D6.ex_ e7
    have hws7 := g7.ex _ _ hws6
    have ha7 := ha6.ex g7.ex
    generalize ext (ext G3 H3 H6) H6 H7 = G7 at D7 B7 hws7 ha7 g7
    walk_at "s"
    intro r4 nr4; generalize hEr4 : upd _ r4 _ = H8; have eH8 := exN nr4 hEr4; have hr4 := atN hEr4; clear hEr4
    have D8 := D7.grow2 eH8
    have B8 := B7.grow2 eH8
    have g8 := Gr.pure D7.ex_ eH8
    have hws8 := g8.ex _ _ hws7
    have ha8 := ha7.ex g8.ex
    have hr4 : (ext G7 H7 H8) r4 = some (.lst [.ref fa]) := by rw [ext_new nr4]; exact hr4
    generalize ext G7 H7 H8 = G8 at D8 B8 hws8 ha8 hr4 g8
    walk_at "s"
    refine ⟨dk, r4, ws, rfl, G8, W, _, _, O, D8, (show 0 + 1 ≤ 100 by decide), fun B h => by (rw [List.mem_singleton.mp h]; exact first_ok hk1 hk8), ⟨[fa], hr4, .cons ha8 .nil⟩, hws8, fun G9 H9 g9 f9 D9 => ?_⟩
    have B9 := B8.keep g9 (frm_at f9 (no1 nb) B8.dom)
    walk_at "s"
    intro r5 nr5; generalize hEr5 : upd _ r5 _ = H10; have eH10 := exN nr5 hEr5; have hr5 := atN hEr5; clear hEr5
    have B10 := B9.grow2 eH10
    walk_at "s"
    have q1' := eH10 _ _ (g9.up _ _ (g9.ex _ _ (g8.ex _ _ (g7.ex _ _ q1))))
    have q2' := eH10 _ _ (g9.up _ _ (g9.ex _ _ (g8.ex _ _ (g7.ex _ _ q2))))
    exact ⟨bs, r5, ws, rfl, _, W, _, _, O, B10, (first_ok (k := 8) (by decide) (by decide)).ins (ins_first O (by decide)), ⟨r2, .non, hr5, ⟨[r1], q2', .cons q1' .nil⟩, rfl⟩, eH10 _ _ (g9.up _ _ (g9.ex _ _ hws8)), fun H11 _ => k H11⟩
end
end Dk
end
section
set_option Elab.async false
set_option linter.all false
set_option maxRecDepth 100000
set_option maxHeartbeats 0
open PySem PySem.W PySem.Calls PyProof.Rows
theorem PySem.Challenge.cw_datelessrolls_k85_whole_undo_holds : PySem.Challenge.rw_datelessrolls_k85_whole_undo.Holds := by
  refine whole_of fun said => ?_
  refine HandSHeadRun.head_any (r := OpenLaw.row PySem.Challenge.rw_datelessrolls_k85_whole_undo) (q := Dk.qv) (H := Dk.hookK) (ob := Dk.gT) (M := 20000) (loose := Dk.names) (d := HandSHeadRun.topDef Dk.RR.prog 120) (kwd := []) Dk.gT_eq
    (by kernel_rfl) (fun s => by kernel_rfl) Dk.runAll (by kernel_rfl) (by kernel_rfl) (by kernel_rfl) (by rfl) said (by decide +kernel) ⟨rfl, rfl, rfl, rfl, rfl, by decide +kernel⟩ ?hw ?hc
  case hw => w_witness2
  case hc =>
    refine L2.walk_ofE (l := PySem.Challenge.rw_datelessrolls_k85_whole_undo) (n := 63) (k := 13) (x := "_law_script") (CX := L2.CX0) rfl (by decide) (by kernel_rfl) ⟨rfl, by decide, by decide⟩ ?F (fun _ _ _ _ z => z)
    intro w mg fa h Y G hmg0
    obtain ⟨K, KX, c⟩ := Y
    have hmg : mg ("law" : PySem.Str) = some (.ref fa) := by
      have e : (HandSHeadRun.topDef Dk.RR.prog 120).name = ("law" : PySem.Str) := by kernel_rfl
      rw [← e]
      exact hmg0
    have T : Dk.Tx w K mg := ⟨c, h, KX, G⟩
    have e := hmg.symm.trans T.g_law
    cases e
    exact ⟨K, Dk.fdOf K (Dk.a_law K), Dk.sp_law K, KX, fun s v => (T.d_law).bindsA (ps := ["_law_script"]) (fun _ _ _ _ _ _ us hl => match us, hl with | [_], _ => rfl) s [v] rfl,
      fun H a ns hl _ hS => ⟨a, rfl, ns, Nat.le_trans hl (by decide), hS, fun _ => rfl⟩, fun base _ _ => Dk.ok_law T⟩
end
