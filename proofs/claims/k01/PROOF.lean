import PyProof.Rows.All
import Wide.All
import OpenK.AllK
import Wide.FinOn
import HandS.Codes
import HandS.ExcField
import HandS.ExcInit
import HandS.ForExc
import HandS.ForMost
import HandS.Lambda
import HandS.Nested
import HandS.EndTab
import HandS.HeadHook4
import HandS.HeadHook2
import HandS.Head2
import HandS.HeadEnd
import HandS.Ends
import HandS.NestedK
import KE.KExcSuper
import KE.KStateDown
import HandS.ExcValue
import HandS.Small
import HandS.Walk
import HandS.Wide
import HandS.Text
import HandS.IsInst
import HandS.Deep
import PyProof.ListStr
import PyProof.Rows.SeqMore
import HandS.More
import HandS.Dict
import HandS.Comp
import HandS.DictComp
import HandS.ExcIs
import HandS.ExcOwn
import KE.GoesNew
import KE.GoesMore
import HandS.Iter
import HandS.RevTup
import HandS.Conv
import KE.KEqNest
import HandS.DeepEq
import HandS.Sort
import HandS.OwnEq
import HandS.Defaults
import PyProof.TupleOfStr
import HandS.SortKw
import KE.SortKeyHeap
import KE.SortData
import KE.KSortKey
import HandS.MapJoin
import HandS.WideBits
import PyProof.JoinWalk
import KE.LtData
import PyProof.StrLawsIn
import PyProof.Rows.StrLawsPart
import HandS.DictTup
import HandS.Zip
import PyProof.SumWalkG
import PyProof.WalksMore
import PyProof.Rows.SumAny
import KE.DataEq
import HandS.TupAny
import KE.DataCmp
import HandS.TupMul
import KE.KDictDisplayH
import HandS.Style
import PyProof.Rows.StrStep
import KE.GoesEnum
import KE.KTup
import PyProof.ReprRoads
import HandS.RaiseMore
import PyProof.ReprLen
import PyProof.Rows.ReprOcc
import PyProof.DictMoreH
import HandS.TupLen
import OpenK.KMeth
import PyProof.NeKinds
import HandS.Finally
import KE.KExcIs
import PyProof.RowDictHeap
import PySem.Challenge.RW_madeanew_k01_errors_of_the_package
set_option Elab.async false
set_option linter.all false
set_option maxRecDepth 100000
set_option maxHeartbeats 4000000
namespace Ip
open PySem L2 PySem.Spec PyProof.Rows PySem.W NdefX
def tys : List String := ["NoneType", "bool", "int", "str", "tuple", "list", "dict"]
def excC (K : PySem.W.Frag) (x : Str) : Bool := decide (PySem.W.findIn K (.ref (He.ga K x)) "__getattribute__" = some (some (.builtin "BaseException.__getattribute__"))) && (decide (PySem.W.findIn K (.ref (He.ga K x)) "__getattr__" = some none) && (decide (PySem.W.subIn K (.ref (He.ga K x)) (.type "BaseException") = some true) &&
  (PySem.W.hasDictIn K (He.ga K x) && (decide (PySem.W.findIn K (.ref (He.ga K x)) "__class__" = some (some (.builtin "object.__class__"))) && (decide (PySem.W.specialIn K (.builtin "object.__class__") "__get__" = some (some (.builtin "getset_descriptor.__get__"))) &&
  (decide (PySem.W.takesIn K (.builtin "object.__class__") = some true) && decide (PySem.W.mroIn K (He.ga K x) (.type "object") = some true)))))))
def obsX (fa : List He.Fa) (fn : List He.DefD) (xs : List (PySem.W.Frag → Bool)) (K : PySem.W.Frag) : He.AlD := (((fa.all fun f => f.ok K) && fn.all fun d => d.ok K) && xs.all fun x => x K, fn.map fun d => He.fnW K d.at_)
def SaysX (fa : List He.Fa) (fn : List He.DefD) (xs : List (PySem.W.Frag → Bool)) (K : PySem.W.Frag) : Prop := obsX fa fn xs K = He.valD fn
def supBodyB (fn v : Str) : FuncBody → Bool
  | .stmts [.Expr (.Call (.Attribute (.Call (.Name s1 _) [] [] _) m1 p2) [.Constant (.str _) _ _] [] p4) _, .Assign [.Attribute (.Name s2 _) f2 _] (.Name v2 _) _] =>
    decide (s1 = "super") && (decide (m1 = "__init__") && (decide (s2 = "self") && (decide (f2 = fn) && (decide (v2 = v) && (p2.endLine == p4.line)))))
  | _ => false
def supParB (v : Str) : Arguments → Bool
  | ⟨[], [⟨a1, _, _⟩, ⟨a2, _, _⟩], none, [], [], none, []⟩ => decide (a1 = "self") && decide (a2 = v)
  | _ => false
def supCloB (K : Frag) (C : Addr) : List (Str × Addr) → Bool
  | [(c1, cc)] => decide (c1 = "__class__") && (match K.lookup cc with
    | some ⟨_, _, .cell (some (.ref D)), _⟩ => decide (D = C)
    | _ => false)
  | _ => false
def supCodeB (K : Frag) (fl q : Str) : Value → Bool
  | .ref cda => codeIn K (.ref cda) q && (match K.lookup cda with
    | some ⟨_, _, .fields vs, _⟩ => (match (vs[2]? : Option Value) with
      | some (.str f _) => decide (f = fl)
      | _ => false)
    | _ => false)
  | _ => false
def supClsB (K : Frag) (C : Addr) : Bool := match K.lookup C with
  | some ⟨.type "type", _, .cls cd, sl⟩ => (match cd.mro, sl.toList with
    | .ref C' :: bm, [_, _, _, _, some (.builtin n), _] => decide (C' = C) && (decide (n = "ValueError.__new__") && (!cd.hasDel && (cd.hasDict && PySem.HandSPX.refsVE bm)))
    | _, _ => false)
  | _ => false
def supK (fl : Str) (x fn v : Str) (K : Frag) : Bool :=
  supClsB K (He.ga K x) && (decide (findIn K (.ref (He.ga K x)) "__setattr__" = some (some (.builtin "object.__setattr__"))) && (decide (subIn K (.ref (He.ga K x)) (.type "BaseException") = some true) && (decide (typeIn K (.ref (He.ga K x)) = some (.type "type")) && (keepIn K (.ref (He.ga K x)) &&
  (decide (findIn K (.ref (He.ga K x)) fn = some none) && (decide (ks_superIn K (He.ga K x) (He.ga K x) "__init__" = some (some (.builtin "ValueError.__init__"))) && (decide (subIn K (.ref (He.ga K x)) (.type "ValueError") = some true) && (decide (mroIn K (He.ga K x) (.ref (He.ga K x)) = some true) &&
  (decide (nsIn K cStatics "thirdparty.any" = some none) && (decide (nsIn K mainGlobals "super" = some none) && (decide (findIn K (.ref (He.ga K x)) "__init__" = some (some (.ref (He.ma K (He.ga K x) "__init__")))) && (decide (typeIn K (.ref (He.ma K (He.ga K x) "__init__")) = some (.type "function")) &&
  (match K.lookup (He.ma K (He.ga K x) "__init__") with
    | some ⟨_, _, .func fd, _⟩ => supBodyB fn v fd.body && (supParB v fd.params && (supCloB K (He.ga K x) fd.closure && (supCodeB K fl fd.qualname fd.code && (decide (fd.globals = mainGlobals) && (decide (fd.builtins = builtinsNs) && (decide (fd.defaults = .none) && (decide (fd.kwdefaults = .none) && (nscB [("self" : Str), v, "__class__"] [("self" : Str), v] ["__class__"] fd.scope && decide (fd.scope.names.lookup ("super" : Str) = some .globalImplicit)))))))))
    | _ => false)))))))))))))
def kitTs (K : Frag) (T : Str) : Bool := tys.all fun t => decide (kitOne K (.type t) (.ref (He.ga K T)) = some false)
end Ip
set_option maxHeartbeats 4000000
namespace Wk01
open PySem L2 PySem.Spec PyProof.Rows Ip
def top (i : Nat) : Stmt := PySem.Challenge.pw_madeanew_k01_errors_of_the_package.main.body.getD i (.Pass ⟨0, 0, 0, 0⟩)
abbrev N_errs : List Str := ["NoNumber", "NoValues", "NoRow", "NoSigns", "NoText", "NoSort", "NoGuard", "NoRoom", "NoDegree", "NoMove", "NoBack", "NoOther", "NoMost", "NoEven", "MadeError", "NoPolynomial", "NoList", "NoWriters", "NoWriter", "Open"]
abbrev s_law_hand : Stmt := top 22
abbrev N_law_hand : List Str := ["_law_script", "_law_cells", "_law_cell"]
abbrev P_law_hand : List Str := ["_law_script"]
abbrev s_law_kinds : Stmt := top 28
abbrev N_law_kinds : List Str := ["_law_e", "_law_first", "_law_more", "_law_third", "_law_fourth", "_law_fifth"]
abbrev P_law_kinds : List Str := ["_law_e"]
abbrev s_law_right : Stmt := top 29
abbrev N_law_right : List Str := ["_law_e", "_law_which", "_law_k"]
abbrev P_law_right : List Str := ["_law_e", "_law_which"]
abbrev s_law_plain_error : Stmt := top 27
abbrev N_law_plain_error : List Str := ["_law_which"]
abbrev P_law_plain_error : List Str := ["_law_which"]
abbrev s_law_mixed : Stmt := top 23
abbrev N_law_mixed : List Str := ["_law_number_here", "_law_count", "_law_one"]
abbrev P_law_mixed : List Str := ["_law_number_here", "_law_count"]
abbrev s_law_draw : Stmt := top 24
abbrev N_law_draw : List Str := ["_law_hand_here", "_law_many", "_law_cell", "_law_digit"]
abbrev P_law_draw : List Str := ["_law_hand_here", "_law_many"]
abbrev s_law_number : Stmt := top 25
abbrev N_law_number : List Str := ["_law_hand_here", "_law_kind", "_law_number_here"]
abbrev P_law_number : List Str := ["_law_hand_here"]
abbrev s_law_value : Stmt := top 30
abbrev N_law_value : List Str := ["_law_hand_here", "_law_kind", "_law_number_here"]
abbrev P_law_value : List Str := ["_law_hand_here"]
abbrev s_law : Stmt := top 31
abbrev N_law : List Str := ["_law_script", "_law_hand_here", "_law_which", "_law_turn", "_law_value_here", "_law_shown", "_law_k"]
abbrev P_law : List Str := ["_law_script"]
end Wk01
namespace Ip
open PySem PySem.W PySem.Spec PyProof.Rows
def obsLG (as : List Addr) (fa : List He.Fa) (fn : List He.DefD) (xs : List (Frag → Bool)) (g : Addr → Option Obj) : He.AlD := obsX fa fn xs (He.frG g as)
def hookL (as : List Addr) (fa : List He.Fa) (fn : List He.DefD) (xs : List (Frag → Bool)) : PySem.W.Hook where
  α := He.AlD
  obs := fun s => obsLG as fa fn xs s.heap.get?
  val := fun _ => He.valD fn
  says := fun _ h => ∃ K : Frag, K.In h ∧ SaysX fa fn xs K
  of := fun _ _ e => ⟨_, He.frG_in, e⟩
  keeps := fun _ _ _ ⟨K, hK, c⟩ k => ⟨K, Frag.In.keeps hK k, c⟩
theorem obsLG_eq {as : List Addr} {fa : List He.Fa} {fn : List He.DefD} {xs : List (Frag → Bool)} {g : Addr → Option Obj} {s : Shared} (h : ∀ a, g a = s.heap.get? a) : obsLG as fa fn xs g = (hookL as fa fn xs).obs s := by
  rw [show g = s.heap.get? from funext h]; rfl
end Ip
namespace Ip
open PySem L2 PySem.Spec PyProof.Rows PySem.W
/-- the table of modules stands in the written part -/
def sysB (K : Frag) : Bool := match K.lookup sysModules with
  | some o => o.cls == .type "dict"
  | none => false
def isaX (T c : Str) : Bool := c == T || T == "MadeError" || T == "ValueError"
def excA (K : Frag) (ns : List Str) : Bool := ns.all fun c => excC K c
def excT (K : Frag) (ns : List Str) (T : Str) : Bool := ns.all fun c => decide (kitOne K (.ref (He.ga K c)) (.ref (He.ga K T)) = some (isaX T c))
def excV (K : Frag) (ns : List Str) : Bool := ns.all fun c => decide (kitOne K (.ref (He.ga K c)) (.type "ValueError") = some true)
end Ip
set_option maxHeartbeats 0
namespace Wk01
open PySem L2 PySem.Spec PyProof.Rows Ip
abbrev FILE : Str := "/claim/cut.py"
def d_law_hand : He.DefD := ⟨("_law_hand", none), "_law_hand", "_law_hand", defArgs s_law_hand, defBody s_law_hand, defScope s_law_hand, [], []⟩
def d_law_kinds : He.DefD := ⟨("_law_kinds", none), "_law_kinds", "_law_kinds", defArgs s_law_kinds, defBody s_law_kinds, defScope s_law_kinds, [], []⟩
def d_law_right : He.DefD := ⟨("_law_right", none), "_law_right", "_law_right", defArgs s_law_right, defBody s_law_right, defScope s_law_right, [], []⟩
def d_law_plain_error : He.DefD := ⟨("_law_plain_error", none), "_law_plain_error", "_law_plain_error", defArgs s_law_plain_error, defBody s_law_plain_error, defScope s_law_plain_error, [], []⟩
def d_law_mixed : He.DefD := ⟨("_law_mixed", none), "_law_mixed", "_law_mixed", defArgs s_law_mixed, defBody s_law_mixed, defScope s_law_mixed, [], []⟩
def d_law_draw : He.DefD := ⟨("_law_draw", none), "_law_draw", "_law_draw", defArgs s_law_draw, defBody s_law_draw, defScope s_law_draw, [], []⟩
def d_law_number : He.DefD := ⟨("_law_number", none), "_law_number", "_law_number", defArgs s_law_number, defBody s_law_number, defScope s_law_number, [], []⟩
def d_law_value : He.DefD := ⟨("_law_value", none), "_law_value", "_law_value", defArgs s_law_value, defBody s_law_value, defScope s_law_value, [], []⟩
def d_law : He.DefD := ⟨("law", none), "law", "law", defArgs s_law, defBody s_law, defScope s_law, [], []⟩
def fns : List He.DefD := ([d_law_hand, d_law_kinds, d_law_right, d_law_plain_error, d_law_mixed, d_law_draw, d_law_number, d_law_value, d_law] : List He.DefD)
def fas : List He.Fa := ([.glo "_law_hand", .glo "_law_kinds", .glo "_law_right", .glo "_law_plain_error", .glo "_law_mixed", .glo "_law_draw", .glo "_law_number", .glo "_law_value", .glo "law", .glo "MadeError", .glo "NoBack", .glo "NoDegree", .glo "NoEven", .glo "NoGuard", .glo "NoList", .glo "NoMost", .glo "NoMove", .glo "NoNumber", .glo "NoOther", .glo "NoPolynomial", .glo "NoRoom", .glo "NoRow", .glo "NoSigns", .glo "NoSort", .glo "NoText", .glo "NoValues", .glo "NoWriter", .glo "NoWriters", .glo "Open", .free "ValueError"] : List He.Fa) ++ ([.free "abs", .free "int", .free "isinstance", .free "len", .free "range", .free "repr", .free "str", .free "sum", .exc "MadeError", .exm "MadeError" "MadeError" true, .exc "NoBack", .exm "NoBack" "NoBack" true, .exc "NoDegree", .exm "NoDegree" "NoDegree" true, .exc "NoEven", .exm "NoEven" "NoEven" true, .exc "NoGuard", .exm "NoGuard" "NoGuard" true, .exc "NoMost", .exm "NoMost" "NoMost" true, .exc "NoMove", .exm "NoMove" "NoMove" true, .exc "NoNumber", .exm "NoNumber" "NoNumber" true, .exc "NoOther", .exm "NoOther" "NoOther" true, .exc "NoRoom", .exm "NoRoom" "NoRoom" true, .exc "NoRow", .exm "NoRow" "NoRow" true] : List He.Fa) ++ ([.exc "NoSigns", .exm "NoSigns" "NoSigns" true, .exc "NoSort", .exm "NoSort" "NoSort" true, .exc "NoText", .exm "NoText" "NoText" true, .exc "NoValues", .exm "NoValues" "NoValues" true] : List He.Fa)
def xss : List (PySem.W.Frag → Bool) := ([supK FILE "NoList" "index" "index", supK FILE "NoPolynomial" "index" "index", supK FILE "NoWriter" "part" "part", supK FILE "NoWriters" "index" "index", supK FILE "Open" "most" "most", fun K => excA K N_errs, fun K => excT K N_errs "MadeError", fun K => excT K N_errs "NoBack", fun K => excT K N_errs "NoDegree", fun K => excT K N_errs "NoEven", fun K => excT K N_errs "NoGuard", fun K => excT K N_errs "NoList", fun K => excT K N_errs "NoMost", fun K => excT K N_errs "NoMove", fun K => excT K N_errs "NoNumber", fun K => excT K N_errs "NoOther", fun K => excT K N_errs "NoPolynomial", fun K => excT K N_errs "NoRoom", fun K => excT K N_errs "NoRow", fun K => excT K N_errs "NoSigns", fun K => excT K N_errs "NoSort", fun K => excT K N_errs "NoText", fun K => excT K N_errs "NoValues", fun K => excT K N_errs "NoWriter", fun K => excT K N_errs "NoWriters", fun K => excT K N_errs "Open", fun K => excV K N_errs, sysB, fun K => excC K "NoList", fun K => excC K "NoPolynomial"] : List (PySem.W.Frag → Bool)) ++ ([fun K => excC K "NoWriter", fun K => excC K "NoWriters", fun K => excC K "Open"] : List (PySem.W.Frag → Bool))
def loose : List Str := (["MadeError", "NoNumber", "NoValues", "NoRow", "NoSigns", "NoText", "NoSort", "NoGuard", "NoRoom", "NoDegree", "NoMove", "NoBack", "NoOther", "NoMost", "NoEven", "NoPolynomial", "NoList", "NoWriters", "NoWriter", "Open", "_law_hand", "_law_mixed", "_law_draw", "_law_number", "_law_whole", "_law_plain_error", "_law_kinds", "_law_right", "_law_value"] : List Str)
abbrev ROWX : PySem.W.OpenRow := PySem.W.OpenLaw.row PySem.Challenge.rw_madeanew_k01_errors_of_the_package
def asK : List Addr := cStatics :: sysModules :: [3, 6, 4, 24, 37, 49, 61, 73, 85, 97, 109, 121, 133, 145, 157, 169, 181, 193, 214, 235, 256, 277, 298, 305, 312, 319, 326, 333, 340, 347, 352, 359, 364, 0, 23, 36, 48, 60, 72, 84, 96, 108, 120, 132, 144, 156, 168, 180, 192, 213, 234, 255, 276, 297, 304, 311, 318, 325, 332, 339, 346, 351, 358, 363, 22, 25, 35, 47, 59, 71, 83, 95, 107, 119, 131, 143, 155, 167, 179, 191, 211, 212, 232, 233, 253, 254, 274, 275, 295, 296, 301, 302, 303, 306, 307, 308, 309, 310, 313, 314, 315, 316, 317, 320, 321, 322, 323, 324, 327, 328, 329, 330, 331, 334, 335, 336, 337, 338, 341, 342, 343, 344, 345, 348, 349, 350, 353, 354, 355, 356, 357, 360, 361, 362, 210, 199, 231, 220, 252, 241, 273, 262, 294, 283, 205, 206, 207, 208, 209, 226, 227, 228, 229, 230, 247, 248, 249, 250, 251, 268, 269, 270, 271, 272, 289, 290, 291, 292, 293]
abbrev hk : PySem.W.Hook := hookL asK fas fns xss
def ob (s : PySem.W.SharedT) : He.AlD := obsLG asK fas fns xss (HandSHeadRun.getT s)
theorem ob_eq (s : PySem.W.SharedT) : ob s = hk.obs s.abs := obsLG_eq (HandSHeadRun.getT_eq s)
theorem run (w : World) : HandSHeadRun.RunEq ROWX (PySem.W.view ROWX.prog [31]) hk ob 8000 loose w := by
  intro os
  kernel_rfl
end Wk01
namespace Ip
open PySem
/-- the lines of the defs within defs of this law's text, and their names -/
def nmTab : List (Nat × Str) := []
end Ip
namespace Ip
open PySem L2
inductive D where
  | non | bl (b : Bool) | int (i : Int) | str (s : Str)
  | tup (ds : List D) | lst (ds : List D)
  | dic (ks ds : List D)
  | dit (ks : List (List Key)) (ds : List D)
  | obj (c : Str) (ns : List Str) (ds : List D)
  /-- the one list that a ghost slot owns -/
  | opq
  /-- a function made by a def within a def, with what it captured -/
  | clo (x : Str) (ds : List D)
  /-- an error of an own class, held as a value: its class -/
  | exc (c : Str)
  deriving Inhabited
def kD : Key → D
  | .inl i => .int i
  | .inr x => .str x
def kT (k : List Key) : D := .tup (k.map kD)
/-- facts of the text: the written part, the classes' addresses -/
structure Gx where
  K : PySem.W.Frag
  ct : Str → Option Addr
def opqNm : Str := "#cells"
/-- where a captured value stands -/
def capKey (x : Str) (i : Nat) : Str := ⟨x.cps.push (97 + i)⟩
/-- an error of the class C stands at a -/
def ExcAt (H : Hp) (C a : Addr) : Prop := H a = some (ExO (.ref C) a) ∨ ∃ dx fs, H a = some (exo a C (some dx)) ∧ H dx = some (exd dx fs)
mutual
/-- v stands for d in the heap H -/
inductive RV (g : Gx) (H : Hp) : D → V → Prop where
  | non : RV g H .non .non
  | bl (b : Bool) : RV g H (.bl b) (.bl b)
  | int (i : Int) : RV g H (.int i) (.int i)
  | str (x : Str) : RV g H (.str x) (.str x)
  | tup {a : Addr} {vs : List V} {ds : List D} : H a = some (.tup vs) → RVs g H ds vs → RV g H (.tup ds) (.ref a)
  | lst {a : Addr} {vs : List V} {ds : List D} : SqL g.K H a vs → RVs g H ds vs → RV g H (.lst ds) (.ref a)
  | dK {a : Addr} {ks : List Key} {vs : List V} {ds : List D} : Rd H a (.dK (ks.zip vs)) → ks.length = vs.length → RVs g H ds vs → RV g H (.dic (ks.map kD) ds) (.ref a)
  | dT {a : Addr} {ks : List (List Key)} {vs : List V} {ds : List D} : Rd H a (.dT (ks.zip vs)) → ks.length = vs.length → RVs g H ds vs → RV g H (.dit ks ds) (.ref a)
  | obj {a C dx : Addr} {c : Str} {ns : List Str} {vs : List V} {ds : List D} : H a = some (.ins C dx (ns.zip vs)) → g.ct c = some C → ns.length = vs.length → RVs g H ds vs → RV g H (.obj c ns ds) (.ref a)
  | opq {a : Addr} : g.ct opqNm = some a → RV g H .opq (.ref a)
  | clo {a : Addr} {x : Str} {as : List Addr} {ds : List D} : g.ct x = some a → (∀ i b, as[i]? = some b → g.ct (capKey x i) = some b) → RVs g H ds (as.map V.ref) → RV g H (.clo x ds) (.ref a)
  | exc {a C : Addr} {c : Str} : g.ct c = some C → ExcAt H C a → RV g H (.exc c) (.ref a)
inductive RVs (g : Gx) (H : Hp) : List D → List V → Prop where
  | nil : RVs g H [] []
  | cons {d : D} {v : V} {ds : List D} {vs : List V} : RV g H d v → RVs g H ds vs → RVs g H (d :: ds) (v :: vs)
end
def NotD : HO → Prop
  | .dK _ => False
  | .dT _ => False
  | .tbl _ => False
  | _ => True
/-- the name of the law's one lambda; what stands in the tables of code objects -/
def lamNm : Str := "_law_poly.<locals>.<lambda>"
def nmAll (l c : Nat) : Str := bif c == 4 then (nmTab.lookup l).getD lamNm else lamNm
abbrev Tb (A : Hp) (P : Addr) : Prop := NdefX.TabN A P nmAll
def tabKey : Str := "<lambda>"
/-- the tables' keys -/
def tabKs : List Str := [tabKey, "#Tpaired", "#Tadded", "#Tmultiplied", "#Tjoined", "#Tchosen", "#Tahead", "#Tjoint_of", "#Talone"]
def TabAt (ct : Str → Option Addr) (P : Addr) : Prop := ∃ x, x ∈ tabKs ∧ ct x = some P
def TabsOk (ct : Str → Option Addr) (A : Hp) : Prop := ∀ P, TabAt ct P → Tb A P
structure HLe (A B : Hp) : Prop where
  o : ∀ b o, A b = some o → NotD o → B b = some o
  k : ∀ b kvs, Rd A b (.dK kvs) → Rd B b (.dK kvs)
  t : ∀ b kvs, Rd A b (.dT kvs) → Rd B b (.dT kvs)
  tb : ∀ P, Tb A P → Tb B P
theorem HLe.refl (A : Hp) : HLe A A := ⟨fun _ _ h _ => h, fun _ _ h => h, fun _ _ h => h, fun _ h => h⟩
theorem HLe.trans {A B C : Hp} (x : HLe A B) (y : HLe B C) : HLe A C :=
  ⟨fun b o h n => y.o b o (x.o b o h n) n, fun b k h => y.k b k (x.k b k h), fun b k h => y.t b k (x.t b k h), fun P h => y.tb P (x.tb P h)⟩
theorem HLe.of_same {A B : Hp} (s : Same A B) : HLe A B :=
  ⟨fun b o h _ => s b o h, fun b k h => h.elim (fun e => .inl (s _ _ e)) fun ⟨o, e⟩ => .inr ⟨o, s _ _ e⟩, fun b k h => h.elim (fun e => .inl (s _ _ e)) fun ⟨o, e⟩ => .inr ⟨o, s _ _ e⟩, fun _ h => h.ext s⟩
theorem HLe.rd {A B : Hp} (s : HLe A B) {a : Addr} {u : HO} (hn : NotD u) (hf : ∀ o, NotD (.frz o u)) (h : Rd A a u) : Rd B a u :=
  h.elim (fun e => .inl (s.o _ _ e hn)) fun ⟨o, e⟩ => .inr ⟨o, s.o _ _ e (hf o)⟩
theorem HLe.sqL {A B : Hp} (s : HLe A B) {K : PySem.W.Frag} {a : Addr} {vs : List V} (h : SqL K A a vs) : SqL K B a vs :=
  h.elim (fun e => .inl (s.rd trivial (fun _ => trivial) e)) .inr
theorem ExcAt.mono {A B : Hp} {C a : Addr} (h : ExcAt A C a) (s : ∀ b o, A b = some o → ∀ φ, o = .ext φ → B b = some o) : ExcAt B C a :=
  h.elim (fun e => .inl (s _ _ e _ rfl)) fun ⟨dx, fs, e1, e2⟩ => .inr ⟨dx, fs, s _ _ e1 _ rfl, s _ _ e2 _ rfl⟩
mutual
theorem RV.mono {g : Gx} {A B : Hp} (s : HLe A B) : ∀ {d : D} {v : V}, RV g A d v → RV g B d v
  | _, _, .non => .non
  | _, _, .bl b => .bl b
  | _, _, .int i => .int i
  | _, _, .str x => .str x
  | _, _, .tup h r => .tup (s.o _ _ h trivial) (RVs.mono s r)
  | _, _, .lst h r => .lst (s.sqL h) (RVs.mono s r)
  | _, _, .dK h l r => .dK (s.k _ _ h) l (RVs.mono s r)
  | _, _, .dT h l r => .dT (s.t _ _ h) l (RVs.mono s r)
  | _, _, .obj h c l r => .obj (s.o _ _ h trivial) c l (RVs.mono s r)
  | _, _, .opq h => .opq h
  | _, _, .clo h k r => .clo h k (RVs.mono s r)
  | _, _, .exc h k => .exc h (k.mono fun b o e φ z => by subst z; exact s.o b _ e trivial)
theorem RVs.mono {g : Gx} {A B : Hp} (s : HLe A B) : ∀ {ds : List D} {vs : List V}, RVs g A ds vs → RVs g B ds vs
  | _, _, .nil => .nil
  | _, _, .cons h r => .cons (RV.mono s h) (RVs.mono s r)
end
theorem RVs.length {g : Gx} {A : Hp} : ∀ {ds : List D} {vs : List V}, RVs g A ds vs → ds.length = vs.length
  | _, _, .nil => rfl
  | _, _, .cons _ r => by simp [RVs.length r]
theorem RVs.get {g : Gx} {A : Hp} : ∀ {ds : List D} {vs : List V} {i : Nat} {d : D}, RVs g A ds vs → ds[i]? = some d → ∃ v, vs[i]? = some v ∧ RV g A d v
  | _, _, _, _, .nil, e => by simp at e
  | _, _, 0, _, .cons r _, e => by simp at e; subst e; exact ⟨_, rfl, r⟩
  | _, _, i + 1, d, .cons _ t, e => by
    obtain ⟨u, h1, h2⟩ := RVs.get (i := i) (d := d) t (by simpa using e)
    exact ⟨u, by simpa using h1, h2⟩
theorem RVs.app {g : Gx} {A : Hp} : ∀ {ds es : List D} {vs ws : List V}, RVs g A ds vs → RVs g A es ws → RVs g A (ds ++ es) (vs ++ ws)
  | _, _, _, _, .nil, s => s
  | _, _, _, _, .cons r t, s => .cons r (RVs.app t s)
theorem RVs.set {g : Gx} {A : Hp} {d : D} {v : V} (r : RV g A d v) : ∀ {ds : List D} {vs : List V} (i : Nat), RVs g A ds vs → RVs g A (ds.set i d) (vs.set i v)
  | _, _, _, .nil => .nil
  | _, _, 0, .cons _ t => .cons r t
  | _, _, i + 1, .cons q t => .cons q (RVs.set r i t)
theorem RVs.take {g : Gx} {A : Hp} : ∀ {ds : List D} {vs : List V} (n : Nat), RVs g A ds vs → RVs g A (ds.take n) (vs.take n)
  | _, _, 0, _ => .nil
  | _, _, _ + 1, .nil => .nil
  | _, _, n + 1, .cons r t => .cons r (RVs.take n t)
theorem RVs.drop {g : Gx} {A : Hp} : ∀ {ds : List D} {vs : List V} (n : Nat), RVs g A ds vs → RVs g A (ds.drop n) (vs.drop n)
  | _, _, 0, r => r
  | _, _, _ + 1, .nil => .nil
  | _, _, n + 1, .cons _ t => RVs.drop n t
theorem RVs.reverse {g : Gx} {A : Hp} {ds : List D} {vs : List V} (h : RVs g A ds vs) : RVs g A ds.reverse vs.reverse := by
  induction ds generalizing vs with
  | nil => cases h; exact .nil
  | cons d ds ih =>
    cases h with
    | cons r t =>
      rw [List.reverse_cons, List.reverse_cons]
      exact RVs.app (ih t) (.cons r .nil)
theorem RVs.ints {g : Gx} {A : Hp} : ∀ (ns : List Int), RVs g A (ns.map D.int) (ns.map V.int)
  | [] => .nil
  | n :: ns => .cons (.int n) (RVs.ints ns)
theorem RVs.of_ints {g : Gx} {A : Hp} : ∀ {ns : List Int} {vs : List V}, RVs g A (ns.map D.int) vs → vs = ns.map V.int
  | [], _, .nil => rfl
  | n :: ns, _, .cons (.int _) t => by rw [RVs.of_ints t]; rfl
def mask (H : Hp) (M : List Addr) : Hp := fun a => if a ∈ M then none else H a
theorem mask_in {H : Hp} {M : List Addr} {a : Addr} (h : a ∈ M) : mask H M a = none := by unfold mask; rw [if_pos h]
theorem mask_out {H : Hp} {M : List Addr} {a : Addr} (h : a ∉ M) : mask H M a = H a := by unfold mask; rw [if_neg h]
theorem mask_some {H : Hp} {M : List Addr} {a : Addr} {o : HO} (h : mask H M a = some o) : a ∉ M ∧ H a = some o := by
  unfold mask at h
  by_cases q : a ∈ M
  · rw [if_pos q] at h; cases h
  · rw [if_neg q] at h; exact ⟨q, h⟩
theorem mask_same {H : Hp} {M : List Addr} : Same (mask H M) H := fun _ _ h => (mask_some h).2
theorem mask_sub {H : Hp} {M M' : List Addr} (h : ∀ a ∈ M', a ∈ M) : Same (mask H M) (mask H M') := fun b o e => by
  obtain ⟨h1, h2⟩ := mask_some e
  rw [mask_out (fun q => h1 (h b q))]; exact h2
theorem mask_congr {H : Hp} {M M' : List Addr} (h : ∀ a, a ∈ M ↔ a ∈ M') : mask H M = mask H M' := by
  funext a
  unfold mask
  by_cases q : a ∈ M
  · rw [if_pos q, if_pos ((h a).mp q)]
  · rw [if_neg q, if_neg fun z => q ((h a).mpr z)]
/-- all that is not masked is kept -/
theorem mask_keep {H H' : Hp} {M : List Addr} (s : ∀ b o, b ∉ M → H b = some o → H' b = some o) : Same (mask H M) (mask H' M) := fun b o e => by
  obtain ⟨h1, h2⟩ := mask_some e
  rw [mask_out h1]; exact s b o h1 h2
inductive Cont (g : Gx) (H Hm : Hp) (a : Addr) : D → Prop where
  | lst {vs : List V} {ds : List D} : H a = some (.lst vs) → RVs g Hm ds vs → Cont g H Hm a (.lst ds)
  | dK {ks : List Key} {vs : List V} {ds : List D} : H a = some (.dK (ks.zip vs)) → ks.length = vs.length → RVs g Hm ds vs → Cont g H Hm a (.dic (ks.map kD) ds)
  | dT {ks : List (List Key)} {vs : List V} {ds : List D} : H a = some (.dT (ks.zip vs)) → ks.length = vs.length → RVs g Hm ds vs → Cont g H Hm a (.dit ks ds)
  | obj {C dx : Addr} {c : Str} {ns : List Str} {vs : List V} {ds : List D} : H a = some (.ins C dx (ns.zip vs)) → g.ct c = some C → ns.length = vs.length → RVs g Hm ds vs → Cont g H Hm a (.obj c ns ds)
theorem Cont.mono {g : Gx} {H H' A B : Hp} {a : Addr} {d : D} (e : ∀ o, H a = some o → H' a = some o) (s : HLe A B) (h : Cont g H A a d) : Cont g H' B a d := by
  cases h with
  | lst h r => exact .lst (e _ h) (r.mono s)
  | dK h l r => exact .dK (e _ h) l (r.mono s)
  | dT h l r => exact .dT (e _ h) l (r.mono s)
  | obj h c l r => exact .obj (e _ h) c l (r.mono s)
theorem Cont.trk {g : Gx} {H Hm : Hp} {a : Addr} {d : D} (h : Cont g H Hm a d) : H a ≠ none := by
  cases h with
  | lst h _ => rw [h]; simp
  | dK h _ _ => rw [h]; simp
  | dT h _ _ => rw [h]; simp
  | obj h _ _ _ => rw [h]; simp
/-- it is let go: from now on it is read alone -/
theorem Cont.rv {g : Gx} {H Hm : Hp} {a : Addr} {d : D} (h : Cont g H Hm a d) {Hn : Hp} (e : Hn a = H a) (s : HLe Hm Hn) : RV g Hn d (.ref a) := by
  cases h with
  | lst h r => exact .lst (.of (e.trans h)) (r.mono s)
  | dK h l r => exact .dK (.inl (e.trans h)) l (r.mono s)
  | dT h l r => exact .dT (.inl (e.trans h)) l (r.mono s)
  | obj h c l r => exact .obj (e.trans h) c l (r.mono s)
end Ip
namespace Ip
open PySem L2
abbrev Env := List (Option D)
/-- known, and no tuple -/
def Ow : HO → Prop
  | .tup _ => False
  | .tbl _ => False
  | .ext _ => False
  | _ => True
def Hd (H : Hp) (a : Addr) : Prop := H a ≠ none ∧ ∀ o, H a = some o → Ow o
theorem Hd.mk' {H : Hp} {a : Addr} {o : HO} (h : H a = some o) (w : Ow o) : Hd H a := ⟨by rw [h]; simp, fun u e => by rw [h] at e; cases e; exact w⟩
theorem Hd.of {H H' : Hp} {a : Addr} (h : Hd H a) (e : H' a = H a) : Hd H' a := by unfold Hd; rw [e]; exact h
theorem Cont.hd {g : Gx} {H Hm : Hp} {a : Addr} {d : D} (h : Cont g H Hm a d) : Hd H a := by
  cases h with
  | lst h _ => exact .mk' h trivial
  | dK h _ _ => exact .mk' h trivial
  | dT h _ _ => exact .mk' h trivial
  | obj h _ _ _ => exact .mk' h trivial
/-- what stands at an owned slot's address: known, or (raw) as it stood at the activation's entry -/
inductive ContR (g : Gx) (H Hm : Hp) (a : Addr) (z : Option HO) (rw : Prop) : Option D → Prop where
  | own {d : D} : Cont g H Hm a d → ContR g H Hm a z rw (some d)
  | raw : rw → Hd H a → H a = z → ContR g H Hm a z rw none
section
variable {g : Gx} {H H' A B Hm : Hp} {a : Addr} {z : Option HO} {rw : Prop} {o : Option D}
theorem ContR.hd (h : ContR g H Hm a z rw o) : Hd H a := by
  cases h with
  | own c => exact c.hd
  | raw _ h _ => exact h
theorem ContR.trk (h : ContR g H Hm a z rw o) : H a ≠ none := h.hd.1
theorem Hd.same {H H' : Hp} {a : Addr} (h : Hd H a) (e : ∀ o, H a = some o → H' a = some o) : H' a = H a := by
  cases q : H a with
  | none => exact absurd q h.1
  | some o => exact e o q
theorem ContR.mono (e : ∀ o, H a = some o → H' a = some o) (s : HLe A B) (h : ContR g H A a z rw o) : ContR g H' B a z rw o := by
  cases h with
  | own c => exact .own (c.mono e s)
  | raw r h q => exact .raw r (h.of (h.same e)) ((h.same e).trans q)
theorem ContR.cont {d : D} (h : ContR g H Hm a z rw (some d)) : Cont g H Hm a d := by
  cases h with
  | own c => exact c
theorem ContR.get (h : ContR g H Hm a z rw o) (n : ¬ rw) : ∃ d, o = some d ∧ Cont g H Hm a d := by
  cases h with
  | own c => exact ⟨_, rfl, c⟩
  | raw r _ _ => exact absurd r n
theorem ContR.norw (h : ContR g H Hm a z rw o) {z' : Option HO} {rw' : Prop} (n : ¬ rw) : ContR g H Hm a z' rw' o := by
  cases h with
  | own c => exact .own c
  | raw r _ _ => exact absurd r n
end
theorem Tb.mask {H : Hp} {M M' : List Addr} {P : Addr} (h : Tb (mask H M) P) (hd : ∀ a ∈ M', Hd H a) : Tb (mask H M') P := by
  obtain ⟨ps, e, t, c⟩ := h
  have out : ∀ b o, Ip.mask H M b = some o → ¬ Ow o → Ip.mask H M' b = some o := fun b o q n => by
    rw [mask_out fun z => n ((hd b z).2 o (mask_some q).2)]
    exact (mask_some q).2
  refine ⟨ps, out _ _ e (fun z => z), t, fun pos cv hc => ?_⟩
  obtain ⟨c', e1, e2⟩ := c pos cv hc
  exact ⟨c', e1, out _ _ e2 (fun z => z)⟩
theorem Tb.upd {H : Hp} {M : List Addr} {P a : Addr} {o : HO} (h : Tb (Ip.mask H M) P) (hd : Hd H a) : Tb (Ip.mask (L2.upd H a o) M) P := by
  obtain ⟨ps, e, t, c⟩ := h
  have out : ∀ b u, Ip.mask H M b = some u → ¬ Ow u → Ip.mask (L2.upd H a o) M b = some u := fun b u q n => by
    obtain ⟨q1, q2⟩ := mask_some q
    rw [mask_out q1, upd_ne (show b ≠ a from fun z => n (hd.2 u (by rw [← z]; exact q2)))]
    exact q2
  refine ⟨ps, out _ _ e (fun z => z), t, fun pos cv hc => ?_⟩
  obtain ⟨c', e1, e2⟩ := c pos cv hc
  exact ⟨c', e1, out _ _ e2 (fun z => z)⟩
structure Frm (ct : Str → Option Addr) (A B : Hp) : Prop extends HLe A B where
  tab : TabsOk ct A
structure Ex where
  cls : Str
  fld : Option (Str × D)
inductive R (α : Type) where
  | ok (a : α) (ρ : Env) | exn (e : Ex) (ρ : Env) | bad
inductive Fl where
  | nx | rt (d : D) | bk | ct
/-- a def's activation: the classes, the heap at its entry, what its callers own, the parameters that it may change -/
structure Ac where
  ct : Str → Option Addr
  H0 : Hp
  hid : List Addr
  io : List Nat
  ioA : List Addr
  raw : List Nat
def sa (σ : L2.St) (i : Nat) : Addr := match σ[i]? with
  | some (some (.ref a)) => a
  | _ => 0
theorem nem {Γ : List Nat} {i j : Nat} (h : i ∉ Γ) (hj : j ∈ Γ) : j ≠ i := fun e => h (e ▸ hj)
theorem sa_eq {σ : L2.St} {i : Nat} {a : Addr} (h : σ[i]? = some (some (.ref a))) : sa σ i = a := by unfold sa; rw [h]
theorem sa_set {σ : L2.St} {i j : Nat} {v : Option V} (h : j ≠ i) : sa (σ.set i v) j = sa σ j := by
  unfold sa; rw [List.getElem?_set_ne (Ne.symm h)]
def Ms (σ : L2.St) (hid : List Addr) (Γ : List Nat) : List Addr := hid ++ Γ.map (sa σ)
theorem mem_Ms {σ : L2.St} {hid : List Addr} {Γ : List Nat} {a : Addr} : a ∈ Ms σ hid Γ ↔ a ∈ hid ∨ ∃ i, i ∈ Γ ∧ sa σ i = a := by
  unfold Ms; rw [List.mem_append, List.mem_map]
section
variable (K : PySem.W.Frag) (C : Ac)
abbrev gx : Gx := ⟨K, C.ct⟩
structure ST (hid : List Addr) (Γ : List Nat) (ρ : Env) (σ : L2.St) (H : Hp) : Prop where
  len : ρ.length = σ.length
  sub : ∀ a ∈ C.hid, a ∈ hid
  trk : ∀ a ∈ hid, Hd H a
  tmp : ∀ a ∈ hid, a ∈ C.hid ∨ C.H0 a = none
  nd : (Γ.map (sa σ)).Nodup
  dis : ∀ i ∈ Γ, sa σ i ∉ hid
  own : ∀ i ∈ Γ, sa σ i ∈ C.ioA ∨ C.H0 (sa σ i) = none
  frm : Frm C.ct (mask C.H0 (C.hid ++ C.ioA)) (mask H (C.hid ++ C.ioA))
  frh : ∀ a ∈ C.hid, H a = C.H0 a
  gro : ∀ a, C.H0 a ≠ none → H a ≠ none
  io : ∀ i ∈ C.io, i ∈ Γ
  pin : C.io.map (sa σ) = C.ioA
  sl : ∀ i d, i ∉ Γ → ρ[i]? = some (some d) → ∃ v, σ[i]? = some (some v) ∧ RV (gx K C) (mask H (Ms σ hid Γ)) d v
  ow : ∀ i, i ∈ Γ → ∃ o, ρ[i]? = some o ∧ σ[i]? = some (some (.ref (sa σ i))) ∧ ContR (gx K C) H (mask H (Ms σ hid Γ)) (sa σ i) (C.H0 (sa σ i)) (i ∈ C.raw) o
end
/-- what a step keeps -/
structure Stp (M M' hid : List Addr) (H H' : Hp) : Prop where
  le : HLe (mask H M) (mask H' M')
  fx : ∀ a ∈ hid, H' a = H a
theorem Stp.refl (M hid : List Addr) (H : Hp) : Stp M M hid H H := ⟨.refl _, fun _ _ => rfl⟩
theorem Stp.trans {M1 M2 M3 h1 h2 : List Addr} {A B Cc : Hp} (x : Stp M1 M2 h1 A B) (y : Stp M2 M3 h2 B Cc) (s : ∀ a ∈ h1, a ∈ h2) : Stp M1 M3 h1 A Cc :=
  ⟨x.le.trans y.le, fun a h => (y.fx a (s a h)).trans (x.fx a h)⟩
/-- a value that has come: fz: read alone; else it is owned (fresh), or of no object; tm: its address -/
inductive Val (g : Gx) (H : Hp) (M : List Addr) : Bool → D → V → List Addr → Prop where
  | fz {d : D} {v : V} {b : Bool} : RV g (mask H M) d v → (b = true → ∀ a, v ≠ .ref a) → Val g H M b d v []
  | fr {d : D} {a : Addr} : Cont g H (mask H M) a d → Val g H M true d (.ref a) [a]
section
variable {K : PySem.W.Frag} {C : Ac} {hid : List Addr} {Γ : List Nat} {ρ : Env} {σ : L2.St} {H : Hp}
theorem ST.inj (S : ST K C hid Γ ρ σ H) {i j : Nat} (hi : i ∈ Γ) (hj : j ∈ Γ) (e : sa σ i = sa σ j) : i = j := by
  have nd := S.nd
  clear S
  induction Γ with
  | nil => cases hi
  | cons k r ih =>
    rw [List.map_cons, List.nodup_cons] at nd
    rcases List.mem_cons.mp hi with rfl | hi'
    · rcases List.mem_cons.mp hj with rfl | hj'
      · rfl
      · exact absurd (e ▸ List.mem_map_of_mem hj') nd.1
    · rcases List.mem_cons.mp hj with rfl | hj'
      · exact absurd (e ▸ List.mem_map_of_mem hi') nd.1
      · exact ih hi' hj' nd.2
theorem ST.trkM (S : ST K C hid Γ ρ σ H) : ∀ a ∈ Ms σ hid Γ, H a ≠ none := fun a ha => by
  rcases mem_Ms.mp ha with h | ⟨i, hi, rfl⟩
  · exact (S.trk a h).1
  · obtain ⟨d, _, _, c⟩ := S.ow i hi
    exact c.trk
theorem ST.hdM (S : ST K C hid Γ ρ σ H) : ∀ a ∈ Ms σ hid Γ, Hd H a := fun a ha => by
  rcases mem_Ms.mp ha with h | ⟨i, hi, rfl⟩
  · exact S.trk a h
  · obtain ⟨d, _, _, c⟩ := S.ow i hi
    exact c.hd
theorem ST.sub0 (S : ST K C hid Γ ρ σ H) : ∀ a ∈ C.hid ++ C.ioA, a ∈ Ms σ hid Γ := fun a ha => by
  rcases List.mem_append.mp ha with h | h
  · exact mem_Ms.mpr (.inl (S.sub a h))
  · rw [← S.pin] at h
    obtain ⟨i, hi, e⟩ := List.mem_map.mp h
    exact mem_Ms.mpr (.inr ⟨i, S.io i hi, e⟩)
/-- the tables stand -/
theorem ST.tabs (S : ST K C hid Γ ρ σ H) : TabsOk C.ct (mask H (Ms σ hid Γ)) := fun P h => (S.frm.tb P (S.frm.tab P h)).mask S.hdM
theorem nodup_of_map {α β : Type} {f : α → β} : ∀ {l : List α}, (l.map f).Nodup → l.Nodup
  | [], _ => List.nodup_nil
  | a :: l, h => by
    rw [List.map_cons, List.nodup_cons] at h
    exact List.nodup_cons.mpr ⟨fun q => h.1 (List.mem_map_of_mem q), nodup_of_map h.2⟩
theorem nodup_map_on {α β : Type} {f : α → β} : ∀ {l : List α}, l.Nodup → (∀ a ∈ l, ∀ b ∈ l, f a = f b → a = b) → (l.map f).Nodup
  | [], _, _ => List.nodup_nil
  | a :: l, h, hf => by
    rw [List.nodup_cons] at h
    rw [List.map_cons, List.nodup_cons]
    refine ⟨fun q => ?_, nodup_map_on h.2 fun x hx y hy => hf x (List.mem_cons_of_mem _ hx) y (List.mem_cons_of_mem _ hy)⟩
    obtain ⟨b, hb, e⟩ := List.mem_map.mp q
    have := hf b (List.mem_cons_of_mem _ hb) a List.mem_cons_self e
    exact h.1 (this ▸ hb)
/-- some owned slots are let go -/
theorem ST.weak (S : ST K C hid Γ ρ σ H) {Γ' : List Nat} (h : ∀ i ∈ Γ', i ∈ Γ) (nd : Γ'.Nodup) (io : ∀ i ∈ C.io, i ∈ Γ') : ST K C hid Γ' ρ σ H := by
  have hM : ∀ a, a ∈ Ms σ hid Γ' → a ∈ Ms σ hid Γ := fun a ha => by
    rcases mem_Ms.mp ha with q | ⟨i, hi, e⟩
    · exact mem_Ms.mpr (.inl q)
    · exact mem_Ms.mpr (.inr ⟨i, h i hi, e⟩)
  have le : HLe (mask H (Ms σ hid Γ)) (mask H (Ms σ hid Γ')) := .of_same (mask_sub hM)
  refine ⟨S.len, S.sub, S.trk, S.tmp, nodup_map_on nd fun a ha b hb e => S.inj (h a ha) (h b hb) e, fun i hi => S.dis i (h i hi), fun i hi => S.own i (h i hi), S.frm, S.frh, S.gro, io, S.pin, fun i d hi e => ?_, fun i hi => ?_⟩
  · by_cases q : i ∈ Γ
    · obtain ⟨d', e1, e2, c⟩ := S.ow i q
      rw [e] at e1; cases e1
      refine ⟨_, e2, c.cont.rv ?_ le⟩
      rw [mask_out]
      intro z
      rcases mem_Ms.mp z with z | ⟨j, hj, ej⟩
      · exact S.dis i q z
      · exact hi (S.inj (h j hj) q ej ▸ hj)
    · obtain ⟨v, e1, r⟩ := S.sl i d q e
      exact ⟨v, e1, r.mono le⟩
  · obtain ⟨d, e1, e2, c⟩ := S.ow i (h i hi)
    exact ⟨d, e1, e2, c.mono (fun _ z => z) le⟩
theorem Ms_sub {σ : L2.St} {hid : List Addr} {Γ Γ' : List Nat} (h : ∀ i ∈ Γ', i ∈ Γ) : ∀ a, a ∈ Ms σ hid Γ' → a ∈ Ms σ hid Γ := fun a ha => by
  rcases mem_Ms.mp ha with q | ⟨i, hi, e⟩
  · exact mem_Ms.mpr (.inl q)
  · exact mem_Ms.mpr (.inr ⟨i, h i hi, e⟩)
theorem Ms_subH {σ : L2.St} {hid hid' : List Addr} {Γ : List Nat} (h : ∀ i ∈ hid', i ∈ hid) : ∀ a, a ∈ Ms σ hid' Γ → a ∈ Ms σ hid Γ := fun a ha => by
  rcases mem_Ms.mp ha with q | z
  · exact mem_Ms.mpr (.inl (h _ q))
  · exact mem_Ms.mpr (.inr z)
/-- temporaries are let go -/
theorem ST.forget (S : ST K C hid Γ ρ σ H) {hid' : List Addr} (h : ∀ a ∈ hid', a ∈ hid) (hs : ∀ a ∈ C.hid, a ∈ hid') : ST K C hid' Γ ρ σ H := by
  have le : HLe (mask H (Ms σ hid Γ)) (mask H (Ms σ hid' Γ)) := .of_same (mask_sub (Ms_subH h))
  refine ⟨S.len, hs, fun a ha => S.trk a (h a ha), fun a ha => S.tmp a (h a ha), S.nd, fun i hi q => S.dis i hi (h _ q), S.own, S.frm, S.frh, S.gro, S.io, S.pin, fun i d hi e => ?_, fun i hi => ?_⟩
  · obtain ⟨v, e1, r⟩ := S.sl i d hi e
    exact ⟨v, e1, r.mono le⟩
  · obtain ⟨d, e1, e2, c⟩ := S.ow i hi
    exact ⟨d, e1, e2, c.mono (fun _ z => z) le⟩
/-- the heap goes on, all that is not owned is kept, what is owned stands as it stood -/
theorem ST.step (S : ST K C hid Γ ρ σ H) {H' : Hp} (k : HLe (mask H (Ms σ hid Γ)) (mask H' (Ms σ hid Γ))) (f : ∀ a ∈ Ms σ hid Γ, H' a = H a) (gro : ∀ a, H a ≠ none → H' a ≠ none) : ST K C hid Γ ρ σ H' := by
  have fx : ∀ a ∈ hid, H' a = H a := fun a h => f a (mem_Ms.mpr (.inl h))
  -- the frame
  have frm : Frm C.ct (mask C.H0 (C.hid ++ C.ioA)) (mask H' (C.hid ++ C.ioA)) := by
    refine ⟨?_, S.frm.tab⟩
    -- what C.H0 tracks outside is not owned, or it is a local's (then C.H0 does not track it)
    have out : ∀ b, b ∉ C.hid ++ C.ioA → C.H0 b ≠ none → b ∉ Ms σ hid Γ := fun b hb hn hM => by
      rcases mem_Ms.mp hM with q | ⟨i, hi, rfl⟩
      · rcases S.tmp b q with z | z
        · exact hb (List.mem_append_left _ z)
        · exact hn z
      · rcases S.own i hi with z | z
        · exact hb (List.mem_append_right _ z)
        · exact hn z
    refine ⟨fun b o e n => ?_, fun b kv e => ?_, fun b kv e => ?_, fun P t => (k.tb P ((S.frm.tb P t).mask S.hdM)).mask fun a ha => (S.hdM a (S.sub0 a ha)).of (f a (S.sub0 a ha))⟩
    · obtain ⟨h1, h2⟩ := mask_some e
      have e2 := (mask_some (S.frm.o b o e n)).2
      have hM := out b h1 (by rw [h2]; simp)
      have := k.o b o (by rw [mask_out hM]; exact e2) n
      rw [mask_out hM] at this
      rw [mask_out h1]; exact this
    · have hb : b ∉ C.hid ++ C.ioA ∧ C.H0 b ≠ none := by
        rcases e with e | ⟨o, e⟩ <;> exact ⟨(mask_some e).1, by rw [(mask_some e).2]; simp⟩
      have hM := out b hb.1 hb.2
      have r1 := S.frm.k b kv e
      have r2 : Rd (mask H (Ms σ hid Γ)) b (.dK kv) := by
        rcases r1 with r | ⟨o, r⟩
        · exact .inl (by rw [mask_out hM]; exact (mask_some r).2)
        · exact .inr ⟨o, by rw [mask_out hM]; exact (mask_some r).2⟩
      rcases k.k b kv r2 with r | ⟨o, r⟩
      · exact .inl (by rw [mask_out hb.1]; exact (mask_some r).2)
      · exact .inr ⟨o, by rw [mask_out hb.1]; exact (mask_some r).2⟩
    · have hb : b ∉ C.hid ++ C.ioA ∧ C.H0 b ≠ none := by
        rcases e with e | ⟨o, e⟩ <;> exact ⟨(mask_some e).1, by rw [(mask_some e).2]; simp⟩
      have hM := out b hb.1 hb.2
      have r1 := S.frm.t b kv e
      have r2 : Rd (mask H (Ms σ hid Γ)) b (.dT kv) := by
        rcases r1 with r | ⟨o, r⟩
        · exact .inl (by rw [mask_out hM]; exact (mask_some r).2)
        · exact .inr ⟨o, by rw [mask_out hM]; exact (mask_some r).2⟩
      rcases k.t b kv r2 with r | ⟨o, r⟩
      · exact .inl (by rw [mask_out hb.1]; exact (mask_some r).2)
      · exact .inr ⟨o, by rw [mask_out hb.1]; exact (mask_some r).2⟩
  refine ⟨S.len, S.sub, fun a ha => (S.trk a ha).of (f a (mem_Ms.mpr (.inl ha))), S.tmp, S.nd, S.dis, S.own, frm, fun a ha => (fx a (S.sub a ha)).trans (S.frh a ha), fun a ha => gro a (S.gro a ha), S.io, S.pin, fun i d hi e => ?_, fun i hi => ?_⟩
  · obtain ⟨v, e1, r⟩ := S.sl i d hi e
    exact ⟨v, e1, r.mono k⟩
  · obtain ⟨d, e1, e2, c⟩ := S.ow i hi
    exact ⟨d, e1, e2, c.mono (fun o z => (f _ (mem_Ms.mpr (.inr ⟨i, hi, rfl⟩))).trans z) k⟩
/-- objects are new, none is changed -/
theorem ST.same (S : ST K C hid Γ ρ σ H) {H' : Hp} (k : Same H H') : ST K C hid Γ ρ σ H' := by
  refine S.step (.of_same (mask_keep fun b o _ e => k b o e)) (fun a ha => ?_) fun a ha => ?_
  · have := S.trkM a ha
    cases q : H a with
    | none => exact absurd q this
    | some o => exact k a o q
  · cases q : H a with
    | none => exact absurd q ha
    | some o => rw [k a o q]; simp
theorem ST.sameStp (S : ST K C hid Γ ρ σ H) {H' : Hp} (k : Same H H') : Stp (Ms σ hid Γ) (Ms σ hid Γ) hid H H' :=
  ⟨.of_same (mask_keep fun b o _ e => k b o e), fun a ha => by
    have := (S.trk a ha).1
    cases q : H a with
    | none => exact absurd q this
    | some o => exact k a o q⟩
theorem same_upd {H : Hp} {p : Addr} {o : HO} (h : H p = none) : Same H (upd H p o) := fun b u e => by
  rw [upd_ne (ne_of_none e h)]; exact e
theorem ST.none_out (S : ST K C hid Γ ρ σ H) {p : Addr} (h : H p = none) : p ∉ Ms σ hid Γ := fun q => S.trkM p q h
/-- a temporary is held -/
theorem ST.hold (S : ST K C hid Γ ρ σ H) {p : Addr} {o : HO} (h : H p = none) (hu : Ow o := by exact trivial) : ST K C (p :: hid) Γ ρ σ (upd H p o) := by
  have hp := S.none_out h
  have h0 : C.H0 p = none := by
    cases q : C.H0 p with
    | none => rfl
    | some u => exact absurd h (S.gro p (by rw [q]; simp))
  have S1 := S.same (same_upd (o := o) h)
  have le : HLe (mask H (Ms σ hid Γ)) (mask (upd H p o) (Ms σ (p :: hid) Γ)) := .of_same fun b u e => by
    obtain ⟨e1, e2⟩ := mask_some e
    have hb : b ≠ p := ne_of_none e2 h
    rw [mask_out, upd_ne hb]; exact e2
    intro z
    rcases mem_Ms.mp z with z | z
    · rcases List.mem_cons.mp z with z | z
      · exact hb z
      · exact e1 (mem_Ms.mpr (.inl z))
    · exact e1 (mem_Ms.mpr (.inr z))
  refine ⟨S.len, fun a ha => List.mem_cons_of_mem _ (S.sub a ha), fun a ha => ?_, fun a ha => ?_, S.nd, fun i hi q => ?_, S.own, S1.frm, S1.frh, S1.gro, S.io, S.pin, fun i d hi e => ?_, fun i hi => ?_⟩
  · rcases List.mem_cons.mp ha with rfl | ha
    · exact .mk' upd_same hu
    · exact S1.trk a ha
  · rcases List.mem_cons.mp ha with rfl | ha
    · exact .inr h0
    · exact S.tmp a ha
  · rcases List.mem_cons.mp q with q | q
    · exact hp (mem_Ms.mpr (.inr ⟨i, hi, q⟩))
    · exact S.dis i hi q
  · obtain ⟨v, e1, r⟩ := S.sl i d hi e
    exact ⟨v, e1, r.mono le⟩
  · obtain ⟨d, e1, e2, c⟩ := S.ow i hi
    exact ⟨d, e1, e2, c.mono (fun u z => same_upd h _ _ z) le⟩
theorem ST.holdStp (S : ST K C hid Γ ρ σ H) {p : Addr} {o : HO} (h : H p = none) : Stp (Ms σ hid Γ) (Ms σ (p :: hid) Γ) hid H (upd H p o) := by
  refine ⟨.of_same fun b u e => ?_, fun a ha => upd_ne fun z => (S.trk a ha).1 (z ▸ h)⟩
  obtain ⟨e1, e2⟩ := mask_some e
  have hb : b ≠ p := ne_of_none e2 h
  rw [mask_out, upd_ne hb]; exact e2
  intro z
  rcases mem_Ms.mp z with z | z
  · rcases List.mem_cons.mp z with z | z
    · exact hb z
    · exact e1 (mem_Ms.mpr (.inl z))
  · exact e1 (mem_Ms.mpr (.inr z))
theorem mask_updM {H : Hp} {M : List Addr} {a : Addr} {o : HO} (h : a ∈ M) : mask (upd H a o) M = mask H M := by
  funext b
  by_cases q : b ∈ M
  · rw [mask_in q, mask_in q]
  · rw [mask_out q, mask_out q, upd_ne (show b ≠ a from fun e => q (e ▸ h))]
/-- the object of an owned slot is changed -/
theorem ST.change (S : ST K C hid Γ ρ σ H) {i : Nat} (hi : i ∈ Γ) {o : HO} {d : D} (c : Cont (gx K C) (upd H (sa σ i) o) (mask H (Ms σ hid Γ)) (sa σ i) d) : ST K C hid Γ (ρ.set i (some d)) σ (upd H (sa σ i) o) := by
  have hM : sa σ i ∈ Ms σ hid Γ := mem_Ms.mpr (.inr ⟨i, hi, rfl⟩)
  have em := mask_updM (H := H) (o := o) hM
  have ne : ∀ b, b ∈ hid → b ≠ sa σ i := fun b hb e => S.dis i hi (e ▸ hb)
  have trk : ∀ a, H a ≠ none → upd H (sa σ i) o a ≠ none := fun a ha => by
    by_cases q : a = sa σ i
    · rw [q, upd_same]; simp
    · rw [upd_ne q]; exact ha
  have frm : Frm C.ct (mask C.H0 (C.hid ++ C.ioA)) (mask (upd H (sa σ i) o) (C.hid ++ C.ioA)) := by
    refine ⟨?_, S.frm.tab⟩
    by_cases q : sa σ i ∈ C.hid ++ C.ioA
    · rw [mask_updM q]; exact S.frm.toHLe
    · have h0 : C.H0 (sa σ i) = none := by
        rcases S.own i hi with z | z
        · exact absurd (List.mem_append_right _ z) q
        · exact z
      refine ⟨fun b u e n => ?_, fun b kv e => ?_, fun b kv e => ?_, fun P t => (S.frm.tb P t).upd (S.hdM _ hM)⟩
      · have hb : b ≠ sa σ i := ne_of_none (mask_some e).2 h0
        have := S.frm.o b u e n
        rw [mask_out (mask_some e).1] at this ⊢
        rw [upd_ne hb]; exact this
      · have hb : b ≠ sa σ i ∧ b ∉ C.hid ++ C.ioA := by
          rcases e with e | ⟨o, e⟩ <;> exact ⟨ne_of_none (mask_some e).2 h0, (mask_some e).1⟩
        rcases S.frm.k b kv e with r | ⟨u, r⟩
        · exact .inl (by rw [mask_out hb.2, upd_ne hb.1]; exact (mask_some r).2)
        · exact .inr ⟨u, by rw [mask_out hb.2, upd_ne hb.1]; exact (mask_some r).2⟩
      · have hb : b ≠ sa σ i ∧ b ∉ C.hid ++ C.ioA := by
          rcases e with e | ⟨o, e⟩ <;> exact ⟨ne_of_none (mask_some e).2 h0, (mask_some e).1⟩
        rcases S.frm.t b kv e with r | ⟨u, r⟩
        · exact .inl (by rw [mask_out hb.2, upd_ne hb.1]; exact (mask_some r).2)
        · exact .inr ⟨u, by rw [mask_out hb.2, upd_ne hb.1]; exact (mask_some r).2⟩
  have il : i < ρ.length := by
    obtain ⟨d0, e1, _, _⟩ := S.ow i hi
    exact (List.getElem?_eq_some_iff.mp e1).1
  refine ⟨by rw [List.length_set]; exact S.len, S.sub, fun a ha => (S.trk a ha).of (upd_ne (ne a ha)), S.tmp, S.nd, S.dis, S.own, frm, fun a ha => by rw [upd_ne (ne a (S.sub a ha))]; exact S.frh a ha, fun a ha => trk a (S.gro a ha), S.io, S.pin, fun j e hj ej => ?_, fun j hj => ?_⟩
  · have hji : j ≠ i := fun z => hj (z ▸ hi)
    rw [List.getElem?_set_ne (Ne.symm hji)] at ej
    rw [em]
    exact S.sl j e hj ej
  · rw [em]
    by_cases q : j = i
    · subst q
      obtain ⟨d0, _, e2, _⟩ := S.ow j hj
      exact ⟨_, List.getElem?_set_self il, e2, .own c⟩
    · obtain ⟨d0, e1, e2, c0⟩ := S.ow j hj
      refine ⟨d0, by rw [List.getElem?_set_ne (Ne.symm q)]; exact e1, e2, c0.mono (fun u z => ?_) (.refl _)⟩
      rw [upd_ne fun e => q (S.inj hj hi e)]; exact z
theorem ST.changeStp (S : ST K C hid Γ ρ σ H) {i : Nat} (hi : i ∈ Γ) {o : HO} : Stp (Ms σ hid Γ) (Ms σ hid Γ) hid H (upd H (sa σ i) o) :=
  ⟨by rw [mask_updM (mem_Ms.mpr (.inr ⟨i, hi, rfl⟩))]; exact .refl _, fun a ha => upd_ne fun e => S.dis i hi (e ▸ ha)⟩
theorem Ms_set {σ : L2.St} {hid : List Addr} {Γ : List Nat} {i : Nat} {v : Option V} (h : i ∉ Γ) : Ms (σ.set i v) hid Γ = Ms σ hid Γ := by
  unfold Ms
  rw [List.map_congr_left fun j hj => sa_set (nem h hj)]
theorem map_sa_set {σ : L2.St} {Γ : List Nat} {i : Nat} {v : Option V} (h : i ∉ Γ) : Γ.map (sa (σ.set i v)) = Γ.map (sa σ) :=
  List.map_congr_left fun j hj => sa_set (nem h hj)
/-- a slot that is not owned takes a value that is read alone -/
theorem ST.put (S : ST K C hid Γ ρ σ H) {i : Nat} (hi : i ∉ Γ) {d : D} {v : V} (r : RV (gx K C) (mask H (Ms σ hid Γ)) d v) (il : i < ρ.length) : ST K C hid Γ (ρ.set i (some d)) (σ.set i (some v)) H := by
  have ii : i ∉ C.io := fun z => hi (S.io i z)
  refine ⟨by rw [List.length_set, List.length_set]; exact S.len, S.sub, S.trk, S.tmp, by rw [map_sa_set hi]; exact S.nd, fun j hj => by rw [sa_set (nem hi hj)]; exact S.dis j hj, fun j hj => by rw [sa_set (nem hi hj)]; exact S.own j hj,
    S.frm, S.frh, S.gro, S.io, by rw [map_sa_set ii]; exact S.pin, fun j e hj ej => ?_, fun j hj => ?_⟩
  · rw [Ms_set hi]
    by_cases q : j = i
    · subst q
      rw [List.getElem?_set_self il] at ej
      cases ej
      exact ⟨v, List.getElem?_set_self (by rw [← S.len]; exact il), r⟩
    · rw [List.getElem?_set_ne (Ne.symm q)] at ej ⊢
      exact S.sl j e hj ej
  · have q : j ≠ i := nem hi hj
    rw [Ms_set hi, sa_set q, List.getElem?_set_ne (Ne.symm q), List.getElem?_set_ne (Ne.symm q)]
    exact S.ow j hj
/-- a slot takes a value that is owned -/
theorem ST.take {a : Addr} (S : ST K C (a :: hid) Γ ρ σ H) {i : Nat} (hi : i ∉ Γ) {d : D} (c : Cont (gx K C) H (mask H (Ms σ (a :: hid) Γ)) a d) (il : i < ρ.length) (ha : a ∉ hid) (hs : ∀ b ∈ C.hid, b ∈ hid) :
    ST K C hid (i :: Γ) (ρ.set i (some d)) (σ.set i (some (.ref a))) H := by
  have ii : i ∉ C.io := fun z => hi (S.io i z)
  have il' : i < σ.length := by rw [← S.len]; exact il
  have si : sa (σ.set i (some (.ref a))) i = a := sa_eq (List.getElem?_set_self il')
  have eM : ∀ b, b ∈ Ms (σ.set i (some (.ref a))) hid (i :: Γ) ↔ b ∈ Ms σ (a :: hid) Γ := fun b => by
    unfold Ms
    rw [List.map_cons, si, map_sa_set hi]
    simp only [List.mem_append, List.mem_cons]
    constructor
    · rintro (h | h | h)
      · exact .inl (.inr h)
      · exact .inl (.inl h)
      · exact .inr h
    · rintro ((h | h) | h)
      · exact .inr (.inl h)
      · exact .inl h
      · exact .inr (.inr h)
  have em : mask H (Ms (σ.set i (some (.ref a))) hid (i :: Γ)) = mask H (Ms σ (a :: hid) Γ) := mask_congr eM
  refine ⟨by rw [List.length_set, List.length_set]; exact S.len, hs, fun b hb => S.trk b (List.mem_cons_of_mem _ hb), fun b hb => S.tmp b (List.mem_cons_of_mem _ hb), ?_, fun j hj => ?_, fun j hj => ?_,
    S.frm, S.frh, S.gro, fun j hj => List.mem_cons_of_mem _ (S.io j hj), by rw [map_sa_set ii]; exact S.pin, fun j e hj ej => ?_, fun j hj => ?_⟩
  · rw [List.map_cons, si, map_sa_set hi, List.nodup_cons]
    refine ⟨fun z => ?_, S.nd⟩
    obtain ⟨k, hk, e⟩ := List.mem_map.mp z
    exact S.dis k hk (e ▸ List.mem_cons_self)
  · rcases List.mem_cons.mp hj with rfl | hj
    · rw [si]; exact ha
    · rw [sa_set (nem hi hj)]; exact fun z => S.dis j hj (List.mem_cons_of_mem _ z)
  · rcases List.mem_cons.mp hj with rfl | hj
    · rw [si]
      rcases S.tmp a List.mem_cons_self with z | z
      · exact absurd (hs a z) ha
      · exact .inr z
    · rw [sa_set (nem hi hj)]; exact S.own j hj
  · have q : j ≠ i := fun e => hj (e ▸ List.mem_cons_self)
    rw [List.getElem?_set_ne (Ne.symm q)] at ej ⊢
    rw [em]
    exact S.sl j e (fun z => hj (List.mem_cons_of_mem _ z)) ej
  · rw [em]
    rcases List.mem_cons.mp hj with rfl | hj
    · rw [si]
      exact ⟨_, List.getElem?_set_self il, List.getElem?_set_self il', .own c⟩
    · have q : j ≠ i := nem hi hj
      rw [sa_set q, List.getElem?_set_ne (Ne.symm q), List.getElem?_set_ne (Ne.symm q)]
      exact S.ow j hj
end
end Ip
namespace Ip
open PySem L2
inductive Shal (g : Gx) (H Hm : Hp) : D → V → Prop where
  | non : Shal g H Hm .non .non
  | bl (b : Bool) : Shal g H Hm (.bl b) (.bl b)
  | int (i : Int) : Shal g H Hm (.int i) (.int i)
  | str (x : Str) : Shal g H Hm (.str x) (.str x)
  | tup {a : Addr} {vs : List V} {ds : List D} : H a = some (.tup vs) → RVs g Hm ds vs → Hm a = some (.tup vs) → Shal g H Hm (.tup ds) (.ref a)
  | lst {a : Addr} {vs : List V} {ds : List D} : SqL g.K H a vs → RVs g Hm ds vs → Shal g H Hm (.lst ds) (.ref a)
  | dK {a : Addr} {ks : List Key} {vs : List V} {ds : List D} : Rd H a (.dK (ks.zip vs)) → ks.length = vs.length → RVs g Hm ds vs → Shal g H Hm (.dic (ks.map kD) ds) (.ref a)
  | dT {a : Addr} {ks : List (List Key)} {vs : List V} {ds : List D} : Rd H a (.dT (ks.zip vs)) → ks.length = vs.length → RVs g Hm ds vs → Shal g H Hm (.dit ks ds) (.ref a)
  | obj {a Cc dx : Addr} {c : Str} {ns : List Str} {vs : List V} {ds : List D} : H a = some (.ins Cc dx (ns.zip vs)) → g.ct c = some Cc → ns.length = vs.length → RVs g Hm ds vs → Shal g H Hm (.obj c ns ds) (.ref a)
  | opq {a : Addr} : g.ct opqNm = some a → Shal g H Hm .opq (.ref a)
  | clo {a : Addr} {x : Str} {as : List Addr} {ds : List D} : g.ct x = some a → (∀ i b, as[i]? = some b → g.ct (capKey x i) = some b) → RVs g Hm ds (as.map V.ref) → Shal g H Hm (.clo x ds) (.ref a)
  | exc {a Cc : Addr} {c : Str} : g.ct c = some Cc → ExcAt H Cc a → Shal g H Hm (.exc c) (.ref a)
theorem RV.shal {g : Gx} {H : Hp} {M : List Addr} {d : D} {v : V} (h : RV g (mask H M) d v) : Shal g H (mask H M) d v := by
  have s : HLe (mask H M) H := .of_same mask_same
  cases h with
  | non => exact .non
  | bl b => exact .bl b
  | int i => exact .int i
  | str x => exact .str x
  | tup h r => exact .tup (s.o _ _ h trivial) r h
  | lst h r => exact .lst (s.sqL h) r
  | dK h l r => exact .dK (s.k _ _ h) l r
  | dT h l r => exact .dT (s.t _ _ h) l r
  | obj h c l r => exact .obj (s.o _ _ h trivial) c l r
  | opq h => exact .opq h
  | clo h k r => exact .clo h k r
  | exc h k => exact .exc h (k.mono fun b o e φ z => by subst z; exact s.o b _ e trivial)
theorem Cont.shal {g : Gx} {H Hm : Hp} {a : Addr} {d : D} (h : Cont g H Hm a d) : Shal g H Hm d (.ref a) := by
  cases h with
  | lst h r => exact .lst (.of h) r
  | dK h l r => exact .dK (.inl h) l r
  | dT h l r => exact .dT (.inl h) l r
  | obj h c l r => exact .obj h c l r
theorem Shal.rv {g : Gx} {H : Hp} {M : List Addr} {d : D} {v : V} (h : Shal g H (mask H M) d v) : RV g H d v := by
  have s : HLe (mask H M) H := .of_same mask_same
  cases h with
  | non => exact .non
  | bl b => exact .bl b
  | int i => exact .int i
  | str x => exact .str x
  | tup h r => exact .tup h (r.mono s)
  | lst h r => exact .lst h (r.mono s)
  | dK h l r => exact .dK h l (r.mono s)
  | dT h l r => exact .dT h l (r.mono s)
  | obj h c l r => exact .obj h c l (r.mono s)
  | opq h => exact .opq h
  | clo h k r => exact .clo h k (r.mono s)
  | exc h k => exact .exc h k
theorem Val.shal {g : Gx} {H H' : Hp} {M M' tm hid : List Addr} {b : Bool} {d : D} {v : V} (h : Val g H M b d v tm) (s : Stp M M' (tm ++ hid) H H') : Shal g H' (mask H' M') d v := by
  cases h with
  | fz r _ => exact (r.mono s.le).shal
  | fr c => exact (c.mono (fun o e => (s.fx _ (by simp)).trans e) s.le).shal
theorem Val.shal0 {g : Gx} {H : Hp} {M tm : List Addr} {b : Bool} {d : D} {v : V} (h : Val g H M b d v tm) : Shal g H (mask H M) d v := h.shal (hid := []) (Stp.refl _ _ _)
/-- a value is let go: it is read alone from now on -/
theorem Val.rv {g : Gx} {H : Hp} {M M' tm : List Addr} {b : Bool} {d : D} {v : V} (h : Val g H M b d v tm) (s : ∀ a ∈ M', a ∈ M) (ht : ∀ a ∈ tm, a ∉ M') : RV g (mask H M') d v := by
  cases h with
  | fz r _ => exact r.mono (.of_same (mask_sub s))
  | fr c => exact c.rv (mask_out (ht _ (by simp))) (.of_same (mask_sub s))
def ExR (g : Gx) (H Hm : Hp) (e : Ex) (cls : Value) (od : Option Addr) : Prop :=
  ∃ Cc, g.ct e.cls = some Cc ∧ cls = .ref Cc ∧ match e.fld with
    | none => od = none
    | some p => ∃ dd v, od = some dd ∧ H dd = some (.xd [(p.1, v)]) ∧ RV g Hm p.2 v
section
variable (K : PySem.W.Frag) (C : Ac) (W : WX)
def PostE (Γ Γ' : List Nat) (fr : Bool) (hid : List Addr) (σ : L2.St) (H : Hp) (Q : VK) : R D → Prop
  | .ok d ρ' => ∀ v H' tm, ST K C (tm ++ hid) Γ' ρ' σ H' → Stp (Ms σ hid Γ) (Ms σ (tm ++ hid) Γ') hid H H' → Val (gx K C) H' (Ms σ (tm ++ hid) Γ') fr d v tm → (∀ a ∈ tm, a ∉ Ms σ hid Γ') → Q v H'
  | .exn e ρ' => ∀ cls od H', ExR (gx K C) H' (mask H' (Ms σ C.hid C.io)) e cls od → ST K C C.hid C.io ρ' σ H' → W cls od σ H'
  | .bad => False
def tE (Γ Γ' : List Nat) (fr : Bool) (f : Env → R D) : TE := fun σ H Q => ∃ hid ρ, ST K C hid Γ ρ σ H ∧ PostE K C W Γ Γ' fr hid σ H Q (f ρ)
def PostT (Γ Γ' : List Nat) (hid : List Addr) (σ : L2.St) (H : Hp) (Q : Bool → Hp → Prop) : R Bool → Prop
  | .ok b ρ' => ∀ H', ST K C hid Γ' ρ' σ H' → Stp (Ms σ hid Γ) (Ms σ hid Γ') hid H H' → Q b H'
  | .exn e ρ' => ∀ cls od H', ExR (gx K C) H' (mask H' (Ms σ C.hid C.io)) e cls od → ST K C C.hid C.io ρ' σ H' → W cls od σ H'
  | .bad => False
def tT (Γ Γ' : List Nat) (f : Env → R Bool) : TT := fun σ H Q => ∃ hid ρ, ST K C hid Γ ρ σ H ∧ PostT K C W Γ Γ' hid σ H Q (f ρ)
def PostS (Γ Γ' Γb : List Nat) (fr : Bool) (Dn : Ends) (σ : L2.St) (H : Hp) : R Fl → Prop
  | .ok .nx ρ' => ∀ σ' H', ST K C C.hid Γ' ρ' σ' H' → Stp (Ms σ C.hid Γ) (Ms σ' C.hid Γ') C.hid H H' → Dn.nx σ' H'
  | .ok .bk ρ' => ∀ σ' H', ST K C C.hid Γb ρ' σ' H' → Stp (Ms σ C.hid Γ) (Ms σ' C.hid Γb) C.hid H H' → Dn.bk σ' H'
  | .ok .ct ρ' => ∀ σ' H', ST K C C.hid Γb ρ' σ' H' → Stp (Ms σ C.hid Γ) (Ms σ' C.hid Γb) C.hid H H' → Dn.ct σ' H'
  | .ok (.rt d) ρ' => ∀ v σ' H' tm, ST K C (tm ++ C.hid) C.io ρ' σ' H' → Stp (Ms σ C.hid Γ) (Ms σ' (tm ++ C.hid) C.io) C.hid H H' → Val (gx K C) H' (Ms σ' (tm ++ C.hid) C.io) fr d v tm → (∀ a ∈ tm, a ∉ Ms σ' C.hid C.io) → Dn.rt v H'
  | .exn e ρ' => ∀ cls od σ' H', ExR (gx K C) H' (mask H' (Ms σ' C.hid C.io)) e cls od → ST K C C.hid C.io ρ' σ' H' → W cls od σ' H'
  | .bad => False
def tS (Γ Γ' Γb : List Nat) (fr : Bool) (f : Env → R Fl) : TS := fun Dn σ H => ∃ ρ, ST K C C.hid Γ ρ σ H ∧ PostS K C W Γ Γ' Γb fr Dn σ H (f ρ)
end
end Ip
namespace Ip
open PySem L2
structure SE (X : Cx) (C : Ac) (W : WX) (Γ : List Nat) (e : Expr) (Γ' : List Nat) (fr : Bool) (f : Env → R D) : Prop where
  pe : PE X e (tE X.K C W Γ Γ' fr f)
structure SP (X : Cx) (C : Ac) (W : WX) (Γ : List Nat) (e : Expr) (Γ' : List Nat) (f : Env → R Bool) : Prop where
  pt : PT X e (tT X.K C W Γ Γ' f)
structure SW (X : Cx) (C : Ac) (W : WX) (Γ : List Nat) (e : Expr) (Γ' : List Nat) (f : Env → R Bool) : Prop where
  pw : PW X e (tT X.K C W Γ Γ' f)
structure SS (X : Cx) (C : Ac) (W : WX) (Γ : List Nat) (st : Stmt) (Γ' Γb : List Nat) (fr : Bool) (f : Env → R Fl) : Prop where
  ps : PS X st (tS X.K C W Γ Γ' Γb fr f)
structure SSs (X : Cx) (C : Ac) (W : WX) (Γ : List Nat) (st : List Stmt) (Γ' Γb : List Nat) (fr : Bool) (f : Env → R Fl) : Prop where
  ps : PSs X st (tS X.K C W Γ Γ' Γb fr f)
theorem peImp {X : Cx} {e : Expr} {t t' : TE} (h : PE X e t) (i : ∀ σ H Q, t' σ H Q → t σ H Q) : PE X e t' := ⟨fun pins s σ H Q I q => h.run pins s σ H Q I (i σ H Q q)⟩
theorem ptImp {X : Cx} {e : Expr} {t t' : TT} (h : PT X e t) (i : ∀ σ H Q, t' σ H Q → t σ H Q) : PT X e t' := ⟨fun pins s σ H Q I q => h.run pins s σ H Q I (i σ H Q q)⟩
theorem pwImp {X : Cx} {e : Expr} {t t' : TT} (h : PW X e t) (i : ∀ σ H Q, t' σ H Q → t σ H Q) : PW X e t' := ⟨fun wh pins s σ H Q I q => h.run wh pins s σ H Q I (i σ H Q q)⟩
theorem paImp {X : Cx} {e : List Expr} {t t' : TA} (h : PA X e t) (i : ∀ σ H Q, t' σ H Q → t σ H Q) : PA X e t' := ⟨fun pos pins s σ H Q I q => h.run pos pins s σ H Q I (i σ H Q q)⟩
theorem psImp {X : Cx} {e : Stmt} {t t' : TS} (h : PS X e t) (i : ∀ Dn σ H, t' Dn σ H → t Dn σ H) : PS X e t' := ⟨fun pins s σ H Q I q => h.run pins s σ H Q I (i Q σ H q)⟩
theorem pssImp {X : Cx} {e : List Stmt} {t t' : TS} (h : PSs X e t) (i : ∀ Dn σ H, t' Dn σ H → t Dn σ H) : PSs X e t' := ⟨fun pins s σ H Q I q => h.run pins s σ H Q I (i Q σ H q)⟩
def R.bind {α β : Type} : R α → (α → Env → R β) → R β
  | .ok a ρ, k => k a ρ
  | .exn e ρ, _ => .exn e ρ
  | .bad, _ => .bad
def ofO {α : Type} (ρ : Env) : Option α → R α
  | some a => .ok a ρ
  | none => .bad
def mVar (i : Nat) : Env → R D := fun ρ => ofO ρ (ρ.getD i none)
def mC (d : D) : Env → R D := fun ρ => .ok d ρ
def mUn (op : D → Option D) (f : Env → R D) : Env → R D := fun ρ => (f ρ).bind fun a ρ1 => ofO ρ1 (op a)
theorem getD_some {ρ : Env} {i : Nat} {d : D} (h : ρ.getD i none = some d) : ρ[i]? = some (some d) := by
  rw [List.getD_eq_getElem?_getD] at h
  cases q : ρ[i]? with
  | none => rw [q] at h; cases h
  | some o => rw [q] at h; exact congrArg some h
/-- which slots stay owned -/
def okG (io Γ' Γ : List Nat) : Bool := Γ'.all (fun i => Γ.contains i) && decide Γ'.Nodup && io.all fun i => Γ'.contains i
theorem okG_of {io Γ' Γ : List Nat} (h : okG io Γ' Γ = true) : (∀ i ∈ Γ', i ∈ Γ) ∧ Γ'.Nodup ∧ ∀ i ∈ io, i ∈ Γ' := by
  simp only [okG, Bool.and_eq_true, List.all_eq_true, List.contains_iff_mem, decide_eq_true_eq] at h
  exact ⟨h.1.1, h.1.2, h.2⟩
section
variable {X : Cx} {C : Ac} {W : WX} {Γ Γ1 Γ2 Γ' : List Nat} {fr fr1 fr2 : Bool} {f h : Env → R D} {e a b : Expr} {pos : Pos}
/-- a frozen value, no object's -/
theorem se_imm {d : D} {v : V} (hp : PE X e (tC v)) (hr : ∀ A, RV ⟨X.K, C.ct⟩ A d v) (hv : ∀ a, v ≠ .ref a) : SE X C W Γ e Γ fr (mC d) := ⟨peImp hp fun σ H Q ⟨hid, ρ, S, p⟩ =>
  p v H [] S (Stp.refl _ _ _) (.fz (hr _) fun _ => hv) fun _ z => nomatch z⟩
theorem se_int {i : Int} {j : Nat} : SE X C W Γ (.Constant (.int i) j pos) Γ fr (mC (.int i)) := se_imm pe_int (fun _ => .int i) (fun _ z => nomatch z)
theorem se_bl {i : Bool} {j : Nat} : SE X C W Γ (.Constant (.bool i) j pos) Γ fr (mC (.bl i)) := se_imm pe_bl (fun _ => .bl i) (fun _ z => nomatch z)
theorem se_str {i : Str} {j : Nat} : SE X C W Γ (.Constant (.str i) j pos) Γ fr (mC (.str i)) := se_imm pe_str (fun _ => .str i) (fun _ z => nomatch z)
theorem se_non {j : Nat} : SE X C W Γ (.Constant .none j pos) Γ fr (mC .non) := se_imm pe_non (fun _ => .non) (fun _ z => nomatch z)
/-- a name that is read alone -/
theorem se_var (i : Nat) {x : Str} (hN : X.N[i]? = some x := by rfl) (hv : Vis X.env.scope x := by first | exact Or.inl rfl | exact Or.inr (Or.inl rfl) | exact Or.inr (Or.inr rfl)) (hΓ : Γ.contains i = false := by rfl)
    (hd : (x == ("__debug__" : Str)) = false := by decide) (hcd : (x == ("__classdict__" : Str)) = false := by decide) : SE X C W Γ (.Name x pos) Γ false (mVar i) := ⟨peImp (pe_var hN hv hd hcd) fun σ H Q ⟨hid, ρ, S, p⟩ => by
  unfold mVar at p
  cases q : ρ.getD i none with
  | none => rw [q] at p; exact p.elim
  | some d =>
    rw [q] at p
    have hi : i ∉ Γ := fun z => by rw [List.contains_iff_mem.mpr z] at hΓ; cases hΓ
    obtain ⟨v, e, r⟩ := S.sl i d hi (getD_some q)
    exact ⟨v, e, p v H [] S (Stp.refl _ _ _) (.fz r fun z => nomatch z) fun _ z => nomatch z⟩⟩
/-- a fresh value, let go -/
theorem se_fz (h : SE X C W Γ e Γ' fr f) : SE X C W Γ e Γ' false f := ⟨peImp h.pe fun σ H Q ⟨hid, ρ, S, p⟩ => by
  refine ⟨hid, ρ, S, ?_⟩
  cases q : f ρ with
  | bad => rw [q] at p; exact p
  | exn e ρ' => rw [q] at p; exact p
  | ok d ρ' =>
    rw [q] at p
    intro v H' tm S' k va ht
    have sub : ∀ a ∈ Ms σ hid Γ', a ∈ Ms σ (tm ++ hid) Γ' := Ms_subH fun a ha => List.mem_append_right _ ha
    exact p v H' [] (S'.forget (fun a ha => List.mem_append_right _ ha) S.sub) ⟨k.le.trans (.of_same (mask_sub sub)), k.fx⟩ (.fz (va.rv sub ht) fun z => nomatch z) fun _ z => nomatch z⟩
/-- d stands at v: read alone, or a temporary's -/
def Kept (g : Gx) (H : Hp) (M tm : List Addr) (d : D) (v : V) : Prop := RV g (mask H M) d v ∨ ∃ a ∈ tm, v = .ref a ∧ Cont g H (mask H M) a d
theorem Kept.of {g : Gx} {H : Hp} {M tm : List Addr} {d : D} {v : V} {b : Bool} (h : Val g H M b d v tm) : Kept g H M tm d v := by
  cases h with
  | fz r _ => exact .inl r
  | fr c => exact .inr ⟨_, by simp, rfl, c⟩
theorem Kept.stp {g : Gx} {H H' : Hp} {M M' tm tm' hid : List Addr} {d : D} {v : V} (h : Kept g H M tm d v) (s : Stp M M' (tm ++ hid) H H') (hs : ∀ a ∈ tm, a ∈ tm') : Kept g H' M' tm' d v := by
  rcases h with r | ⟨a, ha, rfl, c⟩
  · exact .inl (r.mono s.le)
  · exact .inr ⟨a, hs a ha, rfl, c.mono (fun o e => (s.fx a (List.mem_append_left _ ha)).trans e) s.le⟩
theorem Kept.shal {g : Gx} {H : Hp} {M tm : List Addr} {d : D} {v : V} (h : Kept g H M tm d v) : Shal g H (mask H M) d v := by
  rcases h with r | ⟨a, _, rfl, c⟩
  · exact r.shal
  · exact c.shal
theorem Kept.rv {g : Gx} {H : Hp} {M M' tm : List Addr} {d : D} {v : V} (h : Kept g H M tm d v) (s : ∀ a ∈ M', a ∈ M) (ht : ∀ a ∈ tm, a ∉ M') : RV g (mask H M') d v := by
  rcases h with r | ⟨a, ha, rfl, c⟩
  · exact r.mono (.of_same (mask_sub s))
  · exact c.rv (mask_out (ht a ha)) (.of_same (mask_sub s))
/-- two in a row -/
theorem two {σ : L2.St} {H : Hp} {hid : List Addr} {ρ : Env} {Rr : V → V → Hp → Prop} (S : ST X.K C hid Γ ρ σ H)
    (ok : ∀ d1 ρ1 d2 ρ2, f ρ = .ok d1 ρ1 → h ρ1 = .ok d2 ρ2 → ∀ x y H2 tm, ST X.K C (tm ++ hid) Γ2 ρ2 σ H2 → Stp (Ms σ hid Γ) (Ms σ (tm ++ hid) Γ2) hid H H2 → (∀ a ∈ tm, a ∉ Ms σ hid Γ2) →
      Kept (gx X.K C) H2 (Ms σ (tm ++ hid) Γ2) tm d1 x → Kept (gx X.K C) H2 (Ms σ (tm ++ hid) Γ2) tm d2 y → Rr x y H2)
    (b1 : f ρ ≠ .bad) (b2 : ∀ d1 ρ1, f ρ = .ok d1 ρ1 → h ρ1 ≠ .bad)
    (x1 : ∀ e ρ', f ρ = .exn e ρ' → ∀ cls od H', ExR (gx X.K C) H' (mask H' (Ms σ C.hid C.io)) e cls od → ST X.K C C.hid C.io ρ' σ H' → W cls od σ H')
    (x2 : ∀ d1 ρ1 e ρ', f ρ = .ok d1 ρ1 → h ρ1 = .exn e ρ' → ∀ cls od H', ExR (gx X.K C) H' (mask H' (Ms σ C.hid C.io)) e cls od → ST X.K C C.hid C.io ρ' σ H' → W cls od σ H') :
    tE X.K C W Γ Γ1 fr1 f σ H fun x H1 => tE X.K C W Γ1 Γ2 fr2 h σ H1 fun y H2 => Rr x y H2 := by
  refine ⟨hid, ρ, S, ?_⟩
  cases q : f ρ with
  | bad => exact absurd q b1
  | exn e ρ' => exact x1 e ρ' q
  | ok d1 ρ1 =>
    intro x H1 tm1 S1 k1 v1 t1
    refine ⟨tm1 ++ hid, ρ1, S1, ?_⟩
    cases q2 : h ρ1 with
    | bad => exact absurd q2 (b2 _ _ q)
    | exn e ρ' => exact x2 _ _ e ρ' q q2
    | ok d2 ρ2 =>
      intro y H2 tm2 S2 k2 v2 t2
      have e : tm2 ++ (tm1 ++ hid) = (tm2 ++ tm1) ++ hid := (List.append_assoc ..).symm
      rw [e] at S2 k2 v2
      refine ok d1 ρ1 d2 ρ2 q q2 x y H2 (tm2 ++ tm1) S2 (k1.trans k2 fun a ha => List.mem_append_right _ ha) (fun a ha z => ?_) ((Kept.of v1).stp k2 fun a ha => List.mem_append_right _ ha) ?_
      · rcases List.mem_append.mp ha with ha | ha
        · exact t2 a ha (Ms_subH (fun b hb => List.mem_append_right _ hb) a z)
        · rcases mem_Ms.mp z with z | ⟨i, hi, rfl⟩
          · exact t1 a ha (mem_Ms.mpr (.inl z))
          · exact S2.dis i hi (List.mem_append_left _ (List.mem_append_right _ ha))
      · rcases Kept.of v2 with r | ⟨a, ha, r⟩
        · exact .inl r
        · exact .inr ⟨a, List.mem_append_left _ ha, r⟩
/-- temporaries are let go, new objects have come -/
theorem ST.fin {K : PySem.W.Frag} {hid tm : List Addr} {ρ : Env} {σ : L2.St} {H : Hp} (S : ST K C (tm ++ hid) Γ ρ σ H) (hs : ∀ a ∈ C.hid, a ∈ hid) {H' : Hp} (s : Same H H') : ST K C hid Γ ρ σ H' :=
  (S.same s).forget (fun a ha => List.mem_append_right _ ha) hs
theorem Stp.fin {hid tm M : List Addr} {σ : L2.St} {H0 H H' : Hp} (k : Stp M (Ms σ (tm ++ hid) Γ) hid H0 H) (s : Same H H') (trk : ∀ a ∈ hid, H a ≠ none) : Stp M (Ms σ hid Γ) hid H0 H' :=
  ⟨k.le.trans ((HLe.of_same (mask_sub (Ms_subH fun a ha => List.mem_append_right _ ha))).trans (.of_same (mask_keep fun b o _ e => s b o e))), fun a ha => by
    have := k.fx a ha
    rw [← this]
    cases q : H a with
    | none => exact absurd q (trk a ha)
    | some o => exact s a o q⟩
/-- an operation on two values: what its reading asks, from data -/
def OpS (g : Gx) (r : R2) (op : D → D → Option D) : Prop := ∀ (H : Hp) (M : List Addr) (x y : V) (dx dy d : D) (Q : VK), (∀ a ∈ M, H a ≠ none) → Shal g H (mask H M) dx x → Shal g H (mask H M) dy y → op dx dy = some d →
  (∀ v H', Same H H' → RV g (mask H' M) d v → Q v H') → r x y H Q
end
end Ip
namespace Ip
open PySem L2
def asB : D → Option Bool
  | .bl b => some b
  | _ => none
def mTest (f : Env → R D) : Env → R Bool := fun ρ => (f ρ).bind fun d ρ' => ofO ρ' (asB d)
def mNot (f : Env → R Bool) : Env → R Bool := fun ρ => (f ρ).bind fun b ρ' => .ok (!b) ρ'
def mAnd (f g : Env → R Bool) : Env → R Bool := fun ρ => (f ρ).bind fun b ρ' => if b then g ρ' else .ok false ρ'
def mOr (f g : Env → R Bool) : Env → R Bool := fun ρ => (f ρ).bind fun b ρ' => if b then .ok true ρ' else g ρ'
def mAndV (f g : Env → R D) : Env → R D := fun ρ => (f ρ).bind fun d ρ' => match d with
  | .bl true => g ρ'
  | .bl false => .ok (.bl false) ρ'
  | _ => .bad
def mOrV (f g : Env → R D) : Env → R D := fun ρ => (f ρ).bind fun d ρ' => match d with
  | .bl true => .ok (.bl true) ρ'
  | .bl false => g ρ'
  | _ => .bad
def mNotV (f : Env → R D) : Env → R D := fun ρ => (f ρ).bind fun d ρ' => match d with
  | .bl b => .ok (.bl (!b)) ρ'
  | _ => .bad
def mIf (c : Env → R Bool) (f g : Env → R D) : Env → R D := fun ρ => (c ρ).bind fun b ρ' => if b then f ρ' else g ρ'
theorem val_bl {g : Gx} {H : Hp} {M tm : List Addr} {fr b : Bool} {v : V} (h : Val g H M fr (.bl b) v tm) : v = .bl b ∧ tm = [] := by
  cases h with
  | fz r _ => cases r; exact ⟨rfl, rfl⟩
  | fr c => cases c
section
variable {X : Cx} {C : Ac} {W : WX} {Γ Γ1 Γ2 Γ' : List Nat} {fr fr1 fr2 : Bool} {f h : Env → R D} {fb hb' : Env → R Bool} {e a b c : Expr} {pos : Pos} {rest : List Expr}
theorem tT_tE {σ : L2.St} {H : Hp} {Q : Bool → Hp → Prop} (p : tT X.K C W Γ Γ' (mTest f) σ H Q) : tE X.K C W Γ Γ' fr f σ H fun x H' => ∃ k, x = .bl k ∧ Q k H' := by
  obtain ⟨hid, ρ, S, p⟩ := p
  refine ⟨hid, ρ, S, ?_⟩
  unfold mTest at p
  cases q : f ρ with
  | bad => rw [q] at p; exact p
  | exn e ρ' => rw [q] at p; exact p
  | ok d ρ' =>
    rw [q] at p
    intro v H' tm S' k va ht
    dsimp only [R.bind] at p
    cases d with
    | bl b =>
      obtain ⟨rfl, rfl⟩ := val_bl va
      exact ⟨b, rfl, p H' S' k⟩
    | _ => exact (show False from p).elim
theorem sp_val (ha : SE X C W Γ e Γ' fr f) (he : ∀ whole, isTrue e X.env whole = (do let v ← whole; standAt e.pos; holding [v] (truthy v)) := by intro _; rfl) : SP X C W Γ e Γ' (mTest f) :=
  ⟨ptImp (pt_val ha.pe he) fun _ _ _ p => tT_tE p⟩
theorem sp_not (ha : SP X C W Γ a Γ' fb) : SP X C W Γ (.UnaryOp .Not a pos) Γ' (mNot fb) := ⟨ptImp (pt_not ha.pt) fun σ H Q ⟨hid, ρ, S, p⟩ => by
  refine ⟨hid, ρ, S, ?_⟩
  unfold mNot at p
  cases q : fb ρ with
  | bad => rw [q] at p; exact p
  | exn e ρ' => rw [q] at p; exact p
  | ok b ρ' => rw [q] at p; exact p⟩
theorem SW.pt (h : SW X C W Γ e Γ' fb) : SP X C W Γ e Γ' fb := ⟨h.pw.pt⟩
theorem sw_or1 (ha : SP X C W Γ a Γ' fb) : SW X C W Γ (.BoolOp .Or [a] pos) Γ' fb := ⟨pw_or1 ha.pt⟩
theorem ST.weakStp {K : PySem.W.Frag} {hid : List Addr} {σ : L2.St} {H H' : Hp} {M : List Addr} (k : Stp M (Ms σ hid Γ) hid H H') (h : ∀ i ∈ Γ', i ∈ Γ) : Stp M (Ms σ hid Γ') hid H H' := ⟨k.le.trans (.of_same (mask_sub (Ms_sub h))), k.fx⟩
theorem sw_or (ha : SP X C W Γ a Γ1 fb) (hb : SW X C W Γ1 (.BoolOp .Or (b :: rest) pos) Γ2 hb') (hk : okG C.io Γ2 Γ1 = true := by rfl) : SW X C W Γ (.BoolOp .Or (a :: b :: rest) pos) Γ2 (mOr fb hb') :=
  ⟨pwImp (pw_or ha.pt hb.pw) fun σ H Q ⟨hid, ρ, S, p⟩ => by
  refine ⟨hid, ρ, S, ?_⟩
  unfold mOr at p
  cases q : fb ρ with
  | bad => rw [q] at p; exact p
  | exn e ρ' => rw [q] at p; exact p
  | ok b ρ' =>
    rw [q] at p
    intro H1 S1 k1
    dsimp only [R.bind] at p
    cases b with
    | true =>
      obtain ⟨h1, h2, h3⟩ := okG_of hk
      rw [if_pos rfl] at p ⊢
      exact p H1 (S1.weak h1 h2 h3) (ST.weakStp (K := X.K) k1 h1)
    | false =>
      rw [if_neg Bool.false_ne_true] at p ⊢
      refine ⟨hid, ρ', S1, ?_⟩
      cases q2 : hb' ρ' with
      | bad => rw [q2] at p; exact p
      | exn e ρ' => rw [q2] at p; exact p
      | ok b ρ2 =>
        rw [q2] at p
        exact fun H2 S2 k2 => p H2 S2 (k1.trans k2 fun _ z => z)⟩
/-- a second expression behind a value that has no object -/
theorem PostE.pre {hid : List Addr} {σ : L2.St} {H H1 : Hp} {Q : VK} {r : R D} (k : Stp (Ms σ hid Γ) (Ms σ hid Γ1) hid H H1) (p : PostE X.K C W Γ Γ2 fr hid σ H Q r) : PostE X.K C W Γ1 Γ2 fr hid σ H1 Q r := by
  cases r with
  | bad => exact p
  | exn e ρ => exact p
  | ok d ρ => exact fun v H' tm S' k' va ht => p v H' tm S' (k.trans k' fun _ z => z) va ht
inductive Kepts (g : Gx) (H : Hp) (M tm : List Addr) : List D → List V → Prop where
  | nil : Kepts g H M tm [] []
  | cons {d : D} {v : V} {ds : List D} {vs : List V} : Kept g H M tm d v → Kepts g H M tm ds vs → Kepts g H M tm (d :: ds) (v :: vs)
theorem Kepts.length {g : Gx} {H : Hp} {M tm : List Addr} : ∀ {ds : List D} {vs : List V}, Kepts g H M tm ds vs → ds.length = vs.length
  | _, _, .nil => rfl
  | _, _, .cons _ t => by rw [List.length_cons, List.length_cons, t.length]
theorem Kepts.rv {g : Gx} {H : Hp} {M M' tm : List Addr} (s : ∀ a ∈ M', a ∈ M) (ht : ∀ a ∈ tm, a ∉ M') : ∀ {ds : List D} {vs : List V}, Kepts g H M tm ds vs → RVs g (mask H M') ds vs
  | _, _, .nil => .nil
  | _, _, .cons k t => .cons (k.rv s ht) (t.rv s ht)
inductive Shals (g : Gx) (H Hm : Hp) : List D → List V → Prop where
  | nil : Shals g H Hm [] []
  | cons {d : D} {v : V} {ds : List D} {vs : List V} : Shal g H Hm d v → Shals g H Hm ds vs → Shals g H Hm (d :: ds) (v :: vs)
section
variable (K : PySem.W.Frag) (C : Ac) (W : WX)
def PostA (Γ Γ' : List Nat) (hid : List Addr) (σ : L2.St) (H : Hp) (Q : List V → Hp → Prop) : R (List D) → Prop
  | .ok ds ρ' => ∀ vs H' tm, ST K C (tm ++ hid) Γ' ρ' σ H' → Stp (Ms σ hid Γ) (Ms σ (tm ++ hid) Γ') hid H H' → (∀ a ∈ tm, a ∉ Ms σ hid Γ') → Kepts (gx K C) H' (Ms σ (tm ++ hid) Γ') tm ds vs → Q vs H'
  | .exn e ρ' => ∀ cls od H', ExR (gx K C) H' (mask H' (Ms σ C.hid C.io)) e cls od → ST K C C.hid C.io ρ' σ H' → W cls od σ H'
  | .bad => False
def tAs (Γ Γ' : List Nat) (f : Env → R (List D)) : TA := fun σ H Q => ∃ hid ρ, ST K C hid Γ ρ σ H ∧ PostA K C W Γ Γ' hid σ H Q (f ρ)
end
structure SA (X : Cx) (C : Ac) (W : WX) (Γ : List Nat) (es : List Expr) (Γ' : List Nat) (f : Env → R (List D)) : Prop where
  pa : PA X es (tAs X.K C W Γ Γ' f)
  len : ∀ ρ ds ρ', f ρ = .ok ds ρ' → ds.length = es.length
def mNil : Env → R (List D) := fun ρ => .ok [] ρ
def mCons (f : Env → R D) (g : Env → R (List D)) : Env → R (List D) := fun ρ => (f ρ).bind fun d ρ1 => (g ρ1).bind fun ds ρ2 => .ok (d :: ds) ρ2
theorem sa_nil : SA X C W Γ [] Γ mNil := ⟨paImp pa_nil fun σ H Q ⟨hid, ρ, S, p⟩ => p [] H [] S (Stp.refl _ _ _) (fun _ z => nomatch z) .nil, fun ρ ds ρ' e => by cases e; rfl⟩
theorem sa_cons {es : List Expr} {g : Env → R (List D)} (ha : SE X C W Γ a Γ1 fr1 f) (hr : SA X C W Γ1 es Γ2 g) (hs : starEach (a :: es) X.env = (false, eval a X.env) :: starEach es X.env := by rfl) : SA X C W Γ (a :: es) Γ2 (mCons f g) := by
  refine ⟨paImp (pa_cons ha.pe hr.pa hs) fun σ H Q ⟨hid, ρ, S, p⟩ => ⟨hid, ρ, S, ?_⟩, fun ρ ds ρ' e => ?_⟩
  · unfold mCons at p
    cases q : f ρ with
    | bad => rw [q] at p; exact p
    | exn e ρ' => rw [q] at p; exact p
    | ok d ρ1 =>
      rw [q] at p
      dsimp only [R.bind] at p
      intro v H1 tm1 S1 k1 va t1
      refine ⟨tm1 ++ hid, ρ1, S1, ?_⟩
      cases q2 : g ρ1 with
      | bad => rw [q2] at p; exact p
      | exn e ρ' => rw [q2] at p; exact p
      | ok ds ρ2 =>
        rw [q2] at p
        dsimp only at p
        intro vs H2 tm2 S2 k2 t2 ks
        have e : tm2 ++ (tm1 ++ hid) = (tm2 ++ tm1) ++ hid := (List.append_assoc ..).symm
        rw [e] at S2 k2 ks
        have up : ∀ {ds : List D} {vs : List V}, Kepts (gx X.K C) H2 (Ms σ ((tm2 ++ tm1) ++ hid) Γ2) tm2 ds vs → Kepts (gx X.K C) H2 (Ms σ ((tm2 ++ tm1) ++ hid) Γ2) (tm2 ++ tm1) ds vs := by
          intro ds vs h
          induction h with
          | nil => exact .nil
          | cons k _ ih =>
            refine .cons ?_ ih
            rcases k with r | ⟨a, ha, r⟩
            · exact .inl r
            · exact .inr ⟨a, List.mem_append_left _ ha, r⟩
        refine p (v :: vs) H2 (tm2 ++ tm1) S2 (k1.trans k2 fun a ha => List.mem_append_right _ ha) (fun a ha z => ?_) (.cons ((Kept.of va).stp k2 fun a ha => List.mem_append_right _ ha) (up ks))
        rcases List.mem_append.mp ha with ha | ha
        · exact t2 a ha (Ms_subH (fun b hb => List.mem_append_right _ hb) a z)
        · rcases mem_Ms.mp z with z | ⟨i, hi, rfl⟩
          · exact t1 a ha (mem_Ms.mpr (.inl z))
          · exact S2.dis i hi (List.mem_append_left _ (List.mem_append_right _ ha))
  · unfold mCons at e
    cases q : f ρ with
    | bad => rw [q] at e; exact nomatch e
    | exn x ρ' => rw [q] at e; exact nomatch e
    | ok d ρ1 =>
      rw [q] at e
      dsimp only [R.bind] at e
      cases q2 : g ρ1 with
      | bad => rw [q2] at e; exact nomatch e
      | exn x ρ' => rw [q2] at e; exact nomatch e
      | ok ds2 ρ2 =>
        rw [q2] at e
        cases e
        rw [List.length_cons, List.length_cons, hr.len _ _ _ q2]
def mTup (g : Env → R (List D)) : Env → R D := fun ρ => (g ρ).bind fun ds ρ' => .ok (.tup ds) ρ'
def mLst (g : Env → R (List D)) : Env → R D := fun ρ => (g ρ).bind fun ds ρ' => .ok (.lst ds) ρ'
theorem line_le {n : Nat} (h : n ≤ 1000) : n ≤ sizeLine := Nat.le_trans h (by decide)
theorem se_tup {es : List Expr} {x1} {g : Env → R (List D)} (ha : SA X C W Γ es Γ' g) (hl : es.length ≤ 1000 := by decide) : SE X C W Γ (.Tuple es x1 pos) Γ' false (mTup g) := ⟨peImp (pe_tup ha.pa) fun σ H Q ⟨hid, ρ, S, p⟩ => by
  refine ⟨hid, ρ, S, ?_⟩
  unfold mTup at p
  cases q : g ρ with
  | bad => rw [q] at p; exact p
  | exn e ρ' => rw [q] at p; exact p
  | ok ds ρ' =>
    rw [q] at p
    dsimp only [R.bind] at p
    intro vs H1 tm S1 k1 t1 ks
    refine ⟨by rw [← ks.length, ha.len _ _ _ q]; exact line_le hl, fun a hp => ?_⟩
    have s := same_upd (o := HO.tup vs) hp
    refine p (.ref a) _ [] (S1.fin S.sub s) (k1.fin s fun a ha => (S1.trk a (List.mem_append_right _ ha)).1) (.fz ?_ fun z => nomatch z) fun _ z => nomatch z
    have sub : ∀ b ∈ Ms σ hid Γ', b ∈ Ms σ (tm ++ hid) Γ' := Ms_subH fun a ha => List.mem_append_right _ ha
    have hn : a ∉ Ms σ hid Γ' := fun z => S1.none_out hp (sub a z)
    refine .tup (by show mask (upd H1 a (HO.tup vs)) (Ms σ hid Γ') a = _; rw [mask_out hn, upd_same]) ((ks.rv sub t1).mono (.of_same (mask_keep fun b o _ e => s b o e)))⟩
theorem se_lst {es : List Expr} {g : Env → R (List D)} (ha : SA X C W Γ es Γ' g) (hl : es.length ≤ 1000 := by decide) : SE X C W Γ (.List es pos) Γ' true (mLst g) := ⟨peImp (pe_lst ha.pa) fun σ H Q ⟨hid, ρ, S, p⟩ => by
  refine ⟨hid, ρ, S, ?_⟩
  unfold mLst at p
  cases q : g ρ with
  | bad => rw [q] at p; exact p
  | exn e ρ' => rw [q] at p; exact p
  | ok ds ρ' =>
    rw [q] at p
    dsimp only [R.bind] at p
    intro vs H1 tm S1 k1 t1 ks
    refine ⟨by rw [← ks.length, ha.len _ _ _ q]; exact line_le hl, fun a hp => ?_⟩
    have S2 := S1.forget (fun a ha => List.mem_append_right _ ha) S.sub
    have sub : ∀ b ∈ Ms σ hid Γ', b ∈ Ms σ (tm ++ hid) Γ' := Ms_subH fun a ha => List.mem_append_right _ ha
    have k2 : Stp (Ms σ hid Γ) (Ms σ hid Γ') hid H H1 := ⟨k1.le.trans (.of_same (mask_sub sub)), k1.fx⟩
    have kh := S2.holdStp (o := HO.lst vs) hp
    exact p (.ref a) _ [a] (S2.hold hp) (k2.trans kh fun _ z => z) (.fr (.lst upd_same ((ks.rv sub t1).mono kh.le))) fun b hb => by
      rw [List.mem_singleton.mp hb]; exact S2.none_out hp⟩
def mSeq (f g : Env → R Fl) : Env → R Fl := fun ρ => match f ρ with
  | .ok .nx ρ' => g ρ'
  | r => r
def mNx : Env → R Fl := fun ρ => .ok .nx ρ
def mRet (f : Env → R D) : Env → R Fl := fun ρ => (f ρ).bind fun d ρ' => .ok (.rt d) ρ'
def mIfS (c : Env → R Bool) (f g : Env → R Fl) : Env → R Fl := fun ρ => (c ρ).bind fun b ρ' => if b then f ρ' else g ρ'
def mDrop (f : Env → R D) : Env → R Fl := fun ρ => (f ρ).bind fun d ρ' => .ok .nx ρ'
def mSet (i : Nat) (f : Env → R D) : Env → R Fl := fun ρ => (f ρ).bind fun d ρ' => if i < ρ'.length then .ok .nx (ρ'.set i (some d)) else .bad
def isObj : D → Bool
  | .lst _ => true
  | .dic _ _ => true
  | .dit _ _ => true
  | .obj _ _ _ => true
  | _ => false
def mSetO (i : Nat) (f : Env → R D) : Env → R Fl := fun ρ => (f ρ).bind fun d ρ' => if i < ρ'.length ∧ isObj d = true then .ok .nx (ρ'.set i (some d)) else .bad
variable {Γb : List Nat} {st : Stmt} {sts : List Stmt} {fs gs : Env → R Fl}
theorem PostS.pre {Dn : Ends} {σ σ1 : L2.St} {H H1 : Hp} {r : R Fl} (k : Stp (Ms σ C.hid Γ) (Ms σ1 C.hid Γ1) C.hid H H1) (p : PostS X.K C W Γ Γ2 Γb fr Dn σ H r) : PostS X.K C W Γ1 Γ2 Γb fr Dn σ1 H1 r := by
  cases r with
  | bad => exact p
  | exn e ρ => exact p
  | ok d ρ =>
    cases d with
    | nx => exact fun σ' H' S' k' => p σ' H' S' (k.trans k' fun _ z => z)
    | bk => exact fun σ' H' S' k' => p σ' H' S' (k.trans k' fun _ z => z)
    | ct => exact fun σ' H' S' k' => p σ' H' S' (k.trans k' fun _ z => z)
    | rt d => exact fun v σ' H' tm S' k' => p v σ' H' tm S' (k.trans k' fun _ z => z)
theorem ss_nil : SSs X C W Γ [] Γ Γb fr mNx := ⟨pssImp pss_nil fun Dn σ H ⟨ρ, S, p⟩ => p σ H S (Stp.refl _ _ _)⟩
theorem ss_one (h : SS X C W Γ st Γ' Γb fr fs) : SSs X C W Γ [st] Γ' Γb fr fs := ⟨pss_one h.ps⟩
theorem ss_cons (h1 : SS X C W Γ st Γ1 Γb fr fs) (h2 : SSs X C W Γ1 sts Γ2 Γb fr gs) : SSs X C W Γ (st :: sts) Γ2 Γb fr (mSeq fs gs) := ⟨pssImp (pss_cons h1.ps h2.ps) fun Dn σ H ⟨ρ, S, p⟩ => by
  refine ⟨ρ, S, ?_⟩
  unfold mSeq at p
  cases q : fs ρ with
  | bad => rw [q] at p; exact p
  | exn e ρ' => rw [q] at p; exact p
  | ok d ρ' =>
    rw [q] at p
    cases d with
    | nx => exact fun σ' H' S' k' => ⟨ρ', S', PostS.pre k' p⟩
    | bk => exact p
    | ct => exact p
    | rt d => exact p⟩
theorem ss_ret (ha : SE X C W Γ e Γ1 fr f) (hk : okG C.io C.io Γ1 = true := by rfl) : SS X C W Γ (.Return (some e) pos) Γ' Γb fr (mRet f) := ⟨psImp (ps_ret ha.pe) fun Dn σ H ⟨ρ, S, p⟩ => by
  refine ⟨C.hid, ρ, S, ?_⟩
  unfold mRet at p
  cases q : f ρ with
  | bad => rw [q] at p; exact p
  | exn e ρ' => rw [q] at p; exact fun cls od H' x S' => p cls od σ H' x S'
  | ok d ρ' =>
    rw [q] at p
    dsimp only [R.bind] at p
    intro v H1 tm S1 k1 va t1
    obtain ⟨h1, h2, h3⟩ := okG_of hk
    have sub : ∀ a ∈ Ms σ (tm ++ C.hid) C.io, a ∈ Ms σ (tm ++ C.hid) Γ1 := Ms_sub h1
    refine p v σ H1 tm (S1.weak h1 h2 h3) ⟨k1.le.trans (.of_same (mask_sub sub)), k1.fx⟩ ?_ fun a ha z => t1 a ha (Ms_sub h1 a z)
    cases va with
    | fz r hv => exact .fz (r.mono (.of_same (mask_sub sub))) hv
    | fr c => exact .fr (c.mono (fun _ z => z) (.of_same (mask_sub sub)))⟩
theorem ss_if {A B : List Stmt} (hc : SP X C W Γ c Γ1 fb) (ha : SSs X C W Γ1 A Γ2 Γb fr fs) (hb : SSs X C W Γ1 B Γ2 Γb fr gs) : SS X C W Γ (.If c A B pos) Γ2 Γb fr (mIfS fb fs gs) := ⟨psImp (ps_if hc.pt ha.ps hb.ps) fun Dn σ H ⟨ρ, S, p⟩ => by
  refine ⟨C.hid, ρ, S, ?_⟩
  unfold mIfS at p
  cases q : fb ρ with
  | bad => rw [q] at p; exact p
  | exn e ρ' => rw [q] at p; exact fun cls od H' x S' => p cls od σ H' x S'
  | ok b ρ' =>
    rw [q] at p
    dsimp only [R.bind] at p
    intro H1 S1 k1
    cases b with
    | true => rw [if_pos rfl] at p ⊢; exact ⟨ρ', S1, PostS.pre k1 p⟩
    | false => rw [if_neg Bool.false_ne_true] at p ⊢; exact ⟨ρ', S1, PostS.pre k1 p⟩⟩
theorem notin_of {Γ : List Nat} {i : Nat} (h : Γ.contains i = false) : i ∉ Γ := fun z => by rw [List.contains_iff_mem.mpr z] at h; cases h
/-- what a store of a value that is read alone asks -/
theorem put_tE {i : Nat} {Dn : Ends} {σ : L2.St} {H : Hp} (hk : okG C.io Γ2 Γ1 = true) (hi : Γ2.contains i = false) (p : tS X.K C W Γ Γ2 Γb fr (mSet i f) Dn σ H) : tE X.K C W Γ Γ1 false f σ H fun x H1 => Dn.nx (σ.set i (some x)) H1 := by
  obtain ⟨ρ, S, p⟩ := p
  refine ⟨C.hid, ρ, S, ?_⟩
  unfold mSet at p
  cases q : f ρ with
  | bad => rw [q] at p; exact p
  | exn e ρ' => rw [q] at p; exact fun cls od H' x S' => p cls od σ H' x S'
  | ok d ρ' =>
    rw [q] at p
    dsimp only [R.bind] at p
    intro v H1 tm S1 k1 va t1
    cases va with
    | fz r hv =>
      obtain ⟨h1, h2, h3⟩ := okG_of hk
      have S2 : ST X.K C C.hid Γ2 ρ' σ H1 := S1.weak h1 h2 h3
      have r2 := r.mono (.of_same (mask_sub (Ms_sub h1)))
      by_cases il : i < ρ'.length
      · rw [if_pos il] at p
        refine p _ H1 (S2.put (notin_of hi) r2 il) ?_
        rw [Ms_set (notin_of hi)]
        exact ST.weakStp (K := X.K) k1 h1
      · rw [if_neg il] at p; exact p.elim
/-- x = e, read alone from now on -/
theorem ss_set (i : Nat) {x : Str} {pos' : Pos} (hN : X.N.Nodup) (ha : SE X C W Γ e Γ1 false f) (hi : X.N[i]? = some x := by rfl) (hx : Loc X.env.scope x := by first | exact Or.inl rfl | exact Or.inr rfl) (hk : okG C.io Γ2 Γ1 = true := by rfl) (hn : Γ2.contains i = false := by rfl)
    (hs : swapsWith e (some (.Name x pos')) pos.line X.env = pure false := by rfl) (hf : X.fn x = true ∨ X.env.scope.names.lookup x = some .local := by first | exact .inl rfl | exact .inr rfl | assumption) : SS X C W Γ (.Assign [.Name x pos'] e pos) Γ2 Γb fr (mSet i f) :=
  ⟨psImp (ps_set hN hi hx ha.pe hs hf) fun Dn σ H p => put_tE hk hn p⟩
theorem obj_val {g : Gx} {H : Hp} {M tm : List Addr} {b : Bool} {d : D} {v : V} (h : Val g H M b d v tm) (ho : isObj d = true) (hb : b = true) : ∃ a, v = .ref a ∧ tm = [a] ∧ Cont g H (mask H M) a d := by
  cases h with
  | fz r hv =>
    cases r with
    | lst _ _ => exact absurd rfl (hv hb _)
    | dK _ _ _ => exact absurd rfl (hv hb _)
    | dT _ _ _ => exact absurd rfl (hv hb _)
    | obj _ _ _ _ => exact absurd rfl (hv hb _)
    | _ => exact absurd ho Bool.false_ne_true
  | fr c => exact ⟨_, rfl, rfl, c⟩
theorem take_tE {i : Nat} {Dn : Ends} {σ : L2.St} {H : Hp} (hk : okG C.io Γ2 Γ1 = true) (hi : Γ2.contains i = false) (p : tS X.K C W Γ (i :: Γ2) Γb fr (mSetO i f) Dn σ H) : tE X.K C W Γ Γ1 true f σ H fun x H1 => Dn.nx (σ.set i (some x)) H1 := by
  obtain ⟨ρ, S, p⟩ := p
  refine ⟨C.hid, ρ, S, ?_⟩
  unfold mSetO at p
  cases q : f ρ with
  | bad => rw [q] at p; exact p
  | exn e ρ' => rw [q] at p; exact fun cls od H' x S' => p cls od σ H' x S'
  | ok d ρ' =>
    rw [q] at p
    dsimp only [R.bind] at p
    intro v H1 tm S1 k1 va t1
    obtain ⟨h1, h2, h3⟩ := okG_of hk
    by_cases il : i < ρ'.length ∧ isObj d = true
    · rw [if_pos il] at p
      obtain ⟨a, rfl, rfl, c⟩ := obj_val va il.2 rfl
      have S2 : ST X.K C (a :: C.hid) Γ2 ρ' σ H1 := S1.weak h1 h2 h3
      have hi' := notin_of hi
      have c2 : Cont (gx X.K C) H1 (mask H1 (Ms σ (a :: C.hid) Γ2)) a d := c.mono (fun _ z => z) (.of_same (mask_sub (Ms_sub h1)))
      have ha : a ∉ C.hid := fun z => t1 a (by simp) (mem_Ms.mpr (.inl z))
      refine p _ H1 (S2.take hi' c2 il.1 ha fun _ z => z) ⟨?_, k1.fx⟩
      have il' : i < σ.length := by rw [← S2.len]; exact il.1
      have si : sa (σ.set i (some (.ref a))) i = a := sa_eq (List.getElem?_set_self il')
      refine k1.le.trans (.of_same (mask_sub fun b hb => ?_))
      unfold Ms at hb ⊢
      rw [List.map_cons, si, map_sa_set hi'] at hb
      rcases List.mem_append.mp hb with hb | hb
      · exact List.mem_append_left _ (List.mem_cons_of_mem _ hb)
      · rcases List.mem_cons.mp hb with rfl | hb
        · exact List.mem_append_left _ List.mem_cons_self
        · obtain ⟨j, hj, rfl⟩ := List.mem_map.mp hb
          exact List.mem_append_right _ (List.mem_map.mpr ⟨j, h1 j hj, rfl⟩)
    · rw [if_neg il] at p; exact p.elim
/-- x = e, owned from now on -/
theorem ss_setO (i : Nat) {x : Str} {pos' : Pos} (hN : X.N.Nodup) (ha : SE X C W Γ e Γ1 true f) (hi : X.N[i]? = some x := by rfl) (hx : Loc X.env.scope x := by first | exact Or.inl rfl | exact Or.inr rfl) (hk : okG C.io Γ2 Γ1 = true := by rfl) (hn : Γ2.contains i = false := by rfl)
    (hs : swapsWith e (some (.Name x pos')) pos.line X.env = pure false := by rfl) (hf : X.fn x = true ∨ X.env.scope.names.lookup x = some .local := by first | exact .inl rfl | exact .inr rfl | assumption) : SS X C W Γ (.Assign [.Name x pos'] e pos) (i :: Γ2) Γb fr (mSetO i f) :=
  ⟨psImp (ps_set hN hi hx ha.pe hs hf) fun Dn σ H p => take_tE hk hn p⟩
end
end Ip
namespace Ip
open PySem L2 PySem.Spec PyProof.Rows
inductive FR where
  | ok (d : D) (outs : List D) | exn (e : Ex) (outs : List D) | bad
abbrev FSem := List D → FR
def outsOf (io : List Nat) (ρ : Env) : List D := io.filterMap fun i => ρ.getD i none
def fnEnd (io : List Nat) : R Fl → FR
  | .ok (.rt d) ρ => .ok d (outsOf io ρ)
  | .ok .nx ρ => .ok .non (outsOf io ρ)
  | .exn e ρ => .exn e (outsOf io ρ)
  | _ => .bad
def env0 (n : Nat) (ds : List D) : Env := ds.map some ++ List.replicate (n - ds.length) none
def fnSem (n : Nat) (io : List Nat) (body : Env → R Fl) : FSem := fun ds => fnEnd io (body (env0 n ds))
structure CArgs (g : Gx) (io : List Nat) (ds : List D) (vs : List V) (H : Hp) (hid ioA : List Addr) : Prop where
  len : ds.length = vs.length
  ioa : io.map (fun i => vs[i]?) = ioA.map fun a => some (V.ref a)
  nd : ioA.Nodup
  dis : ∀ a ∈ ioA, a ∉ hid
  trk : ∀ a ∈ hid, Hd H a
  tab : TabsOk g.ct (mask H (hid ++ ioA))
  fz : ∀ i d, i ∉ io → ds[i]? = some d → ∃ v, vs[i]? = some v ∧ RV g (mask H (hid ++ ioA)) d v
  own : ∀ i, i ∈ io → ∃ d a, ds[i]? = some d ∧ vs[i]? = some (.ref a) ∧ Cont g H (mask H (hid ++ ioA)) a d
structure CEnd (g : Gx) (io : List Nat) (vs : List V) (H : Hp) (hid ioA : List Addr) (outs : List D) (tm : List Addr) (H' : Hp) : Prop where
  le : HLe (mask H (hid ++ ioA)) (mask H' (hid ++ ioA))
  fx : ∀ a ∈ hid, H' a = H a
  gro : ∀ a, H a ≠ none → H' a ≠ none
  olen : outs.length = io.length
  own : ∀ (k i : Nat) (d : D), io[k]? = some i → outs[k]? = some d → ∃ a, vs[i]? = some (.ref a) ∧ Cont g H' (mask H' (tm ++ (hid ++ ioA))) a d
  tn : ∀ a ∈ tm, H a = none
def PostF (g : Gx) (io : List Nat) (fr : Bool) (vs : List V) (H : Hp) (hid ioA : List Addr) (Q : VK) (E : XK) : FR → Prop
  | .ok d outs => ∀ v H' tm, CEnd g io vs H hid ioA outs tm H' → Val g H' (tm ++ (hid ++ ioA)) fr d v tm → Q v H'
  | .exn e outs => ∀ cls od H', CEnd g io vs H hid ioA outs [] H' → ExR g H' (mask H' (hid ++ ioA)) e cls od → E cls od H'
  | .bad => False
/-- the promise of a def whose semantics is F: n parameters, those in io may be changed -/
def spF (K : PySem.W.Frag) (ct : Str → Option Addr) (n : Nat) (io : List Nat) (fr : Bool) (F : FSem) : Sp := fun vs H Q E => ∃ (ds : List D) (hid ioA : List Addr),
  vs.length = n ∧ CArgs ⟨K, ct⟩ io ds vs H hid ioA ∧ PostF ⟨K, ct⟩ io fr vs H hid ioA Q E (F ds)
theorem outs_get {K : PySem.W.Frag} {C : Ac} {hid : List Addr} {Γ : List Nat} {ρ : Env} {σ : L2.St} {H : Hp} (S : ST K C hid Γ ρ σ H) (hr : C.raw = []) : ∀ (io : List Nat), (∀ i ∈ io, i ∈ Γ) → (outsOf io ρ).length = io.length ∧
    ∀ (k i : Nat) (d : D), io[k]? = some i → (outsOf io ρ)[k]? = some d → ρ[i]? = some (some d)
  | [], _ => ⟨rfl, fun k i d h => by simp at h⟩
  | j :: r, hs => by
    obtain ⟨h1, h2⟩ := outs_get S hr r fun i hi => hs i (List.mem_cons_of_mem _ hi)
    obtain ⟨oj, ej, _, cj⟩ := S.ow j (hs j List.mem_cons_self)
    obtain ⟨dj, rfl, _⟩ := cj.get (by rw [hr]; exact List.not_mem_nil)
    have e : outsOf (j :: r) ρ = dj :: outsOf r ρ := by
      unfold outsOf
      rw [List.filterMap_cons, List.getD_eq_getElem?_getD, ej]
      rfl
    rw [e]
    refine ⟨by rw [List.length_cons, List.length_cons, h1], fun k i d hk ho => ?_⟩
    cases k with
    | zero =>
      have : j = i := Option.some.inj hk
      subst this
      have : dj = d := Option.some.inj ho
      subst this
      exact ej
    | succ k => exact h2 k i d (by simpa using hk) (by simpa using ho)
theorem map_some_inj {α β : Type} {f : α → Option β} {g' : α → β} : ∀ {l : List α} {m : List β}, (∀ a ∈ l, f a = some (g' a)) → l.map f = m.map some → l.map g' = m
  | [], [], _, _ => rfl
  | [], _ :: _, _, h => by simp at h
  | _ :: _, [], _, h => by simp at h
  | a :: l, b :: m, hf, h => by
    rw [List.map_cons, List.map_cons, hf a List.mem_cons_self] at h
    injection h with h1 h2
    rw [List.map_cons, Option.some.inj h1, map_some_inj (fun a ha => hf a (List.mem_cons_of_mem _ ha)) h2]
theorem start_get {N : List Str} {vs : List V} {i : Nat} {v : V} (h : vs[i]? = some v) : (L2.start N vs)[i]? = some (some v) := by
  unfold L2.start
  have hi := (List.getElem?_eq_some_iff.mp h).1
  rw [List.getElem?_append_left (by simpa using hi), List.getElem?_map, h]
  rfl
theorem env0_get {n : Nat} {ds : List D} {i : Nat} {d : D} (h : ds[i]? = some d) : (env0 n ds)[i]? = some (some d) := by
  unfold env0
  have hi := (List.getElem?_eq_some_iff.mp h).1
  rw [List.getElem?_append_left (by simpa using hi), List.getElem?_map, h]
  rfl
theorem env0_some {n : Nat} {ds : List D} {i : Nat} {d : D} (h : (env0 n ds)[i]? = some (some d)) : ds[i]? = some d := by
  unfold env0 at h
  by_cases hi : i < ds.length
  · rw [List.getElem?_append_left (by simpa using hi), List.getElem?_map] at h
    cases e : ds[i]? with
    | none => rw [e] at h; cases h
    | some a => rw [e] at h; cases h; rfl
  · rw [List.getElem?_append_right (by simpa using hi), List.getElem?_replicate] at h
    split at h <;> cases h
theorem ST.begin {K : PySem.W.Frag} {ct : Str → Option Addr} {N : List Str} {io : List Nat} {ds : List D} {vs : List V} {H : Hp} {hid ioA : List Addr} (A : CArgs ⟨K, ct⟩ io ds vs H hid ioA) (hl : vs.length ≤ N.length) :
    ST K ⟨ct, H, hid, io, ioA, []⟩ hid io (env0 N.length ds) (L2.start N vs) H ∧ io.map (sa (L2.start N vs)) = ioA := by
  have pin : io.map (sa (L2.start N vs)) = ioA := by
    refine map_some_inj (f := fun i => match vs[i]? with | some (V.ref a) => some a | _ => none) (fun i hi => ?_) ?_
    · obtain ⟨d, a, _, e2, _⟩ := A.own i hi
      rw [e2]
      exact congrArg some (sa_eq (start_get e2)).symm
    · have h := congrArg (List.map fun (o : Option V) => match o with | some (V.ref a) => some a | _ => none) A.ioa
      rw [List.map_map, List.map_map] at h
      exact h
  have hM : Ms (L2.start N vs) hid io = hid ++ ioA := by unfold Ms; rw [pin]
  refine ⟨⟨?_, fun _ z => z, A.trk, fun a ha => .inl ha, by rw [pin]; exact A.nd, fun i hi => ?_, fun i hi => ?_, ⟨.refl _, A.tab⟩, fun _ _ => rfl, fun _ z => z, fun _ z => z, pin, fun i d hi e => ?_, fun i hi => ?_⟩, pin⟩
  · unfold env0 L2.start
    rw [List.length_append, List.length_append, List.length_map, List.length_map, List.length_replicate, List.length_replicate, A.len]
  · exact A.dis _ (by rw [← pin]; exact List.mem_map_of_mem hi)
  · exact .inl (by rw [← pin]; exact List.mem_map_of_mem hi)
  · obtain ⟨v, e1, r⟩ := A.fz i d hi (env0_some e)
    exact ⟨v, start_get e1, by rw [hM]; exact r⟩
  · obtain ⟨d, a, e1, e2, c⟩ := A.own i hi
    have es := sa_eq (start_get (N := N) e2)
    exact ⟨_, env0_get e1, by rw [es]; exact start_get e2, by rw [hM, es]; exact .own c⟩
theorem ST.cend {K : PySem.W.Frag} {ct : Str → Option Addr} {io : List Nat} {ds : List D} {vs : List V} {H : Hp} {hid ioA : List Addr} (A : CArgs ⟨K, ct⟩ io ds vs H hid ioA) {tm : List Addr} {ρ : Env} {σ : L2.St} {H' : Hp}
    (S : ST K ⟨ct, H, hid, io, ioA, []⟩ (tm ++ hid) io ρ σ H') (ht : ∀ a ∈ tm, a ∉ Ms σ hid io) : CEnd ⟨K, ct⟩ io vs H hid ioA (outsOf io ρ) tm H' ∧ Ms σ (tm ++ hid) io = tm ++ (hid ++ ioA) ∧ Ms σ hid io = hid ++ ioA := by
  have pin : io.map (sa σ) = ioA := S.pin
  have hM : Ms σ (tm ++ hid) io = tm ++ (hid ++ ioA) := by unfold Ms; rw [pin, List.append_assoc]
  obtain ⟨o1, o2⟩ := outs_get S rfl io fun _ z => z
  refine ⟨⟨S.frm.toHLe, S.frh, S.gro, o1, fun k i d hk ho => ?_, fun a ha => ?_⟩, hM, by unfold Ms; rw [pin]⟩
  · have e1 := o2 k i d hk ho
    have hi := List.mem_of_getElem? hk
    obtain ⟨d', e2, e3, c⟩ := S.ow i hi
    rw [e1] at e2; cases e2
    have c := c.cont
    refine ⟨sa σ i, ?_, by rw [← hM]; exact c⟩
    have h := congrArg (fun l => l[k]?) A.ioa
    simp only [List.getElem?_map, hk, Option.map_some] at h
    rw [← pin] at h
    simp only [List.getElem?_map, hk, Option.map_some] at h
    exact Option.some.inj h
  · rcases S.tmp a (List.mem_append_left _ ha) with z | z
    · exact absurd (mem_Ms.mpr (.inl z)) (ht a ha)
    · exact z
/-- the body of a def as its semantics tells -/
theorem body_sp {X : Cx} {K : PySem.W.Frag} {ct : Str → Option Addr} {N : List Str} {io : List Nat} {n : Nat} {fr : Bool} {f : Env → R Fl} {bd : List Stmt} {vs : List V} {H : Hp} {Q : VK} {E : XK} {W : WX} (hX : X.K = K) (hW : ∀ cls od σ H', E cls od H' → W cls od σ H')
    (hb : ∀ (hid ioA : List Addr), SSs X ⟨ct, H, hid, io, ioA, []⟩ W io bd io [] fr f) (hl : n ≤ N.length) (h : spF K ct n io fr (fnSem N.length io f) vs H Q E) :
    ∃ t, PSs X bd t ∧ t { nx := fun _ H' => Q .non H', rt := Q } (L2.start N vs) H := by
  subst hX
  obtain ⟨ds, hid, ioA, hn, A, p⟩ := h
  refine ⟨_, (hb hid ioA).ps, ?_⟩
  obtain ⟨S, pin⟩ := ST.begin (N := N) A (by rw [hn]; exact hl)
  refine ⟨_, S, ?_⟩
  unfold fnSem at p
  cases q : f (env0 N.length ds) with
  | bad => rw [q] at p; exact p
  | exn e ρ' =>
    rw [q] at p
    intro cls od σ' H' x S'
    obtain ⟨c, _, hM⟩ := ST.cend (tm := []) A S' fun _ z => nomatch z
    exact hW _ _ _ _ (p cls od H' c (by rw [← hM]; exact x))
  | ok fl ρ' =>
    rw [q] at p
    cases fl with
    | bk => exact (show False from p).elim
    | ct => exact (show False from p).elim
    | nx =>
      intro σ' H' S' _
      obtain ⟨c, _, hM⟩ := ST.cend (tm := []) A S' fun _ z => nomatch z
      exact p .non H' [] c (.fz .non fun _ _ z => nomatch z)
    | rt d =>
      intro v σ' H' tm S' _ va ht
      obtain ⟨c, hM, _⟩ := ST.cend A S' ht
      exact p v H' tm c (by rw [← hM]; exact va)
theorem spF_len {K : PySem.W.Frag} {ct : Str → Option Addr} {n : Nat} {io : List Nat} {fr : Bool} {F : FSem} {ps : List Str} (h : n = ps.length) : ∀ vs H Q E, spF K ct n io fr F vs H Q E → vs.length = ps.length := fun vs H Q E ⟨_, _, _, e, _⟩ => e.trans h
end Ip
namespace Ip
open PySem L2 PySem.Spec PyProof.Rows
theorem HLe.hold {H H' : Hp} {M tm : List Addr} (le : HLe (mask H M) (mask H' M)) (tn : ∀ a ∈ tm, H a = none) (hd : ∀ a ∈ tm ++ M, Hd H' a) : HLe (mask H M) (mask H' (tm ++ M)) := by
  have out : ∀ b o, mask H M b = some o → b ∉ tm := fun b o e z => by
    have := (mask_some e).2
    rw [tn b z] at this; cases this
  have go : ∀ b u, b ∉ tm → mask H' M b = some u → mask H' (tm ++ M) b = some u := fun b u n e => by
    obtain ⟨h1, h2⟩ := mask_some e
    rw [mask_out (fun z => (List.mem_append.mp z).elim n h1)]; exact h2
  refine ⟨fun b o e n => go b o (out b o e) (le.o b o e n), fun b kv e => ?_, fun b kv e => ?_, fun P t => (le.tb P t).mask hd⟩
  · have nb : b ∉ tm := e.elim (fun e => out b _ e) fun ⟨o, e⟩ => out b _ e
    exact (le.k b kv e).elim (fun e => .inl (go b _ nb e)) fun ⟨o, e⟩ => .inr ⟨o, go b _ nb e⟩
  · have nb : b ∉ tm := e.elim (fun e => out b _ e) fun ⟨o, e⟩ => out b _ e
    exact (le.t b kv e).elim (fun e => .inl (go b _ nb e)) fun ⟨o, e⟩ => .inr ⟨o, go b _ nb e⟩
section
variable {K : PySem.W.Frag} {C : Ac} {hid tm : List Addr} {Γ : List Nat} {ρ ρ' : Env} {σ : L2.St} {H H' : Hp}
/-- the heap goes on, owned objects may change, temporaries come -/
theorem ST.goes (S : ST K C hid Γ ρ σ H) (le : HLe (mask H (Ms σ hid Γ)) (mask H' (Ms σ hid Γ))) (fx : ∀ a ∈ hid, H' a = H a) (gro : ∀ a, H a ≠ none → H' a ≠ none) (tn : ∀ a ∈ tm, H a = none) (tt : ∀ a ∈ tm, Hd H' a)
    (hl : ρ'.length = ρ.length) (hs : ∀ j, j ∉ Γ → ρ'[j]? = ρ[j]?) (ho : ∀ j, j ∈ Γ → (ρ'[j]? = ρ[j]? ∧ H' (sa σ j) = H (sa σ j)) ∨ ∃ d, ρ'[j]? = some (some d) ∧ Cont (gx K C) H' (mask H' (tm ++ Ms σ hid Γ)) (sa σ j) d) :
    ST K C (tm ++ hid) Γ ρ' σ H' ∧ Stp (Ms σ hid Γ) (Ms σ (tm ++ hid) Γ) hid H H' := by
  have eM : Ms σ (tm ++ hid) Γ = tm ++ Ms σ hid Γ := by unfold Ms; rw [List.append_assoc]
  have hd2 : ∀ a ∈ Ms σ hid Γ, Hd H' a := fun a ha => by
    rcases mem_Ms.mp ha with h | ⟨i, hi, rfl⟩
    · exact (S.trk a h).of (fx a h)
    · rcases ho i hi with ⟨_, e⟩ | ⟨d, _, c⟩
      · exact (S.hdM _ ha).of e
      · exact c.hd
  have leh := le.hold tn fun a ha => (List.mem_append.mp ha).elim (tt a) (hd2 a)
  have h0 : ∀ a ∈ tm, C.H0 a = none := fun a ha => by
    cases q : C.H0 a with
    | none => rfl
    | some u => exact absurd (tn a ha) (S.gro a (by rw [q]; simp))
  -- the frame
  have out : ∀ b, b ∉ C.hid ++ C.ioA → C.H0 b ≠ none → b ∉ Ms σ hid Γ := fun b hb hn hM => by
    rcases mem_Ms.mp hM with q | ⟨i, hi, rfl⟩
    · rcases S.tmp b q with z | z
      · exact hb (List.mem_append_left _ z)
      · exact hn z
    · rcases S.own i hi with z | z
      · exact hb (List.mem_append_right _ z)
      · exact hn z
  have frm : Frm C.ct (mask C.H0 (C.hid ++ C.ioA)) (mask H' (C.hid ++ C.ioA)) := by
    refine ⟨⟨fun b o e n => ?_, fun b kv e => ?_, fun b kv e => ?_, fun P t => (le.tb P ((S.frm.tb P t).mask S.hdM)).mask fun a ha => hd2 a (S.sub0 a ha)⟩, S.frm.tab⟩
    · obtain ⟨h1, h2⟩ := mask_some e
      have e2 := (mask_some (S.frm.o b o e n)).2
      have hM := out b h1 (by rw [h2]; simp)
      have := le.o b o (by rw [mask_out hM]; exact e2) n
      rw [mask_out hM] at this
      rw [mask_out h1]; exact this
    · have hb : b ∉ C.hid ++ C.ioA ∧ C.H0 b ≠ none := by
        rcases e with e | ⟨o, e⟩ <;> exact ⟨(mask_some e).1, by rw [(mask_some e).2]; simp⟩
      have hM := out b hb.1 hb.2
      have r2 : Rd (mask H (Ms σ hid Γ)) b (.dK kv) := by
        rcases S.frm.k b kv e with r | ⟨o, r⟩
        · exact .inl (by rw [mask_out hM]; exact (mask_some r).2)
        · exact .inr ⟨o, by rw [mask_out hM]; exact (mask_some r).2⟩
      rcases le.k b kv r2 with r | ⟨o, r⟩
      · exact .inl (by rw [mask_out hb.1]; exact (mask_some r).2)
      · exact .inr ⟨o, by rw [mask_out hb.1]; exact (mask_some r).2⟩
    · have hb : b ∉ C.hid ++ C.ioA ∧ C.H0 b ≠ none := by
        rcases e with e | ⟨o, e⟩ <;> exact ⟨(mask_some e).1, by rw [(mask_some e).2]; simp⟩
      have hM := out b hb.1 hb.2
      have r2 : Rd (mask H (Ms σ hid Γ)) b (.dT kv) := by
        rcases S.frm.t b kv e with r | ⟨o, r⟩
        · exact .inl (by rw [mask_out hM]; exact (mask_some r).2)
        · exact .inr ⟨o, by rw [mask_out hM]; exact (mask_some r).2⟩
      rcases le.t b kv r2 with r | ⟨o, r⟩
      · exact .inl (by rw [mask_out hb.1]; exact (mask_some r).2)
      · exact .inr ⟨o, by rw [mask_out hb.1]; exact (mask_some r).2⟩
  refine ⟨⟨hl.trans S.len, fun a ha => List.mem_append_right _ (S.sub a ha), fun a ha => ?_, fun a ha => ?_, S.nd, fun i hi q => ?_, S.own, frm, fun a ha => (fx a (S.sub a ha)).trans (S.frh a ha), fun a ha => gro a (S.gro a ha), S.io, S.pin, fun j d hj e => ?_, fun j hj => ?_⟩,
    by rw [eM]; exact leh, fx⟩
  · rcases List.mem_append.mp ha with ha | ha
    · exact tt a ha
    · exact (S.trk a ha).of (fx a ha)
  · rcases List.mem_append.mp ha with ha | ha
    · exact .inr (h0 a ha)
    · exact S.tmp a ha
  · rcases List.mem_append.mp q with q | q
    · obtain ⟨d, _, _, c⟩ := S.ow i hi
      exact c.trk (tn _ q)
    · exact S.dis i hi q
  · rw [hs j hj] at e
    obtain ⟨v, e1, r⟩ := S.sl j d hj e
    exact ⟨v, e1, by rw [eM]; exact r.mono leh⟩
  · obtain ⟨d, e1, e2, c⟩ := S.ow j hj
    rw [eM]
    rcases ho j hj with ⟨z1, z2⟩ | ⟨d', z1, z2⟩
    · exact ⟨d, z1.trans e1, e2, c.mono (fun o e => z2.trans e) leh⟩
    · exact ⟨_, z1, e2, .own z2⟩
end
structure Fn (P : Program) (w : World) (K : PySem.W.Frag) (mg : Str → Option Value) (base : Heap) (ct : Str → Option Addr) (x : Str) (k n : Nat) (io : List Nat) (fr : Bool) (F : FSem) : Prop where
  ex : ∃ (f : Addr) (fd : FuncData) (ps : List Str), FnOk P w K mg base (L2.CX P w) k f fd ps (spF K ct n io fr F) ∧ mg x = some (.ref f) ∧ PySem.W.keepIn K (.ref f) = true ∧ Binds K fd ps []
def frR (ρ : Env) : FR → R D
  | .ok d _ => .ok d ρ
  | .exn e _ => .exn e ρ
  | .bad => .bad
def frR1 (i : Nat) (ρ : Env) : FR → R D
  | .ok d [c] => .ok d (ρ.set i (some c))
  | .exn e [c] => .exn e (ρ.set i (some c))
  | _ => .bad
def mCall0 (F : FSem) (g : Env → R (List D)) : Env → R D := fun ρ => (g ρ).bind fun ds ρ1 => frR ρ1 (F ds)
def mCall1 (F : FSem) (p i : Nat) (g : Env → R (List D)) : Env → R D := fun ρ => (g ρ).bind fun ds ρ1 => match ρ1.getD i none with
  | some c => frR1 i ρ1 (F (ds.set p c))
  | none => .bad
theorem RVs.at {g : Gx} {H : Hp} {ds : List D} {vs : List V} (r : RVs g H ds vs) : ∀ (i : Nat) (d : D), ds[i]? = some d → ∃ v, vs[i]? = some v ∧ RV g H d v := fun i d e => r.get e
theorem val_trk {g : Gx} {H : Hp} {M tm : List Addr} {b : Bool} {d : D} {v : V} (h : Val g H M b d v tm) : ∀ a ∈ tm, Hd H a := by
  cases h with
  | fz _ _ => exact fun _ z => nomatch z
  | fr c => intro a ha; rw [List.mem_singleton.mp ha]; exact c.hd
section
variable {X : Cx} {C : Ac} {W : WX} {Γ Γ1 Γ' : List Nat} {fr : Bool} {e : Expr} {es : List Expr} {g : Env → R (List D)} {x : Str} {p pos : Pos} {k n : Nat} {F : FSem}
/-- what the callee's promise asks, from the caller's state (no parameter is changed) -/
theorem sp_call0 {hid tm : List Addr} {ρ1 : Env} {σ : L2.St} {H H1 : Hp} {Q : VK} {ds : List D} {vs : List V} (hn : n = ds.length)
    (S1 : ST X.K C (tm ++ hid) Γ' ρ1 σ H1) (hs : ∀ a ∈ C.hid, a ∈ hid) (k1 : Stp (Ms σ hid Γ) (Ms σ (tm ++ hid) Γ') hid H H1) (t1 : ∀ a ∈ tm, a ∉ Ms σ hid Γ') (ks : Kepts (gx X.K C) H1 (Ms σ (tm ++ hid) Γ') tm ds vs)
    (hio : okG C.io C.io Γ' = true) (q : PostE X.K C W Γ Γ' fr hid σ H Q (frR ρ1 (F ds))) : spF X.K C.ct n [] fr F vs H1 Q (WE W σ) := by
  have sub : ∀ b ∈ Ms σ hid Γ', b ∈ Ms σ (tm ++ hid) Γ' := Ms_subH fun a ha => List.mem_append_right _ ha
  have S2 := S1.forget (fun a ha => List.mem_append_right _ ha) hs
  have rv : RVs (gx X.K C) (mask H1 (Ms σ hid Γ')) ds vs := ks.rv sub t1
  have k2 : Stp (Ms σ hid Γ) (Ms σ hid Γ') hid H H1 := ⟨k1.le.trans (.of_same (mask_sub sub)), k1.fx⟩
  refine ⟨ds, Ms σ hid Γ', [], ks.length ▸ hn.symm, ⟨ks.length, rfl, List.nodup_nil, (fun _ z => nomatch z), S2.hdM, by rw [List.append_nil]; exact S2.tabs, fun i d _ e => ?_, (fun i z => nomatch z)⟩, ?_⟩
  · rw [List.append_nil]; exact rv.at i d e
  · -- behind the call
    have go : ∀ {outs : List D} {tm' : List Addr} {H' : Hp}, CEnd (gx X.K C) [] vs H1 (Ms σ hid Γ') [] outs tm' H' → (∀ a ∈ tm', Hd H' a) → ST X.K C (tm' ++ hid) Γ' ρ1 σ H' ∧ Stp (Ms σ hid Γ') (Ms σ (tm' ++ hid) Γ') hid H1 H' := by
      intro outs tm' H' c tt
      have le := c.le
      rw [List.append_nil] at le
      exact S2.goes le (fun a ha => c.fx a (mem_Ms.mpr (.inl ha))) c.gro c.tn tt rfl (fun _ _ => rfl) fun j hj => .inl ⟨rfl, c.fx _ (mem_Ms.mpr (.inr ⟨j, hj, rfl⟩))⟩
    cases qq : F ds with
    | bad => rw [qq] at q; exact q
    | exn e outs =>
      rw [qq] at q
      intro cls od H' c xr
      obtain ⟨S3, _⟩ := go c fun _ z => nomatch z
      obtain ⟨h1, h2, h3⟩ := okG_of hio
      have S4 : ST X.K C C.hid C.io ρ1 σ H' := (ST.forget S3 (hid' := C.hid) (fun a ha => hs a ha) fun _ z => z).weak h1 h2 h3
      refine q cls od H' ?_ S4
      rw [List.append_nil] at xr
      obtain ⟨Cc, x1, x2, x3⟩ := xr
      refine ⟨Cc, x1, x2, ?_⟩
      cases qf : e.fld with
      | none => rw [qf] at x3; exact x3
      | some d =>
        rw [qf] at x3
        obtain ⟨dd, v, y1, y2, y3⟩ := x3
        exact ⟨dd, v, y1, y2, y3.mono (.of_same (mask_sub fun a ha => by
          rcases mem_Ms.mp ha with z | ⟨j, hj, z⟩
          · exact mem_Ms.mpr (.inl (hs a z))
          · exact mem_Ms.mpr (.inr ⟨j, h1 j hj, z⟩)))⟩
    | ok d outs =>
      rw [qq] at q
      intro v H' tm' c va
      obtain ⟨S3, k3⟩ := go c (val_trk va)
      refine q v H' tm' S3 (k2.trans k3 fun _ z => z) ?_ fun a ha z => S2.none_out (c.tn a ha) z
      rw [List.append_nil] at va
      have eM : Ms σ (tm' ++ hid) Γ' = tm' ++ Ms σ hid Γ' := by unfold Ms; rw [List.append_assoc]
      rw [eM]; exact va
theorem call0_tE {t : TE} {σ : L2.St} {H : Hp} {Q : VK} (ha : SA X C W Γ es Γ' g) (hn : n = es.length) (hio : okG C.io C.io Γ' = true) (p : tE X.K C W Γ Γ' fr (mCall0 F g) σ H Q) :
    tAs X.K C W Γ Γ' g σ H fun vs H1 => spF X.K C.ct n [] fr F vs H1 Q (WE W σ) := by
  obtain ⟨hid, ρ, S, p⟩ := p
  refine ⟨hid, ρ, S, ?_⟩
  unfold mCall0 at p
  cases q : g ρ with
  | bad => rw [q] at p; exact p
  | exn e ρ' => rw [q] at p; exact p
  | ok ds ρ1 =>
    rw [q] at p
    exact fun vs H1 tm S1 k1 t1 ks => sp_call0 (by rw [ha.len _ _ _ q]; exact hn) S1 S.sub k1 t1 ks hio p
/-- f(e, ..) of a def that changes no argument -/
theorem se_call0 (G : Fn X.prog X.w X.K X.mg X.base C.ct x k n [] fr F) (tk : Takes X W) (hr : Room k X.A) (ha : SA X C W Γ (e :: es) Γ' g) (hn : n = (e :: es).length := by rfl) (hg : Gl X x := by rfl) (hio : okG C.io C.io Γ' = true := by rfl) (hdb : (x == ("__debug__" : Str)) = false := by decide)
    (he : starEach (e :: es) X.env = (false, eval e X.env) :: starEach es X.env := by rfl) (hpl : (backTo pos (starEach es X.env)).any (·.1) = false := by rfl) : SE X C W Γ (.Call (.Name x p) (e :: es) [] pos) Γ' fr (mCall0 F g) := by
  obtain ⟨f, fd, ps, G, hm, hk, hb⟩ := G.ex
  exact ⟨peImp (pe_callS G hr hg hm hk hb (passAt tk) ha.pa hdb he hpl) fun σ H Q p => call0_tE (t := fun _ _ _ => True) ha hn hio p⟩
inductive K1 (g : Gx) (H : Hp) (M tm : List Addr) (a : Addr) : Nat → List D → List V → Prop where
  | here {d : D} {ds : List D} {vs : List V} : Kepts g H M tm ds vs → K1 g H M tm a 0 (d :: ds) (.ref a :: vs)
  | cons {p : Nat} {d : D} {v : V} {ds : List D} {vs : List V} : Kept g H M tm d v → K1 g H M tm a p ds vs → K1 g H M tm a (p + 1) (d :: ds) (v :: vs)
def PostA1 (K : PySem.W.Frag) (C : Ac) (W : WX) (p i : Nat) (Γ Γ' : List Nat) (hid : List Addr) (σ : L2.St) (H : Hp) (Q : List V → Hp → Prop) : R (List D) → Prop
  | .ok ds ρ' => ∀ vs H' tm, ST K C (tm ++ hid) Γ' ρ' σ H' → Stp (Ms σ hid Γ) (Ms σ (tm ++ hid) Γ') hid H H' → (∀ a ∈ tm, a ∉ Ms σ hid Γ') → K1 (gx K C) H' (Ms σ (tm ++ hid) Γ') tm (sa σ i) p ds vs → Q vs H'
  | .exn e ρ' => ∀ cls od H', ExR (gx K C) H' (mask H' (Ms σ C.hid C.io)) e cls od → ST K C C.hid C.io ρ' σ H' → W cls od σ H'
  | .bad => False
structure SA1 (X : Cx) (C : Ac) (W : WX) (p i : Nat) (Γ : List Nat) (es : List Expr) (Γ' : List Nat) (f : Env → R (List D)) : Prop where
  pa : PA X es fun σ H Q => ∃ hid ρ, ST X.K C hid Γ ρ σ H ∧ PostA1 X.K C W p i Γ Γ' hid σ H Q (f ρ)
  len : ∀ ρ ds ρ', f ρ = .ok ds ρ' → ds.length = es.length
def mIo (g : Env → R (List D)) : Env → R (List D) := fun ρ => (g ρ).bind fun ds ρ' => .ok (.non :: ds) ρ'
theorem sa_io (i : Nat) {y : Str} {yp : Pos} (hr : SA X C W Γ es Γ' g) (hN : X.N[i]? = some y := by rfl) (hv : Vis X.env.scope y := by first | exact Or.inl rfl | exact Or.inr (Or.inl rfl) | exact Or.inr (Or.inr rfl)) (hi : Γ.contains i = true := by rfl)
    (hd : (y == ("__debug__" : Str)) = false := by decide) (hcd : (y == ("__classdict__" : Str)) = false := by decide) (hs : starEach (.Name y yp :: es) X.env = (false, eval (.Name y yp) X.env) :: starEach es X.env := by rfl) : SA1 X C W 0 i Γ (.Name y yp :: es) Γ' (mIo g) := by
  refine ⟨paImp (pa_cons (pe_var hN hv hd hcd) hr.pa hs) fun σ H Q ⟨hid, ρ, S, p⟩ => ?_, fun ρ ds ρ' e => ?_⟩
  · obtain ⟨d, e1, e2, c⟩ := S.ow i (List.contains_iff_mem.mp hi)
    refine ⟨_, e2, hid, ρ, S, ?_⟩
    unfold mIo at p
    cases q : g ρ with
    | bad => rw [q] at p; exact p
    | exn e ρ' => rw [q] at p; exact p
    | ok ds ρ1 =>
      rw [q] at p
      exact fun vs H1 tm S1 k1 t1 ks => p _ H1 tm S1 k1 t1 (.here ks)
  · unfold mIo at e
    cases q : g ρ with
    | bad => rw [q] at e; exact nomatch e
    | exn x ρ' => rw [q] at e; exact nomatch e
    | ok ds2 ρ2 =>
      rw [q] at e
      cases e
      rw [List.length_cons, List.length_cons, hr.len _ _ _ q]
theorem K1.len {g : Gx} {H : Hp} {M tm : List Addr} {a : Addr} {p : Nat} {ds : List D} {vs : List V} (h : K1 g H M tm a p ds vs) : ds.length = vs.length := by
  induction h with
  | here k => rw [List.length_cons, List.length_cons, k.length]
  | cons _ _ ih => rw [List.length_cons, List.length_cons, ih]
theorem K1.at {g : Gx} {H : Hp} {M tm : List Addr} {a : Addr} {p : Nat} {ds : List D} {vs : List V} (h : K1 g H M tm a p ds vs) : vs[p]? = some (.ref a) := by
  induction h with
  | here k => rfl
  | cons _ _ ih => simpa using ih
theorem K1.lt {g : Gx} {H : Hp} {M tm : List Addr} {a : Addr} {p : Nat} {ds : List D} {vs : List V} (h : K1 g H M tm a p ds vs) : p < ds.length := by
  induction h with
  | here k => simp
  | cons _ _ ih => simpa using ih
theorem K1.rv {g : Gx} {H : Hp} {M M' tm : List Addr} {a : Addr} {p : Nat} {ds : List D} {vs : List V} (s : ∀ a ∈ M', a ∈ M) (ht : ∀ a ∈ tm, a ∉ M') (h : K1 g H M tm a p ds vs) : ∀ (j : Nat) (d : D), j ≠ p → ds[j]? = some d → ∃ v, vs[j]? = some v ∧ RV g (mask H M') d v := by
  induction h with
  | here k =>
    intro j d hj e
    cases j with
    | zero => exact absurd rfl hj
    | succ j =>
      obtain ⟨v, h1, h2⟩ := (k.rv s ht).get (i := j) (d := d) (by simpa using e)
      exact ⟨v, by simpa using h1, h2⟩
  | cons k _ ih =>
    intro j d hj e
    cases j with
    | zero =>
      have : _ = d := Option.some.inj e
      subst this
      exact ⟨_, rfl, k.rv s ht⟩
    | succ j =>
      obtain ⟨v, h1, h2⟩ := ih j d (fun z => hj (by rw [z])) (by simpa using e)
      exact ⟨v, by simpa using h1, h2⟩
theorem sp_call1 {p i : Nat} {hid tm : List Addr} {ρ1 : Env} {σ : L2.St} {H H1 : Hp} {Q : VK} {ds : List D} {vs : List V} {c0 : D} (hn : n = ds.length) (hi : i ∈ Γ') (hc : ρ1.getD i none = some c0)
    (S1 : ST X.K C (tm ++ hid) Γ' ρ1 σ H1) (hs : ∀ a ∈ C.hid, a ∈ hid) (k1 : Stp (Ms σ hid Γ) (Ms σ (tm ++ hid) Γ') hid H H1) (t1 : ∀ a ∈ tm, a ∉ Ms σ hid Γ') (ks : K1 (gx X.K C) H1 (Ms σ (tm ++ hid) Γ') tm (sa σ i) p ds vs)
    (hio : okG C.io C.io Γ' = true) (q : PostE X.K C W Γ Γ' fr hid σ H Q (frR1 i ρ1 (F (ds.set p c0)))) : spF X.K C.ct n [p] fr F vs H1 Q (WE W σ) := by
  have sub : ∀ b ∈ Ms σ hid Γ', b ∈ Ms σ (tm ++ hid) Γ' := Ms_subH fun a ha => List.mem_append_right _ ha
  have S2 := S1.forget (fun a ha => List.mem_append_right _ ha) hs
  have k2 : Stp (Ms σ hid Γ) (Ms σ hid Γ') hid H H1 := ⟨k1.le.trans (.of_same (mask_sub sub)), k1.fx⟩
  have hM : sa σ i ∈ Ms σ hid Γ' := mem_Ms.mpr (.inr ⟨i, hi, rfl⟩)
  have eq : ∀ a, a ∈ ((Ms σ hid Γ').filter fun b => decide (b ≠ sa σ i)) ++ [sa σ i] ↔ a ∈ Ms σ hid Γ' := fun a => by
    simp only [List.mem_append, List.mem_filter, List.mem_singleton, decide_eq_true_eq]
    constructor
    · rintro (h | h)
      · exact h.1
      · rw [h]; exact hM
    · intro h
      by_cases z : a = sa σ i
      · exact .inr z
      · exact .inl ⟨h, z⟩
  have em : ∀ A : Hp, mask A (((Ms σ hid Γ').filter fun b => decide (b ≠ sa σ i)) ++ [sa σ i]) = mask A (Ms σ hid Γ') := fun A => mask_congr eq
  obtain ⟨d0, e1, e2, cc⟩ := S2.ow i hi
  have e1' := getD_some hc
  rw [e1] at e1'; cases e1'
  have cc := cc.cont
  have pl : p < ds.length := ks.lt
  refine ⟨ds.set p c0, (Ms σ hid Γ').filter fun b => decide (b ≠ sa σ i), [sa σ i], ks.len ▸ hn.symm, ⟨by rw [List.length_set]; exact ks.len, by rw [List.map_singleton, List.map_singleton, ks.at], by simp, fun a ha z => ?_, fun a ha => S2.hdM a (List.mem_filter.mp ha).1, by rw [em]; exact S2.tabs, fun j d hj e => ?_, fun j hj => ?_⟩, ?_⟩
  · rw [List.mem_singleton.mp ha] at z
    have := (List.mem_filter.mp z).2
    simp at this
  · have hjp : j ≠ p := fun z => hj (by simp [z])
    rw [List.getElem?_set_ne (Ne.symm hjp)] at e
    rw [em]
    exact ks.rv sub t1 j d hjp e
  · rw [List.mem_singleton.mp hj]
    exact ⟨c0, sa σ i, List.getElem?_set_self pl, ks.at, by rw [em]; exact cc⟩
  · have il : i < ρ1.length := (List.getElem?_eq_some_iff.mp e1).1
    have go : ∀ {outs : List D} {tm' : List Addr} {H' : Hp}, CEnd (gx X.K C) [p] vs H1 ((Ms σ hid Γ').filter fun b => decide (b ≠ sa σ i)) [sa σ i] outs tm' H' → (∀ a ∈ tm', Hd H' a) →
        ∃ c, outs = [c] ∧ ST X.K C (tm' ++ hid) Γ' (ρ1.set i (some c)) σ H' ∧ Stp (Ms σ hid Γ') (Ms σ (tm' ++ hid) Γ') hid H1 H' := by
      intro outs tm' H' c tt
      have le := c.le
      rw [em, em] at le
      obtain ⟨c1, rfl⟩ : ∃ c1, outs = [c1] := by
        have := c.olen
        match outs, this with
        | [c1], _ => exact ⟨c1, rfl⟩
      have fx : ∀ a ∈ Ms σ hid Γ', a ≠ sa σ i → H' a = H1 a := fun a ha hne => c.fx a (List.mem_filter.mpr ⟨ha, by simpa using hne⟩)
      refine ⟨c1, rfl, S2.goes le (fun a ha => fx a (mem_Ms.mpr (.inl ha)) fun z => S2.dis i hi (z ▸ ha)) c.gro c.tn tt (List.length_set ..) (fun j hj => List.getElem?_set_ne (nem hj hi)) fun j hj => ?_⟩
      by_cases z : j = i
      · subst z
        obtain ⟨a, ea, ca⟩ := c.own 0 p c1 rfl rfl
        rw [ks.at] at ea
        have ea' : sa σ j = a := by
          have := Option.some.inj ea
          injection this
        subst ea'
        refine .inr ⟨c1, List.getElem?_set_self il, ca.mono (fun _ z => z) (.of_same (mask_sub fun b hb => ?_))⟩
        rcases List.mem_append.mp hb with hb | hb
        · exact List.mem_append_left _ hb
        · exact List.mem_append_right _ ((eq b).mpr hb)
      · exact .inl ⟨List.getElem?_set_ne (Ne.symm z), fx _ (mem_Ms.mpr (.inr ⟨j, hj, rfl⟩)) fun e => z (S2.inj hj hi e)⟩
    cases qq : F (ds.set p c0) with
    | bad => rw [qq] at q; exact q
    | exn e outs =>
      rw [qq] at q
      intro cls od H' c xr
      obtain ⟨c1, rfl, S3, _⟩ := go c fun _ z => nomatch z
      obtain ⟨h1, h2, h3⟩ := okG_of hio
      have S4 : ST X.K C C.hid C.io (ρ1.set i (some c1)) σ H' := (ST.forget S3 (hid' := C.hid) (fun a ha => hs a ha) fun _ z => z).weak h1 h2 h3
      refine q cls od H' ?_ S4
      rw [em] at xr
      obtain ⟨Cc, x1, x2, x3⟩ := xr
      refine ⟨Cc, x1, x2, ?_⟩
      cases qf : e.fld with
      | none => rw [qf] at x3; exact x3
      | some d =>
        rw [qf] at x3
        obtain ⟨dd, v, y1, y2, y3⟩ := x3
        exact ⟨dd, v, y1, y2, y3.mono (.of_same (mask_sub fun a ha => by
          rcases mem_Ms.mp ha with z | ⟨j, hj, z⟩
          · exact mem_Ms.mpr (.inl (hs a z))
          · exact mem_Ms.mpr (.inr ⟨j, h1 j hj, z⟩)))⟩
    | ok d outs =>
      rw [qq] at q
      intro v H' tm' c va
      obtain ⟨c1, rfl, S3, k3⟩ := go c (val_trk va)
      refine q v H' tm' S3 (k2.trans k3 fun _ z => z) ?_ fun a ha z => S2.none_out (c.tn a ha) z
      have eM : Ms σ (tm' ++ hid) Γ' = tm' ++ Ms σ hid Γ' := by unfold Ms; rw [List.append_assoc]
      have em2 : mask H' (tm' ++ (((Ms σ hid Γ').filter fun b => decide (b ≠ sa σ i)) ++ [sa σ i])) = mask H' (tm' ++ Ms σ hid Γ') := mask_congr fun a => by
        rw [List.mem_append, eq, List.mem_append]
      rw [eM]
      cases va with
      | fz r hv => exact .fz (by rw [← em2]; exact r) hv
      | fr cx => exact .fr (cx.mono (fun _ z => z) (by rw [← em2]; exact .refl _))
/-- f(.., x, ..) of a def that changes its argument number p, the owned name i -/
theorem se_call1 {q i : Nat} (G : Fn X.prog X.w X.K X.mg X.base C.ct x k n [q] fr F) (tk : Takes X W) (hr : Room k X.A) (ha : SA1 X C W q i Γ (e :: es) Γ' g) (hn : n = (e :: es).length := by rfl) (hi : Γ'.contains i = true := by rfl) (hg : Gl X x := by rfl) (hio : okG C.io C.io Γ' = true := by rfl) (hdb : (x == ("__debug__" : Str)) = false := by decide)
    (he : starEach (e :: es) X.env = (false, eval e X.env) :: starEach es X.env := by rfl) (hpl : (backTo pos (starEach es X.env)).any (·.1) = false := by rfl) : SE X C W Γ (.Call (.Name x p) (e :: es) [] pos) Γ' fr (mCall1 F q i g) := by
  obtain ⟨f, fd, ps, G, hm, hk, hb⟩ := G.ex
  refine ⟨peImp (pe_callS G hr hg hm hk hb (passAt tk) ha.pa hdb he hpl) fun σ H Q ⟨hid, ρ, S, p⟩ => ⟨hid, ρ, S, ?_⟩⟩
  unfold mCall1 at p
  cases q : g ρ with
  | bad => rw [q] at p; exact p
  | exn e ρ' => rw [q] at p; exact p
  | ok ds ρ1 =>
    rw [q] at p
    dsimp only [R.bind] at p
    intro vs H1 tm S1 k1 t1 ks
    cases qc : ρ1.getD i none with
    | none => rw [qc] at p; exact p.elim
    | some c0 =>
      rw [qc] at p
      exact sp_call1 (by rw [ha.len _ _ _ q]; exact hn) (List.contains_iff_mem.mp hi) qc S1 S.sub k1 t1 ks hio p
end
end Ip
namespace Ip
open PySem L2 PySem.Spec PyProof.Rows
def clsOf : D → Option Str
  | .obj c _ _ => some c
  | _ => none
def hasNo (m : Str) : D → Bool
  | .obj _ ns _ => !ns.contains m
  | _ => false
def mMeth (cs : List Str) (m : Str) (F : FSem) (f : Env → R D) (g : Env → R (List D)) : Env → R D := fun ρ => (f ρ).bind fun o ρ1 => match clsOf o with
  | some c => if cs.contains c = true ∧ hasNo m o = true then (g ρ1).bind fun ds ρ2 => frR ρ2 (F (o :: ds)) else .bad
  | none => .bad
def fldD (f : Str) : D → Option D
  | .obj _ ns ds => (ns.zip ds).lookup f
  | _ => none
def mFld (cs : List Str) (n : Str) (f : Env → R D) : Env → R D := fun ρ => (f ρ).bind fun o ρ1 => match clsOf o with
  | some c => if cs.contains c = true then ofO ρ1 (fldD n o) else .bad
  | none => .bad
def frMk (ρ : Env) : FR → R D
  | .ok .non [o] => .ok o ρ
  | .exn e _ => .exn e ρ
  | _ => .bad
def mMake (c : Str) (F : FSem) (g : Env → R (List D)) : Env → R D := fun ρ => (g ρ).bind fun ds ρ1 => frMk ρ1 (F (.obj c [] [] :: ds))
end Ip
namespace Ip
open PySem L2 PySem.Spec PyProof.Rows
/-- J gives the items one after the other, as long as what is read alone at (H, M) is kept -/
def ItOk (g : Gx) (J : It) (items : List D) (H : Hp) (M : List Addr) : Prop :=
  ∃ (Gd : Hp → Prop) (Y : Nat → Hp → V → Hp → Prop), Walk J items.length Gd Y ∧ (∀ H1 M1, HLe (mask H M) (mask H1 M1) → Gd H1) ∧
    ∀ i x H1 H1' d, items[i]? = some d → Gd H1 → Y i H1 x H1' → Same H1 H1' ∧ ∀ M1, (∀ a ∈ M1, Hd H1 a) → HLe (mask H M) (mask H1 M1) → RV g (mask H1' M1) d x
def PostI (K : PySem.W.Frag) (C : Ac) (W : WX) (Γ Γ' : List Nat) (hid : List Addr) (σ : L2.St) (H : Hp) (Q : It → Hp → Prop) : R (List D) → Prop
  | .ok ds ρ' => ∀ J H', ST K C hid Γ' ρ' σ H' → Stp (Ms σ hid Γ) (Ms σ hid Γ') hid H H' → ItOk (gx K C) J ds H' (Ms σ hid Γ') → Q J H'
  | .exn e ρ' => ∀ cls od H', ExR (gx K C) H' (mask H' (Ms σ C.hid C.io)) e cls od → ST K C C.hid C.io ρ' σ H' → W cls od σ H'
  | .bad => False
structure SI (X : Cx) (C : Ac) (W : WX) (Γ : List Nat) (tg iter : Expr) (Γ' : List Nat) (f : Env → R (List D)) : Prop where
  pi : PI X tg iter fun σ H Q => ∃ hid ρ, ST X.K C hid Γ ρ σ H ∧ PostI X.K C W Γ Γ' hid σ H Q (f ρ)
theorem piImp {X : Cx} {tg e : Expr} {t t' : TI} (h : PI X tg e t) (i : ∀ σ H Q, t' σ H Q → t σ H Q) : PI X tg e t' := ⟨fun pins s σ H Q I q => h.run pins s σ H Q I (i σ H Q q)⟩
/-- a value that is walked, by its kind -/
def IvR (X : Cx) (tg : Expr) (r : V → Hp → (It → Hp → Prop) → Prop) : Prop :=
  ∀ (pins : List (Addr × Obj)) (s : Shared) (σ : L2.St) (H : Hp) (x : V) (v : Value) (Q : It → Hp → Prop), Inv X pins σ H s → RelV x v → r x H Q → wpAny (model X.prog X.w) X.A (pyIter v) (PIE X pins σ tg Q) X.xe s
theorem pi_iv {X : Cx} {tg e : Expr} {t : TE} {r : V → Hp → (It → Hp → Prop) → Prop} (h : IvR X tg r) (he : PE X e t) : PI X tg e fun σ H Q => t σ H fun x H1 => r x H1 Q :=
  ⟨fun pins s σ H Q I q => thn (he.run pins s σ H _ I q) fun v s1 ⟨x, H1, I1, r1, q1⟩ => h pins s1 σ H1 x v Q I1 r1 q1⟩
theorem IvR.or {X : Cx} {tg : Expr} {r r' : V → Hp → (It → Hp → Prop) → Prop} (h : IvR X tg r) (h' : IvR X tg r') : IvR X tg fun x H Q => r x H Q ∨ r' x H Q := fun pins s σ H x v Q I rx q => q.elim (h pins s σ H x v Q I rx) (h' pins s σ H x v Q I rx)
theorem iv_list {X : Cx} {tg : Expr} : IvR X tg fun x H Q => ∃ a, x = .ref a ∧ (∃ xs, SqL X.K H a xs) ∧ Q (Itl X.K a) H := by
  intro pins s σ H x v Q I rx ⟨a, ex, ⟨xs, hq⟩, q⟩
  subst ex; cases rx
  obtain ⟨its, rv, pl, _⟩ := I.list hq
  exact wpAny_pyIter_list pl.isList (pi_one (tk := s.toks) I _ (turn_list a _) ⟨_, Heap.get?_push_size _ rfl, rfl, rfl⟩ q)
theorem iv_tup {X : Cx} {tg : Expr} : IvR X tg fun x H Q => ∃ a, x = .ref a ∧ (∃ xs, SqT X.K H a xs) ∧ Q (Itt X.K a) H := by
  intro pins s σ H x v Q I rx ⟨a, ex, ⟨xs, hq⟩, q⟩
  subst ex; cases rx
  obtain ⟨its, rv, pl, _⟩ := I.tuple hq
  exact wpAny_pyIter_tuple (show s.heap.IsTuple a its.toArray from pl) (pi_one (tk := s.toks) I _ (turn_tuple a _) ⟨_, Heap.get?_push_size _ rfl, rfl, rfl⟩ q)
theorem iv_str {X : Cx} {tg : Expr} : IvR X tg fun y H Q => ∃ x, y = .str x ∧ Q (Its x) H := by
  intro pins s σ H y v Q I ry ⟨x, ex, q⟩
  subst ex
  obtain ⟨t, rfl⟩ := ry
  cases ha : x.cps.all (· < 128)
  · exact wpAny_pyIter_wide ha (pi_one (tk := s.toks) I _ (turn_str _ x t "str_iterator" (.inr rfl)) ⟨_, Heap.get?_push_size _ rfl, rfl, rfl⟩ q)
  · exact wpAny_pyIter_ascii ha (pi_one (tk := s.toks) I _ (turn_str _ x t "str_ascii_iterator" (.inl rfl)) ⟨_, Heap.get?_push_size _ rfl, rfl, rfl⟩ q)
def chD (c : Nat) : D := .str ⟨#[c]⟩
/-- the items of a list, a tuple, a text -/
def asSeq : D → Option (List D)
  | .lst ds => some ds
  | .tup ds => some ds
  | .str x => some (x.cps.toList.map chD)
  | _ => none
def mSeqI (f : Env → R D) : Env → R (List D) := fun ρ => (f ρ).bind fun d ρ' => ofO ρ' (asSeq d)
theorem itok_list {g : Gx} {H : Hp} {M : List Addr} {a : Addr} {vs : List V} {ds : List D} (h : SqL g.K (mask H M) a vs) (r : RVs g (mask H M) ds vs) : ItOk g (Itl g.K a) ds H M := by
  refine ⟨fun H1 => SqL g.K H1 a vs, YAt vs, by rw [r.length]; exact walk_list, fun H1 M1 le => (HLe.of_same mask_same).sqL (le.sqL h), fun i x H1 H1' d hd _ y => ?_⟩
  obtain ⟨rfl, hx⟩ := y
  refine ⟨Same.refl _, fun M1 _ le => ?_⟩
  obtain ⟨v, e, rv⟩ := r.get hd
  rw [hx] at e; cases e
  exact rv.mono le
theorem itok_tup {g : Gx} {H : Hp} {M : List Addr} {a : Addr} {vs : List V} {ds : List D} (h : mask H M a = some (.tup vs)) (r : RVs g (mask H M) ds vs) : ItOk g (Itt g.K a) ds H M := by
  refine ⟨fun H1 => SqT g.K H1 a vs, YAt vs, by rw [r.length]; exact walk_tup, fun H1 M1 le => SqT.of (mask_some (le.o _ _ h trivial)).2, fun i x H1 H1' d hd _ y => ?_⟩
  obtain ⟨rfl, hx⟩ := y
  refine ⟨Same.refl _, fun M1 _ le => ?_⟩
  obtain ⟨v, e, rv⟩ := r.get hd
  rw [hx] at e; cases e
  exact rv.mono le
theorem itok_str {g : Gx} {H : Hp} {M : List Addr} {x : Str} : ItOk g (Its x) (x.cps.toList.map chD) H M := by
  refine ⟨fun _ => True, _, by rw [List.length_map, Array.length_toList]; exact walk_str, fun _ _ _ => trivial, fun i v H1 H1' d hd _ y => ?_⟩
  obtain ⟨rfl, c, hc, rfl⟩ := y
  refine ⟨Same.refl _, fun M1 _ _ => ?_⟩
  rw [List.getElem?_map, Array.getElem?_toList, hc] at hd
  cases hd
  exact .str _
theorem itok_range {g : Gx} {H : Hp} {M : List Addr} {lo : Int} {n : Nat} : ItOk g (Itr lo n) ((List.range n).map fun i => D.int (lo + (i : Nat))) H M := by
  refine ⟨fun _ => True, _, by rw [List.length_map, List.length_range]; exact walk_range, fun _ _ _ => trivial, fun i v H1 H1' d hd _ y => ?_⟩
  obtain ⟨rfl, rfl⟩ := y
  refine ⟨Same.refl _, fun M1 _ _ => ?_⟩
  rw [List.getElem?_map] at hd
  by_cases hi : i < n
  · rw [List.getElem?_range hi] at hd
    cases hd
    exact .int _
  · rw [List.getElem?_eq_none (by simpa using hi)] at hd
    cases hd
section
variable {X : Cx} {C : Ac} {W : WX} {Γ Γ1 Γ2 Γ' Γb : List Nat} {fr fr1 : Bool} {e e2 tg iter : Expr} {es : List Expr} {f : Env → R D} {g : Env → R (List D)} {p pos : Pos}
theorem si_seq (ha : SE X C W Γ e Γ' fr f) : SI X C W Γ tg e Γ' (mSeqI f) := ⟨piImp (pi_iv (iv_list.or (iv_tup.or iv_str)) ha.pe) fun σ H Q ⟨hid, ρ, S, p⟩ => by
  refine ⟨hid, ρ, S, ?_⟩
  unfold mSeqI at p
  cases q : f ρ with
  | bad => rw [q] at p; exact p
  | exn e ρ' => rw [q] at p; exact p
  | ok d ρ' =>
    rw [q] at p
    dsimp only [R.bind] at p
    intro v H1 tm S1 k1 va t1
    have sub : ∀ b ∈ Ms σ hid Γ', b ∈ Ms σ (tm ++ hid) Γ' := Ms_subH fun a ha => List.mem_append_right _ ha
    have S2 := S1.forget (fun a ha => List.mem_append_right _ ha) S.sub
    have k2 : Stp (Ms σ hid Γ) (Ms σ hid Γ') hid H H1 := ⟨k1.le.trans (.of_same (mask_sub sub)), k1.fx⟩
    have rv : RV (gx X.K C) (mask H1 (Ms σ hid Γ')) d v := va.rv sub t1
    cases rv with
    | lst h r => exact .inl ⟨_, rfl, ⟨_, (HLe.of_same mask_same).sqL h⟩, p _ H1 S2 k2 (itok_list h r)⟩
    | tup h r => exact .inr (.inl ⟨_, rfl, ⟨_, SqT.of (mask_some h).2⟩, p _ H1 S2 k2 (itok_tup h r)⟩)
    | str x => exact .inr (.inr ⟨_, rfl, p _ H1 S2 k2 itok_str⟩)
    | _ => exact (show False from p).elim⟩
def asR1 : List D → Option (List D)
  | [.int n] => if -(2 ^ 62) ≤ n ∧ n < 2 ^ 62 then some ((List.range n.toNat).map fun i => .int (i : Nat)) else none
  | _ => none
def asR2 : List D → Option (List D)
  | [.int a, .int b] => if -(2 ^ 62) ≤ a ∧ a < 2 ^ 62 ∧ -(2 ^ 62) ≤ b ∧ b < 2 ^ 62 then some ((List.range (b - a).toNat).map fun i => .int (a + (i : Nat))) else none
  | _ => none
def mArgI (o : List D → Option (List D)) (g : Env → R (List D)) : Env → R (List D) := fun ρ => (g ρ).bind fun ds ρ' => ofO ρ' (o ds)
theorem kept_int {gg : Gx} {H : Hp} {M tm : List Addr} {i : Int} {v : V} (h : Kept gg H M tm (.int i) v) : v = .int i := by
  rcases h with r | ⟨a, _, _, c⟩
  · cases r; rfl
  · cases c
theorem asR1_inv {ds its : List D} (h : asR1 ds = some its) : ∃ n : Int, ds = [.int n] ∧ -(2 ^ 62) ≤ n ∧ n < 2 ^ 62 ∧ its = (List.range n.toNat).map fun i => .int (i : Nat) := by
  unfold asR1 at h
  split at h
  · split at h
    · cases h; exact ⟨_, rfl, by omega, by omega, rfl⟩
    · cases h
  · cases h
theorem PostI.ofO {K : PySem.W.Frag} {C : Ac} {W : WX} {Γ Γ' : List Nat} {hid : List Addr} {σ : L2.St} {H : Hp} {Q : It → Hp → Prop} {ρ' : Env} {o : Option (List D)} (p : PostI K C W Γ Γ' hid σ H Q (ofO ρ' o)) : ∃ its, o = some its ∧ ∀ J H', ST K C hid Γ' ρ' σ H' → Stp (Ms σ hid Γ) (Ms σ hid Γ') hid H H' → ItOk (gx K C) J its H' (Ms σ hid Γ') → Q J H' := by
  cases o with
  | none => exact (show False from p).elim
  | some its => exact ⟨its, rfl, p⟩
theorem si_range1 (ha : SA X C W Γ [e] Γ' g) (hm : X.mg "range" = none) (hg : Gl X "range" := by rfl) (hs : starEach [e] X.env = [(false, eval e X.env)] := by rfl) : SI X C W Γ tg (.Call (.Name "range" p) [e] [] pos) Γ' (mArgI asR1 g) :=
  ⟨piImp (pi_range1 hg hm ha.pa hs) fun σ H Q ⟨hid, ρ, S, p⟩ => by
  refine ⟨hid, ρ, S, ?_⟩
  unfold mArgI at p
  cases q : g ρ with
  | bad => rw [q] at p; exact p
  | exn e ρ' => rw [q] at p; exact p
  | ok ds ρ' =>
    rw [q] at p
    dsimp only [R.bind] at p
    intro vs H1 tm S1 k1 t1 ks
    have sub : ∀ b ∈ Ms σ hid Γ', b ∈ Ms σ (tm ++ hid) Γ' := Ms_subH fun a ha => List.mem_append_right _ ha
    have S2 := S1.forget (fun a ha => List.mem_append_right _ ha) S.sub
    have k2 : Stp (Ms σ hid Γ) (Ms σ hid Γ') hid H H1 := ⟨k1.le.trans (.of_same (mask_sub sub)), k1.fx⟩
    obtain ⟨its, ho, p⟩ := PostI.ofO p
    obtain ⟨n, rfl, h1, h2, rfl⟩ := asR1_inv ho
    cases ks with
    | cons k ks =>
    cases ks
    have := kept_int k
    subst this
    refine ⟨n, rfl, h1, h2, p _ H1 S2 k2 ?_⟩
    have z := itok_range (g := gx X.K C) (H := H1) (M := Ms σ hid Γ') (lo := 0) (n := n.toNat)
    simpa only [Int.zero_add] using z⟩
end
end Ip
namespace Ip
open PySem L2 PySem.Spec PyProof.Rows
section
variable {X : Cx} {C : Ac} {W : WX} {Γ Γ1 Γ2 Γ3 Γ' Γb : List Nat} {fr fr1 fr2 fr3 : Bool} {e a b c : Expr} {es : List Expr} {f h k : Env → R D} {g : Env → R (List D)} {p pos apos : Pos}
theorem fin_fz {hid tm : List Addr} {ρ' : Env} {σ : L2.St} {H H1 : Hp} {Q : VK} {d : D} (p : PostE X.K C W Γ Γ' false hid σ H Q (.ok d ρ')) (hs : ∀ a ∈ C.hid, a ∈ hid) (S1 : ST X.K C (tm ++ hid) Γ' ρ' σ H1) (k1 : Stp (Ms σ hid Γ) (Ms σ (tm ++ hid) Γ') hid H H1) :
    ∀ v H', Same H1 H' → RV (gx X.K C) (mask H' (Ms σ (tm ++ hid) Γ')) d v → Q v H' := fun v H' s rv =>
  p v H' [] (S1.fin hs s) (k1.fin s fun a ha => (S1.trk a (List.mem_append_right _ ha)).1) (.fz (rv.mono (.of_same (mask_sub (Ms_subH fun a ha => List.mem_append_right _ ha)))) fun z => nomatch z) fun _ z => nomatch z
theorem fin_fr {hid tm : List Addr} {ρ' : Env} {σ : L2.St} {H H1 : Hp} {Q : VK} {d : D} (p : PostE X.K C W Γ Γ' true hid σ H Q (.ok d ρ')) (hs : ∀ a ∈ C.hid, a ∈ hid) (S1 : ST X.K C (tm ++ hid) Γ' ρ' σ H1) (k1 : Stp (Ms σ hid Γ) (Ms σ (tm ++ hid) Γ') hid H H1) :
    ∀ q u, H1 q = none → Cont (gx X.K C) (upd H1 q u) (mask H1 (Ms σ (tm ++ hid) Γ')) q d → Q (.ref q) (upd H1 q u) := fun q u hq c => by
  have sub : ∀ b ∈ Ms σ hid Γ', b ∈ Ms σ (tm ++ hid) Γ' := Ms_subH fun a ha => List.mem_append_right _ ha
  have S2 := S1.forget (fun a ha => List.mem_append_right _ ha) hs
  have k2 : Stp (Ms σ hid Γ) (Ms σ hid Γ') hid H H1 := ⟨k1.le.trans (.of_same (mask_sub sub)), k1.fx⟩
  have kh := S2.holdStp (o := u) hq
  refine p (.ref q) _ [q] (S2.hold hq (c.hd.2 u upd_same)) (k2.trans kh fun _ z => z) (.fr (c.mono (fun _ z => z) ((HLe.of_same (mask_sub sub)).trans kh.le))) fun b hb => ?_
  rw [List.mem_singleton.mp hb]; exact S2.none_out hq
def PostV (K : PySem.W.Frag) (C : Ac) (W : WX) (Γ Γ' : List Nat) (hid : List Addr) (σ : L2.St) (H : Hp) (Q : List V → Hp → Prop) : R (List D) → Prop
  | .ok ds ρ' => ∀ vs H' tm, ST K C (tm ++ hid) Γ' ρ' σ H' → Stp (Ms σ hid Γ) (Ms σ (tm ++ hid) Γ') hid H H' → (∀ a ∈ tm, a ∉ Ms σ hid Γ') → Shals (gx K C) H' (mask H' (Ms σ (tm ++ hid) Γ')) ds vs → Q vs H'
  | .exn e ρ' => ∀ cls od H', ExR (gx K C) H' (mask H' (Ms σ C.hid C.io)) e cls od → ST K C C.hid C.io ρ' σ H' → W cls od σ H'
  | .bad => False
def tVs (K : PySem.W.Frag) (C : Ac) (W : WX) (Γ Γ' : List Nat) (f : Env → R (List D)) : TA := fun σ H Q => ∃ hid ρ, ST K C hid Γ ρ σ H ∧ PostV K C W Γ Γ' hid σ H Q (f ρ)
structure SV (X : Cx) (C : Ac) (W : WX) (Γ : List Nat) (es : List Expr) (Γ' : List Nat) (f : Env → R (List D)) : Prop where
  pa : PA X es (tVs X.K C W Γ Γ' f)
theorem sv_nil : SV X C W Γ [] Γ mNil := ⟨paImp pa_nil fun σ H Q ⟨hid, ρ, S, p⟩ => p [] H [] S (Stp.refl _ _ _) (fun _ z => nomatch z) .nil⟩
theorem sv_cons (ha : SE X C W Γ a Γ1 fr1 f) (hr : SV X C W Γ1 es Γ2 g) (hs : starEach (a :: es) X.env = (false, eval a X.env) :: starEach es X.env := by rfl) : SV X C W Γ (a :: es) Γ2 (mCons f g) := by
  refine ⟨paImp (pa_cons ha.pe hr.pa hs) fun σ H Q ⟨hid, ρ, S, p⟩ => ⟨hid, ρ, S, ?_⟩⟩
  unfold mCons at p
  cases q : f ρ with
  | bad => rw [q] at p; exact p
  | exn e ρ' => rw [q] at p; exact p
  | ok d ρ1 =>
    rw [q] at p
    dsimp only [R.bind] at p
    intro v H1 tm1 S1 k1 va t1
    refine ⟨tm1 ++ hid, ρ1, S1, ?_⟩
    cases q2 : g ρ1 with
    | bad => rw [q2] at p; exact p
    | exn e ρ' => rw [q2] at p; exact p
    | ok ds ρ2 =>
      rw [q2] at p
      dsimp only at p
      intro vs H2 tm2 S2 k2 t2 ks
      have e : tm2 ++ (tm1 ++ hid) = (tm2 ++ tm1) ++ hid := (List.append_assoc ..).symm
      rw [e] at S2 k2 ks
      refine p (v :: vs) H2 (tm2 ++ tm1) S2 (k1.trans k2 fun a ha => List.mem_append_right _ ha) (fun a ha z => ?_) (.cons ((Kept.of va).stp (tm' := tm2 ++ tm1) k2 fun a ha => List.mem_append_right _ ha).shal ks)
      rcases List.mem_append.mp ha with ha | ha
      · exact t2 a ha (Ms_subH (fun b hb => List.mem_append_right _ hb) a z)
      · rcases mem_Ms.mp z with z | ⟨i, hi, rfl⟩
        · exact t1 a ha (mem_Ms.mpr (.inl z))
        · exact S2.dis i hi (List.mem_append_left _ (List.mem_append_right _ ha))
def mOwn (i : Nat) (g : Env → R (List D)) : Env → R (List D) := fun ρ => (g ρ).bind fun ds ρ2 => match ρ2.getD i none with
  | some d => .ok (d :: ds) ρ2
  | none => .bad
theorem own_at {K : PySem.W.Frag} {hid : List Addr} {ρ : Env} {σ : L2.St} {H : Hp} (S : ST K C hid Γ ρ σ H) {i : Nat} (hi : Γ.contains i = true) : ∃ d, ρ.getD i none = d ∧ σ[i]? = some (some (.ref (sa σ i))) ∧ ContR (gx K C) H (mask H (Ms σ hid Γ)) (sa σ i) (C.H0 (sa σ i)) (i ∈ C.raw) d := by
  obtain ⟨d, e1, e2, c⟩ := S.ow i (List.contains_iff_mem.mp hi)
  exact ⟨d, by rw [List.getD_eq_getElem?_getD, e1]; rfl, e2, c⟩
def CalS (g : Gx) (r : List V → Hp → VK → Prop) (o : List D → Option D) : Prop := ∀ (H : Hp) (M : List Addr) (vs : List V) (ds : List D) (d : D) (Q : VK), (∀ a ∈ M, H a ≠ none) → Shals g H (mask H M) ds vs → o ds = some d →
  (∀ v H', Same H H' → RV g (mask H' M) d v → Q v H') → r vs H Q
def mArg (o : List D → Option D) (g : Env → R (List D)) : Env → R D := fun ρ => (g ρ).bind fun ds ρ' => ofO ρ' (o ds)
theorem arg_tE {r : List V → Hp → VK → Prop} {o : List D → Option D} (hs : CalS ⟨X.K, C.ct⟩ r o) {σ : L2.St} {H : Hp} {Q : VK} (p : tE X.K C W Γ Γ' false (mArg o g) σ H Q) : tVs X.K C W Γ Γ' g σ H fun vs H1 => r vs H1 Q := by
  obtain ⟨hid, ρ, S, p⟩ := p
  refine ⟨hid, ρ, S, ?_⟩
  unfold mArg at p
  cases q : g ρ with
  | bad => rw [q] at p; exact p
  | exn e ρ' => rw [q] at p; exact p
  | ok ds ρ2 =>
    rw [q] at p
    dsimp only [R.bind] at p
    intro vs H1 tm S1 k1 t1 ks
    cases q2 : o ds with
    | none => rw [q2] at p; exact p.elim
    | some d => rw [q2] at p; exact hs H1 _ vs ds d Q S1.trkM ks q2 (fin_fz p S.sub S1 k1)
variable {id T : String} {x : Str} {r : List V → Hp → VK → Prop} {o : List D → Option D}
theorem se_calB (hc : CallR X (.builtin id) r) (hs : CalS ⟨X.K, C.ct⟩ r o) (hm : X.mg x = none) (ha : SV X C W Γ (e :: es) Γ' g) (hg : Gl X x := by rfl) (hv : bootBuiltins x = some (.builtin id) := by decide +kernel) (hn : x ≠ "__name__" := by decide) (hdb : (x == ("__debug__" : Str)) = false := by decide)
    (he : starEach (e :: es) X.env = (false, eval e X.env) :: starEach es X.env := by rfl) (hpl : (backTo pos (starEach es X.env)).any (·.1) = false := by rfl) : SE X C W Γ (.Call (.Name x p) (e :: es) [] pos) Γ' false (mArg o g) :=
  ⟨peImp (pe_callB hc hg hm hv ha.pa hn hdb he hpl) fun _ _ _ p => arg_tE hs p⟩
theorem se_calT (hc : CallR X (.type T) r) (hs : CalS ⟨X.K, C.ct⟩ r o) (hm : X.mg x = none) (ha : SV X C W Γ (e :: es) Γ' g) (hg : Gl X x := by rfl) (hv : bootBuiltins x = some (.type T) := by decide +kernel) (hn : x ≠ "__name__" := by decide) (hdb : (x == ("__debug__" : Str)) = false := by decide)
    (he : starEach (e :: es) X.env = (false, eval e X.env) :: starEach es X.env := by rfl) (hpl : (backTo pos (starEach es X.env)).any (·.1) = false := by rfl) : SE X C W Γ (.Call (.Name x p) (e :: es) [] pos) Γ' false (mArg o g) :=
  ⟨peImp (pe_callTy hc hg hm hv ha.pa hn hdb he hpl) fun _ _ _ p => arg_tE hs p⟩
def oLen : List D → Option D
  | [.str y] => if y.length ≤ sizeLine then some (.int y.length) else none
  | [.lst ds] => some (.int ds.length)
  | [.tup ds] => some (.int ds.length)
  | _ => none
theorem cal_len {gg : Gx} : CalS gg (fun xs H Q => ∃ x n, xs = [x] ∧ LenV gg.K x H n ∧ Q (.int n) H) oLen := fun H M vs ds d Q tr ks ho q => by
  cases ks with
  | nil => cases ho
  | cons s t =>
    cases t with
    | cons _ _ => cases s <;> cases ho
    | nil =>
      cases s with
      | str y =>
        simp only [oLen, Option.ite_none_right_eq_some, Option.some.injEq] at ho
        obtain ⟨hz, rfl⟩ := ho
        exact ⟨_, _, rfl, ⟨hz, rfl⟩, q _ H (.refl _) (.int _)⟩
      | lst e r => cases ho; rw [r.length] at q; exact ⟨_, _, rfl, .inl ⟨_, e, rfl⟩, q _ H (.refl _) (.int _)⟩
      | tup e r => cases ho; rw [r.length] at q; exact ⟨_, _, rfl, .inr ⟨_, SqT.of e, rfl⟩, q _ H (.refl _) (.int _)⟩
      | _ => cases ho
end
end Ip
namespace Ip
open PySem L2 PySem.Spec PyProof.Rows
def tyD : D → Option String
  | .non => some "NoneType"
  | .bl _ => some "bool"
  | .int _ => some "int"
  | .str _ => some "str"
  | .tup _ => some "tuple"
  | .lst _ => some "list"
  | .dic _ _ => some "dict"
  | .dit _ _ => some "dict"
  | _ => none
def subT (a b : String) : Bool := a == b || (a == "bool" && b == "int")
def isiD (T : String) (d : D) : Option D := (tyD d).map fun t => .bl (subT t T)
section
variable {X : Cx} {C : Ac} {W : WX} {Γ Γ1 Γ2 Γ3 Γ' Γb : List Nat} {fr fr1 fr2 fr3 : Bool} {e a b c : Expr} {es : List Expr} {f h k : Env → R D} {g : Env → R (List D)} {p pos apos p2 : Pos}
theorem un_tE {op : D → Option D} {r : V → Hp → VK → Prop} (ho : ∀ (H : Hp) (M : List Addr) (x : V) (dx d : D) (Q : VK), (∀ a ∈ M, H a ≠ none) → Shal ⟨X.K, C.ct⟩ H (mask H M) dx x → op dx = some d → (∀ v H', Same H H' → RV ⟨X.K, C.ct⟩ (mask H' M) d v → Q v H') → r x H Q)
    {σ : L2.St} {H : Hp} {Q : VK} (p : tE X.K C W Γ Γ' false (mUn op f) σ H Q) : tE X.K C W Γ Γ' fr f σ H fun x H1 => r x H1 Q := by
  obtain ⟨hid, ρ, S, p⟩ := p
  refine ⟨hid, ρ, S, ?_⟩
  unfold mUn at p
  cases q : f ρ with
  | bad => rw [q] at p; exact p
  | exn e ρ' => rw [q] at p; exact p
  | ok d ρ1 =>
    rw [q] at p
    dsimp only [R.bind] at p
    intro v H1 tm S1 k1 va t1
    cases q2 : op d with
    | none => rw [q2] at p; exact p.elim
    | some z => rw [q2] at p; exact ho H1 _ v d z Q S1.trkM va.shal0 q2 (fin_fz p S.sub S1 k1)
def Post2 (K : PySem.W.Frag) (C : Ac) (W : WX) (Γ Γ' : List Nat) (hid : List Addr) (σ : L2.St) (H : Hp) (Q : V → V → Hp → Prop) : R (D × D) → Prop
  | .ok d ρ' => ∀ x y H' tm, ST K C (tm ++ hid) Γ' ρ' σ H' → Stp (Ms σ hid Γ) (Ms σ (tm ++ hid) Γ') hid H H' → (∀ a ∈ tm, a ∉ Ms σ hid Γ') → Shal (gx K C) H' (mask H' (Ms σ (tm ++ hid) Γ')) d.1 x → Shal (gx K C) H' (mask H' (Ms σ (tm ++ hid) Γ')) d.2 y → Q x y H'
  | .exn e ρ' => ∀ cls od H', ExR (gx K C) H' (mask H' (Ms σ C.hid C.io)) e cls od → ST K C C.hid C.io ρ' σ H' → W cls od σ H'
  | .bad => False
structure S2 (X : Cx) (C : Ac) (W : WX) (Γ : List Nat) (a b : Expr) (Γ' : List Nat) (f : Env → R (D × D)) : Prop where
  ex : ∃ ta tb, PE X a ta ∧ PE X b tb ∧ ∀ σ H Rr, (∃ hid ρ, ST X.K C hid Γ ρ σ H ∧ Post2 X.K C W Γ Γ' hid σ H Rr (f ρ)) → ta σ H fun x H1 => tb σ H1 fun y H2 => Rr x y H2
def mPair (f h : Env → R D) : Env → R (D × D) := fun ρ => (f ρ).bind fun x ρ1 => (h ρ1).bind fun y ρ2 => .ok (x, y) ρ2
def mPairO (i : Nat) (h : Env → R D) : Env → R (D × D) := fun ρ => (h ρ).bind fun y ρ2 => match ρ2.getD i none with
  | some x => .ok (x, y) ρ2
  | none => .bad
def mPairR (f : Env → R D) (i : Nat) : Env → R (D × D) := fun ρ => (f ρ).bind fun x ρ2 => match ρ2.getD i none with
  | some y => .ok (x, y) ρ2
  | none => .bad
theorem s2_ee (ha : SE X C W Γ a Γ1 fr1 f) (hb : SE X C W Γ1 b Γ2 fr2 h) : S2 X C W Γ a b Γ2 (mPair f h) := ⟨_, _, ha.pe, hb.pe, fun σ H Rr ⟨hid, ρ, S, p⟩ => by
  unfold mPair at p
  refine two (fr1 := fr1) (fr2 := fr2) S (fun d1 ρ1 d2 ρ2 q1 q2 x y H2 tm S2 k2 t2 v1 v2 => ?_) (fun q => ?_) (fun d1 ρ1 q1 q2 => ?_) (fun e ρ' q => ?_) fun d1 ρ1 e ρ' q1 q2 => ?_
  · rw [q1] at p
    dsimp only [R.bind] at p
    rw [q2] at p
    exact p x y H2 tm S2 k2 t2 v1.shal v2.shal
  · rw [q] at p; exact p
  · rw [q1] at p
    dsimp only [R.bind] at p
    rw [q2] at p; exact p
  · rw [q] at p; exact p
  · rw [q1] at p
    dsimp only [R.bind] at p
    rw [q2] at p; exact p⟩
theorem s2_oe (i : Nat) {x : Str} (hb : SE X C W Γ b Γ2 fr2 h) (hN : X.N[i]? = some x := by rfl) (hv : Vis X.env.scope x := by first | exact Or.inl rfl | exact Or.inr (Or.inl rfl) | exact Or.inr (Or.inr rfl)) (hi : Γ.contains i = true := by rfl) (hi2 : Γ2.contains i = true := by rfl)
    (hd : (x == ("__debug__" : Str)) = false := by decide) (hcd : (x == ("__classdict__" : Str)) = false := by decide) : S2 X C W Γ (.Name x p) b Γ2 (mPairO i h) := ⟨_, _, pe_var hN hv hd hcd, hb.pe, fun σ H Rr ⟨hid, ρ, S, p⟩ => by
  obtain ⟨d0, _, e2, _⟩ := own_at S hi
  refine ⟨_, e2, hid, ρ, S, ?_⟩
  unfold mPairO at p
  cases q : h ρ with
  | bad => rw [q] at p; exact p
  | exn e ρ' => rw [q] at p; exact p
  | ok d2 ρ2 =>
    rw [q] at p
    dsimp only [R.bind] at p
    intro y H2 tm S2 k2 va t2
    obtain ⟨d, e1, _, c⟩ := own_at S2 hi2
    rw [e1] at p
    cases d with
    | none => exact (show False from p).elim
    | some d =>
    have c := c.cont
    exact p _ y H2 tm S2 k2 t2 c.shal va.shal0⟩
def OpO (g : Gx) (r : R2) (op : D → D → Option D) : Prop := ∀ (H : Hp) (M : List Addr) (x y : V) (dx dy d : D) (Q : VK), (∀ a ∈ M, H a ≠ none) → Shal g H (mask H M) dx x → Shal g H (mask H M) dy y → op dx dy = some d →
  (∀ q u, H q = none → Cont g (upd H q u) (mask H M) q d → Q (.ref q) (upd H q u)) → r x y H Q
def m2 (op : D → D → Option D) (f : Env → R (D × D)) : Env → R D := fun ρ => (f ρ).bind fun d ρ2 => ofO ρ2 (op d.1 d.2)
variable {f2 : Env → R (D × D)}
theorem m2_tE {ta tb : TE} {op : D → D → Option D} {r : R2} (ho : OpS ⟨X.K, C.ct⟩ r op) (hx : ∀ σ H Rr, (∃ hid ρ, ST X.K C hid Γ ρ σ H ∧ Post2 X.K C W Γ Γ' hid σ H Rr (f2 ρ)) → ta σ H fun x H1 => tb σ H1 fun y H2 => Rr x y H2)
    {σ : L2.St} {H : Hp} {Q : VK} (p : tE X.K C W Γ Γ' false (m2 op f2) σ H Q) : tOp r ta tb σ H Q := by
  obtain ⟨hid, ρ, S, p⟩ := p
  refine hx σ H (fun x y H2 => r x y H2 Q) ⟨hid, ρ, S, ?_⟩
  unfold m2 at p
  cases q : f2 ρ with
  | bad => rw [q] at p; exact p
  | exn e ρ' => rw [q] at p; exact p
  | ok d ρ2 =>
    rw [q] at p
    dsimp only [R.bind] at p
    intro x y H1 tm S1 k1 t1 s1 s2
    cases q2 : op d.1 d.2 with
    | none => rw [q2] at p; exact p.elim
    | some z => rw [q2] at p; exact ho H1 _ x y _ _ z Q S1.trkM s1 s2 q2 (fin_fz p S.sub S1 k1)
theorem m2_tO {ta tb : TE} {op : D → D → Option D} {r : R2} (ho : OpO ⟨X.K, C.ct⟩ r op) (hx : ∀ σ H Rr, (∃ hid ρ, ST X.K C hid Γ ρ σ H ∧ Post2 X.K C W Γ Γ' hid σ H Rr (f2 ρ)) → ta σ H fun x H1 => tb σ H1 fun y H2 => Rr x y H2)
    {σ : L2.St} {H : Hp} {Q : VK} (p : tE X.K C W Γ Γ' true (m2 op f2) σ H Q) : tOp r ta tb σ H Q := by
  obtain ⟨hid, ρ, S, p⟩ := p
  refine hx σ H (fun x y H2 => r x y H2 Q) ⟨hid, ρ, S, ?_⟩
  unfold m2 at p
  cases q : f2 ρ with
  | bad => rw [q] at p; exact p
  | exn e ρ' => rw [q] at p; exact p
  | ok d ρ2 =>
    rw [q] at p
    dsimp only [R.bind] at p
    intro x y H1 tm S1 k1 t1 s1 s2
    cases q2 : op d.1 d.2 with
    | none => rw [q2] at p; exact p.elim
    | some z => rw [q2] at p; exact ho H1 _ x y _ _ z Q S1.trkM s1 s2 q2 (fin_fr p S.sub S1 k1)
theorem se_bin2 {op : Operator} {r : R2} {opD : D → D → Option D} (ho : OpR X (binaryOp op) r) (hs : OpS ⟨X.K, C.ct⟩ r opD) (h2 : S2 X C W Γ a b Γ' f2) : SE X C W Γ (.BinOp a op b pos) Γ' false (m2 opD f2) := by
  obtain ⟨ta, tb, pa, pb, hx⟩ := h2.ex
  exact ⟨peImp (pe_op ho pa pb) fun _ _ _ p => m2_tE hs hx p⟩
theorem se_binO {op : Operator} {r : R2} {opD : D → D → Option D} (ho : OpR X (binaryOp op) r) (hs : OpO ⟨X.K, C.ct⟩ r opD) (h2 : S2 X C W Γ a b Γ' f2) : SE X C W Γ (.BinOp a op b pos) Γ' true (m2 opD f2) := by
  obtain ⟨ta, tb, pa, pb, hx⟩ := h2.ex
  exact ⟨peImp (pe_op ho pa pb) fun _ _ _ p => m2_tO hs hx p⟩
theorem se_cmp2 {op : CmpOp} {r : R2} {opD : D → D → Option D} (ho : OpR X (compareOp op) r) (hs : OpS ⟨X.K, C.ct⟩ r opD) (h2 : S2 X C W Γ a b Γ' f2) (hm : behindInMarks op b = false := by rfl) : SE X C W Γ (.Compare a [op] [b] pos) Γ' false (m2 opD f2) := by
  obtain ⟨ta, tb, pa, pb, hx⟩ := h2.ex
  exact ⟨peImp (pe_cmpR ho pa pb hm) fun _ _ _ p => m2_tE hs hx p⟩
theorem se_ix2 {r : R2} {opD : D → D → Option D} (ho : IxR X r) (hs : OpS ⟨X.K, C.ct⟩ r opD) (h2 : S2 X C W Γ a b Γ' f2) (hm : PlainIx b := by exact fun _ _ => rfl) : SE X C W Γ (.Subscript a b pos) Γ' false (m2 opD f2) := by
  obtain ⟨ta, tb, pa, pb, hx⟩ := h2.ex
  exact ⟨peImp (pe_ix ho pa pb hm) fun _ _ _ p => m2_tE hs hx p⟩
def mChain (op op' : D → D → Option D) (f h k : Env → R D) : Env → R D := fun ρ => (f ρ).bind fun x ρ1 => (h ρ1).bind fun y ρ2 => match op x y with
  | some (.bl true) => (k ρ2).bind fun z ρ3 => ofO ρ3 (op' y z)
  | some (.bl false) => .ok (.bl false) ρ2
  | _ => .bad
end
end Ip
namespace Ip
open PySem L2 PySem.Spec PyProof.Rows
theorem shal_int {g : Gx} {H Hm : Hp} {i : Int} {v : V} (h : Shal g H Hm (.int i) v) : v = .int i := by cases h; rfl
theorem shal_str {g : Gx} {H Hm : Hp} {i : Str} {v : V} (h : Shal g H Hm (.str i) v) : v = .str i := by cases h; rfl
def ifO (b : Prop) [Decidable b] (d : D) : Option D := if b then some d else none
theorem ifO_some {b : Prop} [Decidable b] {d e : D} (h : ifO b d = some e) : b ∧ d = e := by
  unfold ifO at h
  split at h
  · cases h; exact ⟨by assumption, rfl⟩
  · cases h
def addD : D → D → Option D
  | .int i, .int j => some (.int (i + j))
  | .str i, .str j => ifO (i.length + j.length ≤ sizeLine) (.str (i ++ j))
  | _, _ => none
def subD : D → D → Option D
  | .int i, .int j => some (.int (i - j))
  | _, _ => none
def mulD : D → D → Option D
  | .int i, .int j => ifO ((-(2 ^ 64) < j ∧ j < 2 ^ 64) ∨ (-(2 ^ 64) < i ∧ i < 2 ^ 64) ∨ i.natAbs.log2 + j.natAbs.log2 < 1000000) (.int (i * j))
  | _, _ => none
def fdivD : D → D → Option D
  | .int i, .int j => ifO (0 < j ∧ j.natAbs.log2 < 9000) (.int (i / j))
  | _, _ => none
def modD : D → D → Option D
  | .int i, .int j => ifO (0 < j) (.int (i % j))
  | _, _ => none
def powD : D → D → Option D
  | .int i, .int j => ifO (0 ≤ j ∧ j ≤ 1000000 ∧ i.natAbs < 2 ^ 64) (.int (i ^ j.toNat))
  | _, _ => none
def ltD : D → D → Option D
  | .int i, .int j => some (.bl (decide (i < j)))
  | .str i, .str j => some (.bl (decide (i.cps.toList < j.cps.toList)))
  | _, _ => none
def leD : D → D → Option D
  | .int i, .int j => some (.bl (decide (i ≤ j)))
  | .str i, .str j => some (.bl (!decide (j.cps.toList < i.cps.toList)))
  | _, _ => none
def gtD : D → D → Option D
  | .int i, .int j => some (.bl (decide (j < i)))
  | .str i, .str j => some (.bl (decide (j.cps.toList < i.cps.toList)))
  | _, _ => none
def geD : D → D → Option D
  | .int i, .int j => some (.bl (decide (j ≤ i)))
  | .str i, .str j => some (.bl (!decide (i.cps.toList < j.cps.toList)))
  | _, _ => none
theorem or_or {X : Cx} {op : Value → Value → Sem Value} {r r' : R2} (h : OpR X op r) (h' : OpR X op r') : OpR X op (fun x y H Q => r x y H Q ∨ r' x y H Q) := fun pins s σ H x y v u Q I rx ry q => q.elim (h pins s σ H x y v u Q I rx ry) (h' pins s σ H x y v u Q I rx ry)
section
variable {g : Gx}
/-- both ints, or both texts -/
theorem ops_two {rI rS : R2} {op : D → D → Option D} (hn : ∀ a b d, op a b = some d → (∃ i j, a = .int i ∧ b = .int j) ∨ ∃ i j, a = .str i ∧ b = .str j)
    (hI : ∀ i j d H M Q, op (.int i) (.int j) = some d → (∀ v H', Same H H' → RV g (mask H' M) d v → Q v H') → rI (.int i) (.int j) H Q)
    (hS : ∀ i j d H M Q, op (.str i) (.str j) = some d → (∀ v H', Same H H' → RV g (mask H' M) d v → Q v H') → rS (.str i) (.str j) H Q) : OpS g (fun x y H Q => rI x y H Q ∨ rS x y H Q) op := fun H M x y dx dy d Q tr sx sy ho q => by
  rcases hn _ _ _ ho with ⟨i, j, rfl, rfl⟩ | ⟨i, j, rfl, rfl⟩
  · rw [shal_int sx, shal_int sy]; exact .inl (hI i j d H M Q ho q)
  · rw [shal_str sx, shal_str sy]; exact .inr (hS i j d H M Q ho q)
theorem ops_int {r : R2} {op : D → D → Option D} (hn : ∀ a b d, op a b = some d → ∃ i j, a = .int i ∧ b = .int j)
    (hI : ∀ i j d H M Q, op (.int i) (.int j) = some d → (∀ v H', Same H H' → RV g (mask H' M) d v → Q v H') → r (.int i) (.int j) H Q) : OpS g r op := fun H M x y dx dy d Q tr sx sy ho q => by
  obtain ⟨i, j, rfl, rfl⟩ := hn _ _ _ ho
  rw [shal_int sx, shal_int sy]; exact hI i j d H M Q ho q
end
section
variable {g : Gx} {X : Cx}
theorem add_ok : OpS g (fun x y H Q => (rI0 fun i j => .int (i + j)) x y H Q ∨ (fun x y H Q => ∃ i j, x = .str i ∧ y = .str j ∧ i.length + j.length ≤ sizeLine ∧ Q (.str (i ++ j)) H) x y H Q) addD :=
  ops_two (fun a b d h => by cases a <;> cases b <;> first | exact .inl ⟨_, _, rfl, rfl⟩ | exact .inr ⟨_, _, rfl, rfl⟩ | cases h)
    (fun i j d H M Q h q => by cases h; exact ⟨i, j, rfl, rfl, q _ H (.refl _) (.int _)⟩)
    fun i j d H M Q h q => by obtain ⟨h1, rfl⟩ := ifO_some h; exact ⟨i, j, rfl, rfl, h1, q _ H (.refl _) (.str _)⟩
theorem sub_ok : OpS g (rI0 fun i j => .int (i - j)) subD :=
  ops_int (fun a b d h => by cases a <;> cases b <;> first | exact ⟨_, _, rfl, rfl⟩ | cases h) fun i j d H M Q h q => by cases h; exact ⟨i, j, rfl, rfl, q _ H (.refl _) (.int _)⟩
theorem mul_ok : OpS g (fun x y H Q => (rI CMul fun i j => .int (i * j)) x y H Q ∨ (rI CMulW fun i j => .int (i * j)) x y H Q) mulD :=
  ops_int (fun a b d h => by cases a <;> cases b <;> first | exact ⟨_, _, rfl, rfl⟩ | cases h) fun i j d H M Q h q => by
    obtain ⟨h1, rfl⟩ := ifO_some h
    rcases h1 with h1 | h1 | h1
    · exact .inl ⟨i, j, rfl, rfl, .inr h1, q _ H (.refl _) (.int _)⟩
    · exact .inl ⟨i, j, rfl, rfl, .inl h1, q _ H (.refl _) (.int _)⟩
    · exact .inr ⟨i, j, rfl, rfl, h1, q _ H (.refl _) (.int _)⟩
theorem fdiv_ok : OpS g (rI CDivW fun i j => .int (i / j)) fdivD :=
  ops_int (fun a b d h => by cases a <;> cases b <;> first | exact ⟨_, _, rfl, rfl⟩ | cases h) fun i j d H M Q h q => by obtain ⟨h1, rfl⟩ := ifO_some h; exact ⟨i, j, rfl, rfl, h1, q _ H (.refl _) (.int _)⟩
theorem mod_ok : OpS g (rI (fun _ j => 0 < j) fun i j => .int (i % j)) modD :=
  ops_int (fun a b d h => by cases a <;> cases b <;> first | exact ⟨_, _, rfl, rfl⟩ | cases h) fun i j d H M Q h q => by obtain ⟨h1, rfl⟩ := ifO_some h; exact ⟨i, j, rfl, rfl, h1, q _ H (.refl _) (.int _)⟩
theorem pow_ok : OpS g (rI CPow fun i j => .int (i ^ j.toNat)) powD :=
  ops_int (fun a b d h => by cases a <;> cases b <;> first | exact ⟨_, _, rfl, rfl⟩ | cases h) fun i j d H M Q h q => by obtain ⟨h1, rfl⟩ := ifO_some h; exact ⟨i, j, rfl, rfl, h1, q _ H (.refl _) (.int _)⟩
theorem lt_ok : OpS g (fun x y H Q => (rI0 fun i j => .bl (decide (i < j))) x y H Q ∨ (fun x y H Q => ∃ i j, x = .str i ∧ y = .str j ∧ Q (.bl (decide (i.cps.toList < j.cps.toList))) H) x y H Q) ltD :=
  ops_two (fun a b d h => by cases a <;> cases b <;> first | exact .inl ⟨_, _, rfl, rfl⟩ | exact .inr ⟨_, _, rfl, rfl⟩ | cases h)
    (fun i j d H M Q h q => by cases h; exact ⟨i, j, rfl, rfl, q _ H (.refl _) (.bl _)⟩) fun i j d H M Q h q => by cases h; exact ⟨i, j, rfl, rfl, q _ H (.refl _) (.bl _)⟩
theorem ge_ok : OpS g (fun x y H Q => (rI0 fun i j => .bl (decide (j ≤ i))) x y H Q ∨ (fun x y H Q => ∃ i j, x = .str i ∧ y = .str j ∧ Q (.bl (!decide (i.cps.toList < j.cps.toList))) H) x y H Q) geD :=
  ops_two (fun a b d h => by cases a <;> cases b <;> first | exact .inl ⟨_, _, rfl, rfl⟩ | exact .inr ⟨_, _, rfl, rfl⟩ | cases h)
    (fun i j d H M Q h q => by cases h; exact ⟨i, j, rfl, rfl, q _ H (.refl _) (.bl _)⟩) fun i j d H M Q h q => by cases h; exact ⟨i, j, rfl, rfl, q _ H (.refl _) (.bl _)⟩
def isN : D → Bool
  | .non => true
  | _ => false
def isNoneD (a b : D) : Option D := if isN b then some (.bl (isN a)) else none
def isNotNoneD (a b : D) : Option D := if isN b then some (.bl (!isN a)) else none
mutual
def toPy : D → Option PyData
  | .non => some .none
  | .bl b => some (.bool b)
  | .int i => some (.int i)
  | .str x => some (.str x)
  | .lst ds => (toPys ds).map .list
  | .tup ds => (toPys ds).map .tuple
  | _ => none
def toPys : List D → Option (List PyData)
  | [] => some []
  | d :: ds => match toPy d, toPys ds with
    | some p, some ps => some (p :: ps)
    | _, _ => none
end
mutual
theorem RV.dp {H : Hp} : ∀ (d : D) (v : V) (p : PyData), RV g H d v → toPy d = some p → Dp g.K H v p
  | .non, _, _, r, e => by cases r; cases e; exact .non
  | .bl b, _, _, r, e => by cases r; cases e; exact .bl b
  | .int i, _, _, r, e => by cases r; cases e; exact .int i
  | .str x, _, _, r, e => by cases r; cases e; exact .str x
  | .lst ds, _, p, r, e => by
    cases r with
    | lst h r =>
      unfold toPy at e
      cases q : toPys ds with
      | none => rw [q] at e; cases e
      | some ps => rw [q] at e; cases e; exact .lst h (RVs.dp ds _ ps r q)
  | .tup ds, _, p, r, e => by
    cases r with
    | tup h r =>
      unfold toPy at e
      cases q : toPys ds with
      | none => rw [q] at e; cases e
      | some ps => rw [q] at e; cases e; exact .tup (.of h) (RVs.dp ds _ ps r q)
  | .dic _ _, _, _, _, e => by unfold toPy at e; cases e
  | .dit _ _, _, _, _, e => by unfold toPy at e; cases e
  | .obj _ _ _, _, _, _, e => by unfold toPy at e; cases e
  | .opq, _, _, _, e => by unfold toPy at e; cases e
  | .clo _ _, _, _, _, e => by unfold toPy at e; cases e
  | .exc _, _, _, _, e => by unfold toPy at e; cases e
theorem RVs.dp {H : Hp} : ∀ (ds : List D) (vs : List V) (ps : List PyData), RVs g H ds vs → toPys ds = some ps → DpAll g.K H vs ps
  | [], _, _, r, e => by cases r; unfold toPys at e; cases e; exact .nil
  | d :: ds, _, ps, r, e => by
    cases r with
    | cons r t =>
      unfold toPys at e
      cases q1 : toPy d with
      | none => rw [q1] at e; cases e
      | some p =>
        rw [q1] at e
        cases q2 : toPys ds with
        | none => rw [q2] at e; cases e
        | some qs => rw [q2] at e; cases e; exact .cons (RV.dp d _ p r q1) (RVs.dp ds _ qs t q2)
end
def eqD (a b : D) : Option D := match toPy a, toPy b with
  | some p, some q => ifO (SeqAt.shaped p = true ∧ SeqAt.shaped q = true) (.bl (PyData.eqv p q))
  | _, _ => none
def neD (a b : D) : Option D := match toPy a, toPy b with
  | some p, some q => ifO (SeqAt.shaped p = true ∧ SeqAt.shaped q = true) (.bl (!PyData.eqv p q))
  | _, _ => none
theorem eq_ok : OpS g (rEqD g.K) eqD := fun H M x y dx dy d Q tr sx sy ho q => by
  unfold eqD at ho
  cases q1 : toPy dx with
  | none => rw [q1] at ho; cases ho
  | some p =>
    cases q2 : toPy dy with
    | none => rw [q1, q2] at ho; cases ho
    | some p' =>
      rw [q1, q2] at ho
      obtain ⟨⟨h1, h2⟩, rfl⟩ := ifO_some ho
      exact ⟨p, p', RV.dp _ _ _ sx.rv q1, RV.dp _ _ _ sy.rv q2, h1, h2, q _ H (.refl _) (.bl _)⟩
theorem ne_ok : OpS g (rNeD g.K) neD := fun H M x y dx dy d Q tr sx sy ho q => by
  unfold neD at ho
  cases q1 : toPy dx with
  | none => rw [q1] at ho; cases ho
  | some p =>
    cases q2 : toPy dy with
    | none => rw [q1, q2] at ho; cases ho
    | some p' =>
      rw [q1, q2] at ho
      obtain ⟨⟨h1, h2⟩, rfl⟩ := ifO_some ho
      exact ⟨p, p', RV.dp _ _ _ sx.rv q1, RV.dp _ _ _ sy.rv q2, h1, h2, q _ H (.refl _) (.bl _)⟩
def inSD (a b : D) : Option Bool := match a, b with
  | .str x, .str z => match x.cps.toList with
    | [c] => some (decide (c ∈ z.cps.toList))
    | _ => none
  | _, _ => none
def inD (a b : D) : Option D := (inSD a b).map .bl
def notInD (a b : D) : Option D := (inSD a b).map fun k => .bl !k
def ixD (a b : D) : Option D := match a, b with
  | .lst ds, .int i => atI ds i
  | .tup ds, .int i => atI ds i
  | .str z, .int i => if z.length ≤ sizeLine then (atI z.cps.toList i).map chD else none
  | _, _ => none
theorem atI_len {α β : Type} {xs : List α} {ys : List β} {i : Int} (h : xs.length = ys.length) : ∀ {x : α}, atI xs i = some x → ∃ j : Nat, xs[j]? = some x ∧ ∀ y, ys[j]? = some y → atI ys i = some y := fun {x} e => by
  unfold atI at e ⊢
  rw [← h]
  cases q : ixN xs.length i with
  | none => rw [q] at e; cases e
  | some j => rw [q] at e; exact ⟨j, e, fun y hy => hy⟩
theorem ix_ok : OpS g (rIx g.K) ixD := fun H M x y dx dy d Q tr sx sy ho q => by
  cases dx <;> cases dy <;> first | (cases ho; done) | skip
  · rename_i z i
    cases sx; cases sy
    unfold ixD at ho
    dsimp only at ho
    split at ho
    · rename_i hz
      cases e : atI z.cps.toList i with
      | none => rw [e] at ho; cases ho
      | some c => rw [e] at ho; cases ho; exact .inr (.inr ⟨z, i, c, rfl, rfl, hz, e, q _ H (.refl _) (.str _)⟩)
    · cases ho
  · rename_i ds i
    cases sy
    cases sx with
    | tup h r =>
      obtain ⟨j, h1, h2⟩ := atI_len r.length (show atI ds i = some d from ho)
      obtain ⟨v, e, rv⟩ := r.get h1
      exact .inr (.inl ⟨_, _, i, v, rfl, rfl, .of h, h2 v e, q v H (.refl _) rv⟩)
  · rename_i ds i
    cases sy
    cases sx with
    | lst h r =>
      obtain ⟨j, h1, h2⟩ := atI_len r.length (show atI ds i = some d from ho)
      obtain ⟨v, e, rv⟩ := r.get h1
      exact .inl ⟨_, _, i, v, rfl, rfl, h, h2 v e, q v H (.refl _) rv⟩
def catD : D → D → Option D
  | .lst a, .lst b => ifO (a.length + b.length ≤ sizeLine) (.lst (a ++ b))
  | _, _ => none
def negD : D → Option D
  | .int i => some (.int (-i))
  | _ => none
end
end Ip
namespace Ip
open PySem L2 PySem.Spec PyProof.Rows
section
variable {g : Gx} {X : Cx}
theorem shals1 {H Hm : Hp} {d : D} {vs : List V} (h : Shals g H Hm [d] vs) : ∃ v, vs = [v] ∧ Shal g H Hm d v := by
  cases h with
  | cons s t => cases t; exact ⟨_, rfl, s⟩
def oAbs : List D → Option D
  | [.int i] => some (.int (if i < 0 then -i else i))
  | _ => none
theorem cal_abs : CalS g (fun xs H Q => ∃ i, xs = [.int i] ∧ Q (.int (if i < 0 then -i else i)) H) oAbs := fun H M vs ds d Q tr ks ho q => by
  unfold oAbs at ho
  split at ho
  · cases ho
    obtain ⟨v, rfl, s⟩ := shals1 ks
    cases s
    exact ⟨_, rfl, q _ H (.refl _) (.int _)⟩
  · cases ho
def oInt : List D → Option D
  | [.int i] => some (.int i)
  | [.bl k] => some (.int (if k then 1 else 0))
  | _ => none
theorem cal_int : CalS g (fun xs H Q => (∃ i, xs = [.int i] ∧ Q (.int i) H) ∨ ∃ k, xs = [.bl k] ∧ Q (.int (if k then 1 else 0)) H) oInt := fun H M vs ds d Q tr ks ho q => by
  unfold oInt at ho
  split at ho
  · cases ho
    obtain ⟨v, rfl, s⟩ := shals1 ks
    cases s
    exact .inl ⟨_, rfl, q _ H (.refl _) (.int _)⟩
  · cases ho
    obtain ⟨v, rfl, s⟩ := shals1 ks
    cases s
    exact .inr ⟨_, rfl, q _ H (.refl _) (.int _)⟩
  · cases ho
def oMax : List D → Option D
  | [.int i, .int j] => some (.int (if j > i then j else i))
  | _ => none
def oMin : List D → Option D
  | [.int i, .int j] => some (.int (if j < i then j else i))
  | _ => none
def dInts : List D → Option (List Int)
  | [] => some []
  | .int i :: ds => (dInts ds).map (i :: ·)
  | _ :: _ => none
theorem ints_inv : ∀ {ds : List D} {ns : List Int}, dInts ds = some ns → ds = ns.map D.int
  | [], _, h => by cases h; rfl
  | d :: ds, ns, h => by
    cases d with
    | int i =>
      simp only [dInts, Option.map_eq_some_iff] at h
      obtain ⟨ms, h1, rfl⟩ := h
      rw [ints_inv h1]; rfl
    | _ => cases h
def dStrs : List D → Option (List Str)
  | [] => some []
  | .str i :: ds => (dStrs ds).map (i :: ·)
  | _ :: _ => none
theorem ints_map : ∀ ns : List Int, dInts (ns.map D.int) = some ns
  | [] => rfl
  | n :: ns => by rw [List.map_cons, dInts, ints_map ns]; rfl
def oSum : List D → Option D
  | [.lst ds] => (dInts ds).map fun ns => .int ns.sum
  | _ => none
theorem cal_sum : CalS g (rSum g.K) oSum := fun H M vs ds d Q tr ks ho q => by
  unfold oSum at ho
  split at ho
  · rename_i ds
    simp only [Option.map_eq_some_iff] at ho
    obtain ⟨ns, h1, rfl⟩ := ho
    have := ints_inv h1
    subst this
    obtain ⟨v, rfl, s⟩ := shals1 ks
    cases s with
    | lst h r =>
      have := r.of_ints
      subst this
      exact ⟨_, ns, rfl, h, q _ H (.refl _) (.int _)⟩
  · cases ho
/-- list(x) of a list or a tuple -/
def oList : List D → Option D
  | [.lst ds] => some (.lst ds)
  | [.tup ds] => some (.lst ds)
  | _ => none
def isKD : D → Bool
  | .int _ => true
  | .str _ => true
  | _ => false
def oListDK : List D → Option D
  | [.dic ks _] => if ks.all isKD then some (.lst ks) else none
  | _ => none
/-- tuple(x) -/
def oTup : List D → Option D
  | [.lst ds] => some (.tup ds)
  | [.tup ds] => some (.tup ds)
  | _ => none
end
end Ip
namespace Ip
open PySem L2 PySem.Spec PyProof.Rows
def rCatQ (K : PySem.W.Frag) : R2 := fun x y H Q => ∃ a b xs ys, x = .ref a ∧ y = .ref b ∧ SqL K H a xs ∧ SqL K H b ys ∧ xs.length + ys.length ≤ sizeLine ∧ ∀ p, H p = none → Q (.ref p) (upd H p (.lst (xs ++ ys)))
theorem op_catQ {X : Cx} : OpR X (binaryOp .Add) (rCatQ X.K) := by
  intro pins s σ H x y v u Q I rx ry ⟨a, b, xs, ys, ex, ey, ha, hb, hz, q⟩
  subst ex; subst ey
  cases rx; cases ry
  obtain ⟨is1, r1, p1, _⟩ := I.list ha
  obtain ⟨is2, r2, p2, _⟩ := I.list hb
  obtain ⟨⟨c1, dd1, da1, sl1⟩, o1, k1, n1, e1⟩ := p1.isList
  obtain ⟨⟨c2, dd2, da2, sl2⟩, o2, k2, n2, e2⟩ := p2.isList
  simp only at k1 e1 k2 e2
  subst k1; subst e1; subst k2; subst e2
  have hs : is1.toArray.size + is2.toArray.size ≤ sizeLine := by rw [List.size_toArray, List.size_toArray, ← r1.length, ← r2.length]; exact hz
  refine concat_meets ⟨_, o1, rfl⟩ ⟨_, o2, rfl⟩ noFill_list_add seq_list_add PySem.F.slot_list_add PySem.F.entry_list_add (PySem.F.args_list_add_2 _ _) (list_addW a b is1.toArray is2.toArray n1 n2 dd1 dd2 sl1 sl2 hs) ⟨o1, o2, ?_⟩
  rw [show is1.toArray ++ is2.toArray = (is1 ++ is2).toArray by simp]
  exact ⟨.ref _, _, I.lnew (t' := s.toks) (r1.append r2) (by rw [List.length_append]; exact hz), rfl, q _ I.fresh⟩
theorem cat_ok {g : Gx} : OpO g (rCatQ g.K) catD := fun H M x y dx dy d Q tr sx sy ho q => by
  cases dx <;> cases dy <;> first | (cases ho; done) | skip
  obtain ⟨hz, rfl⟩ := ifO_some ho
  cases sx with
  | lst h r =>
    cases sy with
    | lst h' r' => exact ⟨_, _, _, _, rfl, rfl, h, h', by rw [← r.length, ← r'.length]; exact hz, fun l hl => q l _ hl (.lst upd_same (r.app r'))⟩
section
variable {X : Cx} {C : Ac} {W : WX} {Γ Γ1 Γ2 Γ3 Γ' Γb : List Nat} {fr fr1 fr2 fr3 : Bool} {e a b c : Expr} {es : List Expr} {f h k : Env → R D} {g : Env → R (List D)} {p pos apos cpos p2 : Pos}
def mStrM (o : Str → List D → Option D) (f : Env → R D) (g : Env → R (List D)) : Env → R D := fun ρ => (f ρ).bind fun d ρ1 => match d with
  | .str s => (g ρ1).bind fun ds ρ2 => ofO ρ2 (o s ds)
  | _ => .bad
def PostO (K : PySem.W.Frag) (C : Ac) (W : WX) (Γ Γ' : List Nat) (hid : List Addr) (σ : L2.St) (H : Hp) (Q : Option Int → Hp → Prop) : R (Option Int) → Prop
  | .ok o ρ' => ∀ H', ST K C hid Γ' ρ' σ H' → Stp (Ms σ hid Γ) (Ms σ hid Γ') hid H H' → Q o H'
  | .exn e ρ' => ∀ cls od H', ExR (gx K C) H' (mask H' (Ms σ C.hid C.io)) e cls od → ST K C C.hid C.io ρ' σ H' → W cls od σ H'
  | .bad => False
structure SO (X : Cx) (C : Ac) (W : WX) (Γ : List Nat) (e : Option Expr) (Γ' : List Nat) (f : Env → R (Option Int)) : Prop where
  po : PO X e fun σ H Q => ∃ hid ρ, ST X.K C hid Γ ρ σ H ∧ PostO X.K C W Γ Γ' hid σ H Q (f ρ)
theorem poImp {e : Option Expr} {t t' : TO} (h : PO X e t) (i : ∀ σ H Q, t' σ H Q → t σ H Q) : PO X e t' := ⟨fun pins s σ H Q I q => h.run pins s σ H Q I (i σ H Q q)⟩
def mONone : Env → R (Option Int) := fun ρ => .ok none ρ
def mOSome (f : Env → R D) : Env → R (Option Int) := fun ρ => (f ρ).bind fun d ρ1 => match d with
  | .int i => .ok (some i) ρ1
  | _ => .bad
theorem so_none : SO X C W Γ none Γ mONone := ⟨poImp po_none fun σ H Q ⟨hid, ρ, S, p⟩ => p H S (Stp.refl _ _ _)⟩
theorem so_some (ha : SE X C W Γ a Γ' fr f) : SO X C W Γ (some a) Γ' (mOSome f) := ⟨poImp (po_some ha.pe) fun σ H Q ⟨hid, ρ, S, p⟩ => by
  refine ⟨hid, ρ, S, ?_⟩
  unfold mOSome at p
  cases q : f ρ with
  | bad => rw [q] at p; exact p
  | exn e ρ' => rw [q] at p; exact p
  | ok d ρ1 =>
    rw [q] at p
    dsimp only [R.bind] at p
    intro v H1 tm S1 k1 va t1
    cases d with
    | int i =>
      have := shal_int va.shal0
      subst this
      exact ⟨i, rfl, p H1 (S1.forget (fun a ha => List.mem_append_right _ ha) S.sub) ⟨k1.le.trans (.of_same (mask_sub (Ms_subH fun a ha => List.mem_append_right _ ha))), k1.fx⟩⟩
    | _ => exact (show False from p).elim⟩
def mSlice (f : Env → R D) (l u : Env → R (Option Int)) : Env → R D := fun ρ => (f ρ).bind fun d ρ1 => match d with
  | .str z => (l ρ1).bind fun lo ρ2 => (u ρ2).bind fun hi ρ3 => ofO ρ3 (ifO (z.length ≤ sizeLine) (.str (cutS z lo hi)))
  | _ => .bad
variable {lo hi : Option Expr} {l u : Env → R (Option Int)}
def lstO : Option D → Option (List D)
  | some (.lst ds) => some ds
  | _ => none
theorem lstO_some {o : Option D} {ds : List D} (h : lstO o = some ds) : o = some (.lst ds) := by
  unfold lstO at h
  split at h
  · cases h; rfl
  · cases h
def mLstM (i : Nat) (step : List D → List D → Option (D × List D)) (g : Env → R (List D)) : Env → R D := fun ρ => match lstO (ρ.getD i none) with
  | none => .bad
  | some _ => (g ρ).bind fun xs ρ1 => match lstO (ρ1.getD i none) with
    | none => .bad
    | some ds => match step ds xs with
      | none => .bad
      | some z => .ok z.1 (ρ1.set i (some (.lst z.2)))
end
end Ip
namespace Ip
open PySem L2 PySem.Spec PyProof.Rows
def Off (ts : List Nat) (σ σ' : L2.St) : Prop := σ'.length = σ.length ∧ ∀ j, j ∉ ts → σ'[j]? = σ[j]?
theorem Off.refl (ts : List Nat) (σ : L2.St) : Off ts σ σ := ⟨rfl, fun _ _ => rfl⟩
theorem Off.trans {t1 t2 : List Nat} {a b c : L2.St} (h : Off t1 a b) (k : Off t2 b c) : Off (t1 ++ t2) a c :=
  ⟨k.1.trans h.1, fun j hj => (k.2 j fun z => hj (List.mem_append_right _ z)).trans (h.2 j fun z => hj (List.mem_append_left _ z))⟩
def tG (K : PySem.W.Frag) (C : Ac) (Γ : List Nat) (ts : List Nat) (g : D → Env → Option Env) : TG := fun v σ H Q => ∃ hid ρ d ρ', ST K C hid Γ ρ σ H ∧ RV (gx K C) (mask H (Ms σ hid Γ)) d v ∧ g d ρ = some ρ' ∧
  ∀ σ' H', ST K C hid Γ ρ' σ' H' → Stp (Ms σ hid Γ) (Ms σ' hid Γ) hid H H' → Off ts σ σ' → Q σ' H'
def tGs (K : PySem.W.Frag) (C : Ac) (Γ : List Nat) (ts : List Nat) (g : List D → Env → Option Env) : TGs := fun vs σ H Q => ∃ hid ρ ds ρ', ST K C hid Γ ρ σ H ∧ RVs (gx K C) (mask H (Ms σ hid Γ)) ds vs ∧ g ds ρ = some ρ' ∧
  ∀ σ' H', ST K C hid Γ ρ' σ' H' → Stp (Ms σ hid Γ) (Ms σ' hid Γ) hid H H' → Off ts σ σ' → Q σ' H'
structure SG (X : Cx) (C : Ac) (Γ : List Nat) (tg : Expr) (ts : List Nat) (g : D → Env → Option Env) : Prop where
  pg : PG X tg (tG X.K C Γ ts g)
structure SGs (X : Cx) (C : Ac) (Γ : List Nat) (es : List Expr) (ts : List Nat) (g : List D → Env → Option Env) : Prop where
  pg : PGs X es (tGs X.K C Γ ts g)
theorem pgImp {X : Cx} {e : Expr} {t t' : TG} (h : PG X e t) (i : ∀ v σ H Q, t' v σ H Q → t v σ H Q) : PG X e t' := ⟨fun pins s σ H v u Q I r q => h.run pins s σ H v u Q I r (i v σ H Q q)⟩
def gNm (i : Nat) (d : D) (ρ : Env) : Option Env := if i < ρ.length then some (ρ.set i (some d)) else none
def gTp (n : Nat) (gs : List D → Env → Option Env) (d : D) (ρ : Env) : Option Env := match d with
  | .tup ds => if ds.length = n then gs ds ρ else none
  | _ => none
section
variable {X : Cx} {C : Ac} {W : WX} {Γ Γ1 Γ2 Γ3 Γ' Γb : List Nat} {fr fr1 fr2 fr3 : Bool} {e a b c tg iter : Expr} {es : List Expr} {ts ts2 : List Nat} {f h k : Env → R D} {g : D → Env → Option Env} {gs : List D → Env → Option Env} {p pos apos cpos p2 : Pos}
theorem sg_name (i : Nat) {x : Str} (hN : X.N.Nodup) (hi : X.N[i]? = some x := by rfl) (hx : Loc X.env.scope x := by first | exact Or.inl rfl | exact Or.inr rfl) (hn : Γ.contains i = false := by rfl)
    (hf : X.fn x = true ∨ X.env.scope.names.lookup x = some .local := by first | exact .inl rfl | exact .inr rfl | assumption) : SG X C Γ (.Name x pos) [i] (gNm i) := ⟨pgImp (pg_name hN hi hx hf) fun v σ H Q ⟨hid, ρ, d, ρ', S, r, e, q⟩ => by
  unfold gNm at e
  split at e
  · rename_i il
    cases e
    refine q _ H (S.put (notin_of hn) r il) ?_ ⟨List.length_set .., fun j hj => List.getElem?_set_ne fun z => hj (by simp [z])⟩
    rw [Ms_set (notin_of hn)]
    exact Stp.refl _ _ _
  · cases e⟩
theorem sg_tup {n m : Nat} (hc : X.calm = true) (h1 : SGs X C Γ es ts gs) (hn : (assignEach es X.env).length = n := by rfl) (hst : (assignEach es X.env).findIdx? (·.1) = none := by rfl) : SG X C Γ (.Tuple es m pos) ts (gTp n gs) := ⟨pgImp (pg_tup hc h1.pg hn hst) fun v σ H Q ⟨hid, ρ, d, ρ', S, r, e, q⟩ => by
  unfold gTp at e
  split at e
  · split at e
    · rename_i hl
      cases r with
      | tup h r => exact ⟨_, _, rfl, .of (mask_some h).2, by rw [← r.length]; exact hl, hid, ρ, _, ρ', S, r, e, q⟩
    · cases e
  · cases e⟩
def mAsg (f : Env → R D) (g : D → Env → Option Env) : Env → R Fl := fun ρ => (f ρ).bind fun d ρ1 => match g d ρ1 with
  | some ρ2 => .ok .nx ρ2
  | none => .bad
theorem ss_asg (ha : SE X C W Γ e Γ' false f) (hg : SG X C Γ' tg ts g) (hs : swapsWithSole [tg] e pos.line X.env = pure false := by rfl) (hw : swappedStores [tg] e X.env = pure none := by rfl)
    (h1 : (assignEach [tg] X.env).map (·.2) = [assign tg X.env] := by rfl) : SS X C W Γ (.Assign [tg] e pos) Γ' Γb fr (mAsg f g) := ⟨psImp (ps_asg ha.pe hg.pg hs hw h1) fun Dn σ H ⟨ρ, S, p⟩ => by
  refine ⟨C.hid, ρ, S, ?_⟩
  unfold mAsg at p
  cases q : f ρ with
  | bad => rw [q] at p; exact p
  | exn e ρ' => rw [q] at p; exact fun cls od H' x S' => p cls od σ H' x S'
  | ok d ρ1 =>
    rw [q] at p
    dsimp only [R.bind] at p
    intro v H1 tm S1 k1 va t1
    cases va with
    | fz r _ =>
      cases q2 : g d ρ1 with
      | none => rw [q2] at p; exact (show False from p).elim
      | some ρ2 =>
        rw [q2] at p
        exact ⟨C.hid, ρ1, d, ρ2, S1, r, q2, fun σ' H' S' k' _ => p σ' H' S' (k1.trans k' fun _ z => z)⟩⟩
def gIx (i : Nat) (h : Env → R D) (v : D) (ρ : Env) : Option Env := match lstO (ρ.getD i none), h ρ with
  | some _, .ok (.int j) ρ1 => (lstO (ρ1.getD i none)).bind fun ds => (ixN ds.length j).map fun n => ρ1.set i (some (.lst (ds.set n v)))
  | _, _ => none
theorem sg_ix (i : Nat) {x : Str} (hb : SE X C W Γ b Γ fr h) (hN : X.N[i]? = some x := by rfl) (hv : Vis X.env.scope x := by first | exact Or.inl rfl | exact Or.inr (Or.inl rfl) | exact Or.inr (Or.inr rfl)) (hi : Γ.contains i = true := by rfl)
    (hd : (x == ("__debug__" : Str)) = false := by decide) (hcd : (x == ("__classdict__" : Str)) = false := by decide)
    (ha : ∀ v, assign (.Subscript (.Name x p) b pos) X.env v = (do
      let ov ← holding [v] (eval (.Name x p) X.env)
      let iv ← holding [v, ov] (eval b X.env)
      standAt pos
      holding [v, ov, iv] (setItem ov iv v)
      release [v, ov, iv] []) := by intro _; rfl) : SG X C Γ (.Subscript (.Name x p) b pos) [] (gIx i h) := ⟨pgImp (pg_sub (pe_var hN hv hd hcd) hb.pe set_list ha) fun v σ H Q ⟨hid, ρ, d, ρ', S, r, e, q⟩ => by
  obtain ⟨d0, e1, e2, c0⟩ := own_at S hi
  refine ⟨_, e2, hid, ρ, S, ?_⟩
  unfold gIx at e
  split at e
  · rename_i j ρ1 _ q2
    rw [q2]
    simp only [Option.bind_eq_some_iff, Option.map_eq_some_iff] at e
    obtain ⟨ds, e3, n, e4, rfl⟩ := e
    intro y H2 tm S2 k2 va t2
    have := shal_int va.shal0
    subst this
    obtain ⟨d1, f1, f2, c1⟩ := own_at S2 hi
    have e0 := lstO_some e3
    rw [f1] at e0
    cases e0
    have S3 := S2.forget (fun a ha => List.mem_append_right _ ha) S.sub
    have sub : ∀ b ∈ Ms σ hid Γ, b ∈ Ms σ (tm ++ hid) Γ := Ms_subH fun a ha => List.mem_append_right _ ha
    have k3 : Stp (Ms σ hid Γ) (Ms σ hid Γ) hid H H2 := ⟨k2.le.trans (.of_same (mask_sub sub)), k2.fx⟩
    obtain ⟨d1, f1', _, c2⟩ := own_at S3 hi
    rw [f1] at f1'
    cases f1'
    have c2 := c2.cont
    cases c2 with
    | @lst us _ h r1 =>
      refine ⟨_, us, j, n, rfl, rfl, h, by rw [← r1.length]; exact e4, ?_⟩
      exact q σ _ (S3.change (List.contains_iff_mem.mp hi) (.lst upd_same (r1.set (r.mono k3.le) n))) (k3.trans (S3.changeStp (List.contains_iff_mem.mp hi)) fun _ z => z) (.refl _ _)
  · cases e⟩
def forL (step : D → Env → R Fl) : List D → Env → R Fl
  | [], ρ => .ok .nx ρ
  | d :: ds, ρ => match step d ρ with
    | .ok .nx ρ' => forL step ds ρ'
    | .ok .ct ρ' => forL step ds ρ'
    | .ok .bk ρ' => .ok .nx ρ'
    | .ok (.rt z) ρ' => .ok (.rt z) ρ'
    | .exn e ρ' => .exn e ρ'
    | .bad => .bad
def gBody (g : D → Env → Option Env) (body : Env → R Fl) (d : D) (ρ : Env) : R Fl := match g d ρ with
  | some ρ' => body ρ'
  | none => .bad
def mFor (it : Env → R (List D)) (g : D → Env → Option Env) (body : Env → R Fl) : Env → R Fl := fun ρ => (it ρ).bind fun ds ρ' => forL (gBody g body) ds ρ'
variable {fi : Env → R (List D)} {fb : Env → R Fl} {body : List Stmt}
theorem for_ok {Dn : Ends} {σ : L2.St} {H : Hp} (p : tS X.K C W Γ Γ' Γb fr (mFor fi g fb) Dn σ H) :
    tFor (fun σ H Q => ∃ hid ρ, ST X.K C hid Γ ρ σ H ∧ PostI X.K C W Γ Γ' hid σ H Q (fi ρ)) (tG X.K C Γ' ts g) (tS X.K C W Γ' Γ' Γ' fr fb) Dn σ H := by
  obtain ⟨ρ, S, p⟩ := p
  refine ⟨C.hid, ρ, S, ?_⟩
  unfold mFor at p
  cases q : fi ρ with
  | bad => rw [q] at p; exact p
  | exn e ρ' => rw [q] at p; exact fun cls od H' x S' => p cls od σ H' x S'
  | ok ds ρ1 =>
    rw [q] at p
    dsimp only [R.bind] at p
    intro J H1 S1 k1 ⟨Gd, Y, w, hG, hY⟩
    refine for_it w (fun i σ2 H2 => ∃ ρ2, ST X.K C C.hid Γ' ρ2 σ2 H2 ∧ Stp (Ms σ C.hid Γ') (Ms σ2 C.hid Γ') C.hid H1 H2 ∧ PostS X.K C W Γ Γ' Γb fr Dn σ H (forL (gBody g fb) (ds.drop i) ρ2)) ⟨ρ1, S1, Stp.refl _ _ _, by rw [List.drop_zero]; exact p⟩
      (fun i σ2 H2 _ ⟨ρ2, S2, k2, _⟩ => hG _ _ k2.le) (fun i x σ2 H2 H3 hlt ⟨ρ2, S2, k2, p2⟩ y => ?_) fun σ2 H2 ⟨ρ2, S2, k2, p2⟩ => ?_
    · have hd : ds[i]? = some ds[i] := List.getElem?_eq_getElem hlt
      rw [List.drop_eq_getElem_cons hlt] at p2
      obtain ⟨sm, rv⟩ := hY i x H2 H3 _ hd (hG _ _ k2.le) y
      have r := rv (Ms σ2 C.hid Γ') S2.hdM k2.le
      have S3 := S2.same sm
      have k3 : Stp (Ms σ2 C.hid Γ') (Ms σ2 C.hid Γ') C.hid H2 H3 := ⟨.of_same (mask_keep fun b o _ e => sm b o e), fun a ha => by
        cases z : H2 a with
        | none => exact absurd z (S2.trk a ha).1
        | some o => exact sm a o z⟩
      unfold forL gBody at p2
      cases q2 : g ds[i] ρ2 with
      | none => rw [q2] at p2; exact (show False from p2).elim
      | some ρ3 =>
        rw [q2] at p2
        refine ⟨C.hid, ρ2, ds[i], ρ3, S3, r, q2, fun σ4 H4 S4 k4 _ => ⟨ρ3, S4, ?_⟩⟩
        have ka : Stp (Ms σ C.hid Γ') (Ms σ4 C.hid Γ') C.hid H1 H4 := (k2.trans k3 fun _ z => z).trans k4 fun _ z => z
        cases q3 : fb ρ3 with
        | bad => simp only [q3] at p2; exact p2
        | exn e ρ' => simp only [q3] at p2; exact p2
        | ok fl ρ5 =>
          simp only [q3] at p2
          cases fl with
          | nx => exact fun σ5 H5 S5 k5 => ⟨ρ5, S5, ka.trans k5 fun _ z => z, p2⟩
          | ct => exact fun σ5 H5 S5 k5 => ⟨ρ5, S5, ka.trans k5 fun _ z => z, p2⟩
          | bk => exact fun σ5 H5 S5 k5 => p2 σ5 H5 S5 ((k1.trans ka fun _ z => z).trans k5 fun _ z => z)
          | rt z => exact fun v σ5 H5 tm S5 k5 => p2 v σ5 H5 tm S5 ((k1.trans ka fun _ z => z).trans k5 fun _ z => z)
    · rw [List.drop_length] at p2
      exact p2 σ2 H2 S2 (k1.trans k2 fun _ z => z)
theorem ss_for (hp : PassesOwn (model X.prog X.w) X.A X.env X.xe) (hc : X.calm = true) (hi : SI X C W Γ tg iter Γ' fi) (hg : SG X C Γ' tg ts g) (hb : SSs X C W Γ' body Γ' Γ' fr fb) (hs : ∀ x, foldedSetIterable iter X.env x = pure x := by intro _; rfl) :
    SS X C W Γ (.For tg iter body [] pos) Γ' Γb fr (mFor fi g fb) := ⟨psImp (ps_for hp hc hi.pi hg.pg hb.ps hs) fun Dn σ H p => for_ok p⟩
end
end Ip
namespace Ip
open PySem L2 PySem.Spec PyProof.Rows
def wipeE (ρ : Env) : List Nat → Env
  | [] => ρ
  | v :: vs => (wipeE ρ vs).set v none
def restE (ρ0 ρ : Env) : List Nat → Env
  | [] => ρ
  | v :: vs => (restE ρ0 ρ vs).set v (ρ0.getD v none)
theorem wipeE_length (ρ : Env) : ∀ vs : List Nat, (wipeE ρ vs).length = ρ.length
  | [] => rfl
  | v :: vs => by unfold wipeE; rw [List.length_set, wipeE_length ρ vs]
theorem restE_length (ρ0 ρ : Env) : ∀ vs : List Nat, (restE ρ0 ρ vs).length = ρ.length
  | [] => rfl
  | v :: vs => by unfold restE; rw [List.length_set, restE_length ρ0 ρ vs]
theorem wipeE_out {ρ : Env} {i : Nat} : ∀ {vs : List Nat}, i ∉ vs → (wipeE ρ vs)[i]? = ρ[i]?
  | [], _ => rfl
  | v :: vs, h => by
    unfold wipeE
    rw [List.getElem?_set_ne fun e => h (by simp [e])]
    exact wipeE_out fun z => h (by simp [z])
theorem wipeE_in {ρ : Env} {i : Nat} {d : D} : ∀ {vs : List Nat}, i ∈ vs → (wipeE ρ vs)[i]? ≠ some (some d)
  | v :: vs, h => fun e => by
    unfold wipeE at e
    by_cases z : v = i
    · subst z
      rw [List.getElem?_set] at e
      split at e
      · split at e <;> cases e
      · contradiction
    · rw [List.getElem?_set_ne z] at e
      exact wipeE_in ((List.mem_cons.mp h).resolve_left fun q => z q.symm) e
theorem restE_out {ρ0 ρ : Env} {i : Nat} : ∀ {vs : List Nat}, i ∉ vs → (restE ρ0 ρ vs)[i]? = ρ[i]?
  | [], _ => rfl
  | v :: vs, h => by
    unfold restE
    rw [List.getElem?_set_ne fun e => h (by simp [e])]
    exact restE_out fun z => h (by simp [z])
theorem restE_in {ρ0 ρ : Env} {i : Nat} (hi : i < ρ.length) (h0 : i < ρ0.length) : ∀ {vs : List Nat}, i ∈ vs → (restE ρ0 ρ vs)[i]? = ρ0[i]?
  | v :: vs, h => by
    unfold restE
    by_cases z : v = i
    · subst z
      rw [List.getElem?_set_self (by rw [restE_length]; exact hi), List.getD_eq_getElem?_getD, List.getElem?_eq_getElem h0]
      rfl
    · rw [List.getElem?_set_ne z]
      exact restE_in hi h0 ((List.mem_cons.mp h).resolve_left fun q => z q.symm)
theorem wipe_in {σ : L2.St} {i : Nat} {v : V} : ∀ {vs : List Nat}, i ∈ vs → (wipe σ vs)[i]? ≠ some (some v) := fun {vs} h e => (wipe_some e).2 h
theorem wipe_off {ts vs : List Nat} {σ σ' : L2.St} (o : Off ts σ σ') (h : ∀ i ∈ ts, i ∈ vs) : wipe σ' vs = wipe σ vs := by
  have key : ∀ (ws : List Nat) (a b : L2.St), a.length = b.length → (∀ j, j ∉ ws → a[j]? = b[j]?) → wipe a ws = wipe b ws := by
    intro ws
    induction ws with
    | nil => intro a b hl e; exact List.ext_getElem? fun j => e j (by simp)
    | cons w ws ih =>
      intro a b hl e
      unfold wipe
      refine List.ext_getElem? fun j => ?_
      by_cases z : w = j
      · subst z
        rw [List.getElem?_set, List.getElem?_set]
        simp [wipe_length, hl]
      · rw [List.getElem?_set_ne z, List.getElem?_set_ne z]
        by_cases q : j ∈ ws
        · have ha : ¬ ∃ v, (wipe a ws)[j]? = some (some v) := fun ⟨v, e⟩ => wipe_in q e
          have hb : ¬ ∃ v, (wipe b ws)[j]? = some (some v) := fun ⟨v, e⟩ => wipe_in q e
          by_cases hj : j < a.length
          · have h1 : j < (wipe a ws).length := by rw [wipe_length]; exact hj
            have h2 : j < (wipe b ws).length := by rw [wipe_length, ← hl]; exact hj
            rw [List.getElem?_eq_getElem h1, List.getElem?_eq_getElem h2]
            cases q1 : (wipe a ws)[j] with
            | some v => exact absurd ⟨v, by rw [List.getElem?_eq_getElem h1, q1]⟩ ha
            | none =>
              cases q2 : (wipe b ws)[j] with
              | some v => exact absurd ⟨v, by rw [List.getElem?_eq_getElem h2, q2]⟩ hb
              | none => rfl
          · rw [List.getElem?_eq_none (by rw [wipe_length]; omega), List.getElem?_eq_none (by rw [wipe_length, ← hl]; omega)]
        · rw [wipe_out q, wipe_out q]
          exact e j (by simp [q, Ne.symm z])
  exact key vs σ' σ o.1 fun j hj => o.2 j fun z => hj (h j z)
section
variable {K : PySem.W.Frag} {C : Ac} {hid : List Addr} {Γ : List Nat} {ρ ρ0 : Env} {σ σ0 : L2.St} {H H0 : Hp} {vs : List Nat}
theorem sa_wipe (h : ∀ i ∈ Γ, i ∉ vs) : Γ.map (sa (wipe σ vs)) = Γ.map (sa σ) := List.map_congr_left fun i hi => by unfold sa; rw [wipe_out (h i hi)]
theorem Ms_wipe (h : ∀ i ∈ Γ, i ∉ vs) : Ms (wipe σ vs) hid Γ = Ms σ hid Γ := by unfold Ms; rw [sa_wipe h]
theorem ST.wipe (S : ST K C hid Γ ρ σ H) (h : ∀ i ∈ Γ, i ∉ vs) : ST K C hid Γ (wipeE ρ vs) (L2.wipe σ vs) H := by
  have e : ∀ i ∈ Γ, sa (L2.wipe σ vs) i = sa σ i := fun i hi => by unfold sa; rw [wipe_out (h i hi)]
  refine ⟨by rw [wipeE_length, wipe_length]; exact S.len, S.sub, S.trk, S.tmp, by rw [sa_wipe h]; exact S.nd, fun i hi => by rw [e i hi]; exact S.dis i hi, fun i hi => by rw [e i hi]; exact S.own i hi, S.frm, S.frh, S.gro, S.io, by rw [sa_wipe fun i hi => h i (S.io i hi)]; exact S.pin, fun i d hi q => ?_, fun i hi => ?_⟩
  · by_cases z : i ∈ vs
    · exact absurd q (wipeE_in z)
    · rw [wipeE_out z] at q
      rw [wipe_out z, Ms_wipe h]
      exact S.sl i d hi q
  · rw [Ms_wipe h, wipeE_out (h i hi), wipe_out (h i hi), e i hi]
    exact S.ow i hi
theorem ST.unwipe (S0 : ST K C hid Γ ρ0 σ0 H0) (S : ST K C hid Γ ρ (L2.wipe σ0 vs) H) (h : ∀ i ∈ Γ, i ∉ vs) (le : HLe (mask H0 (Ms σ0 hid Γ)) (mask H (Ms σ0 hid Γ))) : ST K C hid Γ (restE ρ0 ρ vs) σ0 H := by
  have e : ∀ i ∈ Γ, sa (L2.wipe σ0 vs) i = sa σ0 i := fun i hi => by unfold sa; rw [wipe_out (h i hi)]
  have hl : ρ.length = σ0.length := by rw [S.len, wipe_length]
  refine ⟨by rw [restE_length]; exact hl, S.sub, S.trk, S.tmp, S0.nd, S0.dis, S0.own, S.frm, S.frh, S.gro, S.io, S0.pin, fun i d hi q => ?_, fun i hi => ?_⟩
  · by_cases z : i ∈ vs
    · by_cases hi2 : i < ρ.length
      · rw [restE_in hi2 (by rw [S0.len, ← hl]; exact hi2) z] at q
        obtain ⟨v, e1, r⟩ := S0.sl i d hi q
        exact ⟨v, e1, r.mono le⟩
      · rw [List.getElem?_eq_none (by rw [restE_length]; omega)] at q; cases q
    · rw [restE_out z] at q
      obtain ⟨v, e1, r⟩ := S.sl i d hi q
      rw [wipe_out z] at e1
      rw [Ms_wipe h] at r
      exact ⟨v, e1, r⟩
  · obtain ⟨d, e1, e2, c⟩ := S.ow i hi
    rw [wipe_out (h i hi), e i hi] at e2
    rw [Ms_wipe h, e i hi] at c
    exact ⟨d, by rw [restE_out (h i hi)]; exact e1, e2, c⟩
theorem ST.tmpSet {D : Addr} {o : HO} (S : ST K C (D :: hid) Γ ρ σ H) (hD : D ∉ hid) (hs : ∀ a ∈ C.hid, a ∈ hid) (hu : Ow o := by exact trivial) : ST K C (D :: hid) Γ ρ σ (upd H D o) := by
  have hM : D ∈ Ms σ (D :: hid) Γ := mem_Ms.mpr (.inl List.mem_cons_self)
  have em := mask_updM (H := H) (o := o) hM
  have nC : D ∉ C.hid := fun z => hD (hs D z)
  have h0 : C.H0 D = none := (S.tmp D List.mem_cons_self).resolve_left nC
  have trk : ∀ a, H a ≠ none → upd H D o a ≠ none := fun a ha => by
    by_cases q : a = D
    · rw [q, upd_same]; simp
    · rw [upd_ne q]; exact ha
  have out : ∀ {A : List Addr} {b : Addr} {u : HO}, mask C.H0 A b = some u → b ≠ D := fun e z => by
    have := (mask_some e).2
    rw [z, h0] at this; cases this
  have up : ∀ {A : List Addr} {b : Addr} {u : HO}, b ≠ D → mask H A b = some u → mask (upd H D o) A b = some u := fun n e => by
    obtain ⟨e1, e2⟩ := mask_some e
    rw [mask_out e1, upd_ne n]; exact e2
  refine ⟨S.len, S.sub, fun a ha => by
    by_cases q : a = D
    · rw [q]; exact .mk' upd_same hu
    · exact (S.trk a ha).of (upd_ne q), S.tmp, S.nd, S.dis, S.own, ⟨⟨fun b u e n => up (out e) (S.frm.o b u e n), fun b kv e => ?_, fun b kv e => ?_, fun P t => (S.frm.tb P t).upd (S.trk D List.mem_cons_self)⟩, S.frm.tab⟩, fun a ha => by rw [upd_ne (show a ≠ D from fun z => nC (z ▸ ha))]; exact S.frh a ha, fun a ha => trk a (S.gro a ha), S.io, S.pin, fun i d hi q => by rw [em]; exact S.sl i d hi q, fun i hi => ?_⟩
  · have n : b ≠ D := by rcases e with e | ⟨_, e⟩ <;> exact out e
    exact (S.frm.k b kv e).elim (fun e => .inl (up n e)) fun ⟨u, e⟩ => .inr ⟨u, up n e⟩
  · have n : b ≠ D := by rcases e with e | ⟨_, e⟩ <;> exact out e
    exact (S.frm.t b kv e).elim (fun e => .inl (up n e)) fun ⟨u, e⟩ => .inr ⟨u, up n e⟩
  · obtain ⟨d, e1, e2, c⟩ := S.ow i hi
    rw [em]
    exact ⟨d, e1, e2, c.mono (fun u z => by rw [upd_ne fun e => S.dis i hi (by rw [e]; exact List.mem_cons_self)]; exact z) (.refl _)⟩
theorem Stp.tmpSet {M M' : List Addr} {D : Addr} {o : HO} {H1 : Hp} (k : Stp M M' hid H H1) (hM : D ∈ M') (hD : D ∉ hid) : Stp M M' hid H (upd H1 D o) :=
  ⟨by rw [mask_updM hM]; exact k.le, fun a ha => by rw [upd_ne (show a ≠ D from fun z => hD (z ▸ ha))]; exact k.fx a ha⟩
end
def Wn : WX := fun _ _ _ _ => False
def mYes : Env → R Bool := fun ρ => .ok true ρ
structure SPs (X : Cx) (C : Ac) (W : WX) (Γ : List Nat) (ifs : List Expr) (Γ' : List Nat) (f : Env → R Bool) : Prop where
  pt : PTs X ifs (tT X.K C W Γ Γ' f)
theorem sps_nil {X : Cx} {C : Ac} {W : WX} {Γ : List Nat} : SPs X C W Γ [] Γ mYes := ⟨⟨fun pins s σ H Q I ⟨hid, ρ, S, p⟩ => pts_nil.run pins s σ H Q I (p H S (Stp.refl _ _ _))⟩⟩
def compL (g : D → Env → Option Env) (tst : Env → R Bool) (f : Env → R D) (vs : List Nat) : List D → Env → List D → R (List D)
  | [], ρ, acc => .ok acc ρ
  | d :: ds, ρ, acc => match g d ρ with
    | none => .bad
    | some ρ1 => match tst ρ1 with
      | .ok true ρ2 => match f ρ2 with
        | .ok y ρ3 => if acc.length < sizeLine then compL g tst f vs ds (wipeE ρ3 vs) (acc ++ [y]) else .bad
        | _ => .bad
      | .ok false ρ2 => compL g tst f vs ds (wipeE ρ2 vs) acc
      | _ => .bad
def mLc (fi : Env → R (List D)) (g : D → Env → Option Env) (tst : Env → R Bool) (f : Env → R D) (vs : List Nat) : Env → R D := fun ρ => (fi ρ).bind fun ds ρ1 => match compL g tst f vs ds (wipeE ρ1 vs) [] with
  | .ok acc ρ2 => .ok (.lst acc) (restE ρ1 ρ2 vs)
  | _ => .bad
section
variable {X : Cx} {C : Ac} {W : WX} {Γ Γ0 Γ1 Γ2 Γ3 Γ' Γb : List Nat} {fr fr1 fr2 fr3 : Bool} {e a b c tg iter elt kx vx : Expr} {es ifs : List Expr} {ts : List Nat} {f h k : Env → R D} {g : D → Env → Option Env} {tst : Env → R Bool} {p pos apos cpos p2 : Pos} {fi : Env → R (List D)} {scope : Scope} {own : List (Str × Nat)}
/-- the new list D stands beside as a temporary while the turns go on -/
theorem lc_ok (hv : ∀ i ∈ Γ, i ∉ own.map (·.2)) (ht : ∀ i ∈ ts, i ∈ own.map (·.2)) {σ : L2.St} {H : Hp} {Q : VK} (p : tE X.K C W Γ0 Γ true (mLc fi g tst f (own.map (·.2))) σ H Q) :
    tLc (fun σ H Q => ∃ hid ρ, ST X.K C hid Γ0 ρ σ H ∧ PostI X.K C W Γ0 Γ hid σ H Q (fi ρ)) (tG X.K C Γ ts g) (tT X.K C Wn Γ Γ tst) (tE X.K C Wn Γ Γ fr f) (own.map (·.2)) σ H Q := by
  obtain ⟨hid, ρ, S, p⟩ := p
  refine ⟨hid, ρ, S, ?_⟩
  unfold mLc at p
  cases q : fi ρ with
  | bad => rw [q] at p; exact p
  | exn e ρ' => rw [q] at p; exact p
  | ok ds ρ1 =>
    rw [q] at p
    dsimp only [R.bind] at p
    intro J H1 S1 k1 ⟨Gd, Y, w, hG, hY⟩ D hD
    generalize hvs : own.map (·.2) = vs at *
    have kh := S1.holdStp (o := HO.lst []) hD
    have S2 := S1.hold (o := HO.lst []) hD
    have hDn : D ∉ hid := fun z => (S1.trk D z).1 hD
    have hDM : D ∈ Ms σ (D :: hid) Γ := mem_Ms.mpr (.inl List.mem_cons_self)
    refine lc_it w (fun i H2 => ∃ ρ2 accD acc, ST X.K C (D :: hid) Γ ρ2 (L2.wipe σ vs) H2 ∧ Stp (Ms σ hid Γ) (Ms σ (D :: hid) Γ) hid H1 H2 ∧ H2 D = some (.lst acc) ∧ RVs (gx X.K C) (mask H2 (Ms σ (D :: hid) Γ)) accD acc ∧
      PostE X.K C W Γ0 Γ true hid σ H Q (match compL g tst f vs (ds.drop i) ρ2 accD with | .ok acc ρ2 => .ok (.lst acc) (restE ρ1 ρ2 vs) | _ => .bad)) ?_ (fun i H2 _ ⟨ρ2, _, _, _, k2, _⟩ => hG _ _ k2.le) (fun i x H2 H3 hlt ⟨ρ2, accD, acc, S2, k2, hl, ra, p2⟩ y => ?_) fun H2 ⟨ρ2, accD, acc, S2, k2, hl, ra, p2⟩ => ?_
    · refine ⟨wipeE ρ1 vs, [], [], S2.wipe hv, kh, upd_same, .nil, ?_⟩
      rw [List.drop_zero]; exact p
    · have hd : ds[i]? = some ds[i] := List.getElem?_eq_getElem hlt
      rw [List.drop_eq_getElem_cons hlt] at p2
      obtain ⟨sm, rv⟩ := hY i x H2 H3 _ hd (hG _ _ k2.le) y
      have eM : Ms (L2.wipe σ vs) (D :: hid) Γ = Ms σ (D :: hid) Γ := Ms_wipe hv
      have r := rv (Ms σ (D :: hid) Γ) (by rw [← eM]; exact S2.hdM) k2.le
      have S3 := S2.same sm
      have keep : ∀ {A B : Hp}, Same A B → (∀ a ∈ hid, A a ≠ none) → Stp (Ms σ (D :: hid) Γ) (Ms σ (D :: hid) Γ) hid A B := fun {A B} sm tr => ⟨.of_same (mask_keep fun b o _ e => sm b o e), fun a ha => by
        cases z : A a with
        | none => exact absurd z (tr a ha)
        | some o => exact sm a o z⟩
      have k3 : Stp (Ms σ hid Γ) (Ms σ (D :: hid) Γ) hid H1 H3 := k2.trans (keep sm fun a ha => (S2.trk a (List.mem_cons_of_mem _ ha)).1) fun _ z => z
      have hl3 : H3 D = some (.lst acc) := sm _ _ hl
      have ra3 : RVs (gx X.K C) (mask H3 (Ms σ (D :: hid) Γ)) accD acc := ra.mono (.of_same (mask_keep fun b o _ e => sm b o e))
      unfold compL at p2
      cases q2 : g ds[i] ρ2 with
      | none => simp only [q2] at p2; exact (show False from p2).elim
      | some ρ3 =>
        simp only [q2] at p2
        refine ⟨D :: hid, ρ2, ds[i], ρ3, S3, by rw [eM]; exact r, q2, fun σ4 H4 S4 k4 o4 => ?_⟩
        have ew : L2.wipe σ4 vs = L2.wipe σ vs := by
          rw [wipe_off o4 ht]
          exact wipe_off (ts := vs) ⟨wipe_length .., fun j hj => wipe_out hj⟩ fun _ z => z
        have eM4 : Ms σ4 (D :: hid) Γ = Ms σ (D :: hid) Γ := by rw [← Ms_wipe (σ := σ4) hv, ew, eM]
        refine ⟨ew, D :: hid, ρ3, S4, ?_⟩
        rw [eM, eM4] at k4
        have k4' : Stp (Ms σ hid Γ) (Ms σ (D :: hid) Γ) hid H1 H4 := k3.trans k4 fun a ha => List.mem_cons_of_mem _ ha
        have hl4 : H4 D = some (.lst acc) := (k4.fx D List.mem_cons_self).trans hl3
        cases q3 : tst ρ3 with
        | bad => simp only [q3] at p2; exact p2
        | exn e ρ' => simp only [q3] at p2; exact (show False from p2).elim
        | ok b ρ4 =>
          simp only [q3] at p2
          intro H5 S5 k5
          rw [eM4] at k5
          have k5' : Stp (Ms σ hid Γ) (Ms σ (D :: hid) Γ) hid H1 H5 := k4'.trans k5 fun a ha => List.mem_cons_of_mem _ ha
          have hl5 : H5 D = some (.lst acc) := (k5.fx D List.mem_cons_self).trans hl4
          have ra5 : RVs (gx X.K C) (mask H5 (Ms σ (D :: hid) Γ)) accD acc := (ra3.mono k4.le).mono k5.le
          cases b with
          | false =>
            rw [if_neg Bool.false_ne_true]
            refine ⟨wipeE ρ4 vs, accD, acc, by rw [← ew]; exact S5.wipe hv, k5', hl5, ra5, p2⟩
          | true =>
            rw [if_pos rfl]
            refine ⟨D :: hid, ρ4, S5, ?_⟩
            cases q4 : f ρ4 with
            | bad => simp only [q4] at p2; exact p2
            | exn e ρ' => simp only [q4] at p2; exact (show False from p2).elim
            | ok y ρ5 =>
              simp only [q4] at p2
              intro v H6 tm S6 k6 va t6
              rw [eM4] at k6
              have sub : ∀ b ∈ Ms σ4 (D :: hid) Γ, b ∈ Ms σ4 (tm ++ (D :: hid)) Γ := Ms_subH fun a ha => List.mem_append_right _ ha
              have S7 := S6.forget (hid' := D :: hid) (fun a ha => List.mem_append_right _ ha) S5.sub
              have k7 : Stp (Ms σ (D :: hid) Γ) (Ms σ (D :: hid) Γ) (D :: hid) H5 H6 := ⟨k6.le.trans (.of_same (mask_sub (by rw [← eM4]; exact sub))), k6.fx⟩
              have rv6 : RV (gx X.K C) (mask H6 (Ms σ (D :: hid) Γ)) y v := by rw [← eM4]; exact va.rv sub t6
              have hl6 : H6 D = some (.lst acc) := (k6.fx D List.mem_cons_self).trans hl5
              have ra6 : RVs (gx X.K C) (mask H6 (Ms σ (D :: hid) Γ)) accD acc := ra5.mono k7.le
              have hal : accD.length < sizeLine := by
                by_cases z : accD.length < sizeLine
                · exact z
                · rw [if_neg z] at p2; exact (show False from p2).elim
              rw [if_pos hal] at p2
              refine ⟨acc, hl6, by rw [← ra6.length]; exact hal, wipeE ρ5 vs, accD ++ [y], acc ++ [v], ?_, ?_, upd_same, ?_, p2⟩
              · have S8 := S7.wipe hv
                rw [ew] at S8
                exact S8.tmpSet hDn S.sub
              · exact (k5'.trans k7 fun a ha => List.mem_cons_of_mem _ ha).tmpSet hDM hDn
              · rw [mask_updM hDM]
                exact ra6.app (.cons rv6 .nil)
    · rw [List.drop_length] at p2
      have S0 := S1.hold (o := HO.lst []) hD
      refine p2 (.ref D) H2 [D] (ST.unwipe S0 S2 hv ?_) (k1.trans k2 fun _ z => z) (.fr (.lst hl ra)) fun b hb => ?_
      · refine HLe.trans (.of_same fun b u e => ?_) k2.le
        obtain ⟨e1, e2⟩ := mask_some e
        have hb : b ≠ D := fun z => e1 (z ▸ hDM)
        rw [upd_ne hb] at e2
        have hm : b ∉ Ms σ hid Γ := fun z => e1 (Ms_subH (hid := D :: hid) (fun a ha => List.mem_cons_of_mem _ ha) b z)
        rw [mask_out hm]
        exact e2
      · rw [List.mem_singleton.mp hb]; exact S1.none_out hD
/-- [elt for target in iter if ..] -/
theorem se_lc {ρs : List Nat} (hc : X.calm = true) (hN : X.N.Nodup) (ok : BlkOk X.N X.env.scope scope own) (hi : SI X C W Γ0 tg iter Γ fi) (hg : ∀ (s : Shared) (H : Hp) (Cc : Addr) (cl : List (Str × Addr)) (fp : List Addr), SG (X.blk s H scope (compEnvC scope cl Cc X.env) fp) C Γ tg ts g)
    (ht : ∀ (s : Shared) (H : Hp) (Cc : Addr) (cl : List (Str × Addr)) (fp : List Addr), SPs (X.blk s H scope (compEnvC scope cl Cc X.env) fp) C Wn Γ ifs Γ tst) (he : ∀ (s : Shared) (H : Hp) (Cc : Addr) (cl : List (Str × Addr)) (fp : List Addr), SE (X.blk s H scope (compEnvC scope cl Cc X.env) fp) C Wn Γ elt Γ fr f)
    (hρ : ρs = own.map (·.2) := by rfl) (hv : (Γ.all fun i => !ρs.contains i) = true := by rfl) (hts : (ts.all fun i => ρs.contains i) = true := by rfl) (hs : ∀ x, foldedSetIterable iter X.env x = pure x := by intro _; rfl) : SE X C W Γ0 (.ListComp elt [⟨tg, iter, ifs, 0⟩] scope pos) Γ true (mLc fi g tst f ρs) := by
  subst hρ
  exact ⟨peImp (pe_lc hc hN hi.pi ok (fun s H Cc cl fp => (hg s H Cc cl fp).pg) (fun s H Cc cl fp => (ht s H Cc cl fp).pt) (fun s H Cc cl fp => (he s H Cc cl fp).pe) hs) fun σ H Q p =>
    lc_ok (fun i hi z => by have := List.all_eq_true.mp hv i hi; rw [List.contains_iff_mem.mpr z] at this; cases this) (fun i hi => List.contains_iff_mem.mp (List.all_eq_true.mp hts i hi)) p⟩
/-- x = [..] on one line -/
theorem ss_setLc (i : Nat) {ρs : List Nat} {x : Str} {pos' spos : Pos} (hc : X.calm = true) (hN : X.N.Nodup) (ok : BlkOk X.N X.env.scope scope own) (hi : SI X C W Γ0 tg iter Γ fi) (hg : ∀ (s : Shared) (H : Hp) (Cc : Addr) (cl : List (Str × Addr)) (fp : List Addr), SG (X.blk s H scope (compEnvC scope cl Cc X.env) fp) C Γ tg ts g)
    (ht : ∀ (s : Shared) (H : Hp) (Cc : Addr) (cl : List (Str × Addr)) (fp : List Addr), SPs (X.blk s H scope (compEnvC scope cl Cc X.env) fp) C Wn Γ ifs Γ tst) (he : ∀ (s : Shared) (H : Hp) (Cc : Addr) (cl : List (Str × Addr)) (fp : List Addr), SE (X.blk s H scope (compEnvC scope cl Cc X.env) fp) C Wn Γ elt Γ fr f)
    (hx : X.N[i]? = some x := by rfl) (hk : okG C.io Γ2 Γ = true := by rfl) (hn : Γ2.contains i = false := by rfl) (hρ : ρs = own.map (·.2) := by rfl) (hv : (Γ.all fun i => !ρs.contains i) = true := by rfl) (hts : (ts.all fun i => ρs.contains i) = true := by rfl) (hs : ∀ x, foldedSetIterable iter X.env x = pure x := by intro _; rfl)
    (hl : X.env.scope.names.lookup x = some .local := by rfl) (hsw : swapsWith (.ListComp elt [⟨tg, iter, ifs, 0⟩] scope pos) (some (.Name x pos')) spos.line X.env = pure true := by rfl) : SS X C W Γ0 (.Assign [.Name x pos'] (.ListComp elt [⟨tg, iter, ifs, 0⟩] scope pos) spos) (i :: Γ2) Γb fr1 (mSetO i (mLc fi g tst f ρs)) := by
  subst hρ
  exact ⟨psImp (ps_setLc hc hN hx hl hsw hi.pi ok (fun s H Cc cl fp => (hg s H Cc cl fp).pg) (fun s H Cc cl fp => (ht s H Cc cl fp).pt) (fun s H Cc cl fp => (he s H Cc cl fp).pe) hs) fun Dn σ H p =>
    lc_ok (fun i hi z => by have := List.all_eq_true.mp hv i hi; rw [List.contains_iff_mem.mpr z] at this; cases this) (fun i hi => List.contains_iff_mem.mp (List.all_eq_true.mp hts i hi)) (take_tE hk hn p)⟩
end
end Ip
namespace Ip
open PySem L2 PySem.Spec PyProof.Rows
/-- a class of errors with no field -/
structure Er (K : PySem.W.Frag) (mg : Str → Option Value) (ct : Str → Option Addr) (c : Str) : Prop where
  ex : ∃ (Cc : Addr) (B newId initId : String) (bmB : List Value), ct c = some Cc ∧ ExcBaseFacts B newId initId bmB ∧ PySem.W.excIn K Cc bmB newId = true ∧ mg c = some (.ref Cc) ∧ PySem.W.keepIn K (.ref Cc) = true ∧ PySem.W.subIn K (.ref Cc) (.type "BaseException") = some true ∧ PySem.W.typeIn K (.ref Cc) = some (.type "type")
def mRaise (c : Str) : Env → R Fl := fun ρ => .exn ⟨c, none⟩ ρ
section
variable {X : Cx} {C : Ac} {W : WX} {Γ Γ0 Γ1 Γ2 Γ3 Γ' Γb : List Nat} {fr fr1 fr2 fr3 : Bool} {e a b c : Expr} {es : List Expr} {f h k : Env → R D} {p pos pos' apos cpos p2 np : Pos} {body suite : List Stmt} {b₀ : Stmt} {fb : Env → R Fl}
theorem ST.outer {K : PySem.W.Frag} {ct : Str → Option Addr} {H0 H : Hp} {hid ioA : List Addr} {io : List Nat} {ρ : Env} {σ : L2.St} (S : ST K ⟨ct, H0, hid, io, ioA, []⟩ hid io ρ σ H) : ST K ⟨ct, H, hid, io, ioA, []⟩ hid io ρ σ H :=
  ⟨S.len, fun _ z => z, S.trk, fun a ha => .inl ha, S.nd, S.dis, fun i hi => .inl (by rw [← show io.map (sa σ) = ioA from S.pin]; exact List.mem_map_of_mem hi), ⟨.refl _, fun P h => S.frm.tb P (S.frm.tab P h)⟩, fun _ _ => rfl, fun _ z => z, fun _ z => z, S.pin, S.sl, fun i hi => let ⟨o, x, y, c⟩ := S.ow i hi; ⟨o, x, y, c.norw List.not_mem_nil⟩⟩
def mTry (cn : Str) (i j : Nat) (d : D) (f : Env → R Fl) : Env → R Fl := fun ρ => match f ρ with
  | .ok .nx ρ' => .ok .nx ρ'
  | .exn e ρ' => if e.cls = cn ∧ e.fld.isNone = true ∧ j < ρ'.length ∧ i < ρ'.length then .ok .nx ((ρ'.set j (some d)).set i none) else .bad
  | _ => .bad
end
end Ip
namespace Ip
open PySem L2 PySem.Spec PyProof.Rows
def enumL : Nat → List D → List D
  | _, [] => []
  | n, d :: ds => .tup [.int (n : Nat), d] :: enumL (n + 1) ds
section
variable {X : Cx} {C : Ac} {W : WX} {Γ Γ0 Γ1 Γ2 Γ3 Γ' Γb : List Nat} {fr fr1 fr2 fr3 : Bool} {e a b c tg : Expr} {es elts : List Expr} {f h k : Env → R D} {p pos pos' apos cpos p2 np tpos : Pos} {kk : Nat}
def mEnumS (f : Env → R D) : Env → R (List D) := fun ρ => (f ρ).bind fun d ρ' => match d with
  | .str x => .ok (enumL 0 (x.cps.toList.map chD)) ρ'
  | _ => .bad
def whileL (c : Env → R Bool) (body : Env → R Fl) : Nat → Env → R Fl
  | 0, _ => .bad
  | n + 1, ρ => match c ρ with
    | .ok false ρ' => .ok .nx ρ'
    | .ok true ρ' => match body ρ' with
      | .ok .nx ρ2 => whileL c body n ρ2
      | .ok .ct ρ2 => whileL c body n ρ2
      | .ok .bk ρ2 => .ok .nx ρ2
      | .ok (.rt z) ρ2 => .ok (.rt z) ρ2
      | .exn e ρ2 => .exn e ρ2
      | .bad => .bad
    | .exn e ρ' => .exn e ρ'
    | .bad => .bad
def mWhile (n : Env → Nat) (c : Env → R Bool) (body : Env → R Fl) : Env → R Fl := fun ρ => whileL c body (n ρ) ρ
end
end Ip
namespace Ip
open PySem L2 PySem.Spec PyProof.Rows
def keyB : D → D → Bool
  | .int i, .int j => i == j
  | .str x, .str y => x == y
  | _, _ => false
def dFind : List D → List D → D → Option D
  | k' :: ks, d :: ds, k => if keyB k' k then some d else dFind ks ds k
  | _, _, _ => none
def dPut (ks ds : List D) (k v : D) : List D × List D := if ks.any (keyB · k) then (ks, List.zipWith (fun k' d => if keyB k' k then v else d) ks ds) else (ks ++ [k], ds ++ [v])
theorem keyB_kD (k k' : Key) : keyB (kD k) (kD k') = decide (k = k') := by
  cases k with
  | inl i => cases k' with
    | inl j => by_cases h : i = j <;> simp [keyB, kD, h]
    | inr y => simp [keyB, kD]
  | inr x => cases k' with
    | inl j => simp [keyB, kD]
    | inr y => by_cases h : x = y <;> simp [keyB, kD, h]
def toKey : D → Option Key
  | .int i => some (.inl i)
  | .str x => some (.inr x)
  | _ => none
def inDD : D → D → Option Bool
  | k, .dic ks ds => if ks.all isKD then (toKey k).map fun _ => (dFind ks ds k).isSome else none
  | _, _ => none
def notInKD (a b : D) : Option D := (inDD a b).map fun k => .bl !k
/-- len(d), list(d) -/
def oLenD : List D → Option D
  | [.dic ks ds] => if ks.all isKD ∧ ks.length = ds.length then some (.int ds.length) else none
  | _ => none
section
variable {X : Cx} {C : Ac} {W : WX} {Γ Γ0 Γ1 Γ2 Γ3 Γ' Γb : List Nat} {fr fr1 fr2 fr3 : Bool} {e a b c tg : Expr} {es elts : List Expr} {f h k : Env → R D} {p pos pos' apos cpos p2 np tpos : Pos} {f2 : Env → R (D × D)}
/-- self.f = e, self an owned object -/
def putD (f : Str) (d : D) : List Str → List D → List Str × List D
  | n :: ns, e :: ds => if n = f then (n :: ns, d :: ds) else (n :: (putD f d ns ds).1, e :: (putD f d ns ds).2)
  | _, _ => ([f], [d])
def mFldS (i : Nat) (cn fn : Str) (h : Env → R D) : Env → R Fl := fun ρ => (h ρ).bind fun d ρ1 => match ρ1.getD i none with
  | some (.obj c ns ds) => if c = cn ∧ ns.length < 1000 then .ok .nx (ρ1.set i (some (.obj c (putD fn d ns ds).1 (putD fn d ns ds).2))) else .bad
  | _ => .bad
end
end Ip
namespace Ip
open PySem L2 PySem.Spec PyProof.Rows
/-- two objects are asked whether they are alike -/
inductive EqRef (prog : Program) (w : World) (s : Shared) (n : Nat) : Addr → Addr → Bool → Prop
  | lists {l l' : Addr} {vs vs' : Array Value} {e : Nat → Bool} : s.heap.IsList l vs → s.heap.IsList l' vs' → vs.size = vs'.size → (∀ j (h1 : j < vs.size) (h2 : j < vs'.size), PySem.W.EqTree prog w s n vs[j] vs'[j] (e j)) →
      EqRef prog w s n l l' ((List.range vs.size).all e)
  | listsLen {l l' : Addr} {vs vs' : Array Value} : s.heap.IsList l vs → s.heap.IsList l' vs' → (vs.size != vs'.size) = true → EqRef prog w s n l l' false
  | tuples {l l' : Addr} {vs vs' : Array Value} {e : Nat → Bool} : s.heap.IsTuple l vs → s.heap.IsTuple l' vs' → (∀ j (h1 : j < vs.size) (h2 : j < vs'.size), PySem.W.EqTree prog w s n vs[j] vs'[j] (e j)) →
      EqRef prog w s n l l' ((List.range (min vs.size vs'.size)).all e && vs.size == vs'.size)
  | dicts {a b : Addr} {ka kb : List (Key × Value)} {e : Key → Bool} : (a == sysModules) = false → (b == sysModules) = false → s.heap.DictOf (mixKind prog w) a ka → s.heap.DictOf (mixKind prog w) b kb →
      (∀ k v y, (k, v) ∈ ka → valueAt kb k = some y → PySem.W.EqTree prog w s n v y (e k)) → EqRef prog w s n a b (ka.length == kb.length && ka.all fun p => (valueAt kb p.1).isSome && e p.1)
theorem EqRef.tree {prog : Program} {w : World} {s : Shared} {n : Nat} {a b : Addr} {r : Bool} (h : EqRef prog w s n a b r) (ne : a ≠ b) : PySem.W.EqTree prog w s (n + 1) (.ref a) (.ref b) r := by
  cases h with
  | lists h1 h2 h3 h4 => exact .lists ne h1 h2 h3 h4
  | listsLen h1 h2 h3 => exact .listsLen ne h1 h2 h3
  | tuples h1 h2 h3 => exact .tuples ne h1 h2 h3
  | dicts h1 h2 h3 h4 h5 => exact .dicts ne h1 h2 h3 h4 h5
end Ip
namespace Ip
open PySem L2 PySem.Spec PyProof.Rows
def mEqO (cs : List Str) (F : FSem) (f h : Env → R D) : Env → R D := fun ρ => (f ρ).bind fun x ρ1 => (h ρ1).bind fun y ρ2 => match clsOf x with
  | some c => if cs.contains c = true ∧ clsOf y = some c then frR ρ2 (F [x, y]) else .bad
  | none => .bad
end Ip
namespace Ip
open PySem L2 PySem.Spec PyProof.Rows
end Ip
namespace Ip
open PySem L2 PySem.Spec PyProof.Rows
section
variable {X : Cx} {C : Ac} {W : WX} {Γ Γ' : List Nat} {fr : Bool} {e : Expr} {f : Env → R D} {p pos p2 pos2 : Pos}
def revD : D → Option D
  | .lst ds => some (.lst ds.reverse)
  | _ => none
end
theorem def_okD {P : Program} {w : World} {K : PySem.W.Frag} {mg : Str → Option Value} {base : Heap} {x qual : Str} {pr : Arguments} {bd : List Stmt} {sc : Scope} {f : Addr} {fd : FuncData} {N ps : List Str} {k n : Nat} {io : List Nat} {fr : Bool} {ct : Str → Option Addr} {sem : Env → R Fl}
    (F : FunD K x qual pr bd sc [] [] f fd) (S : FnScope N ps sc) (hn : n = ps.length)
    (hb : ∀ (cdv : Value) (A : Around) (outer : List PySem.Env) (s : Shared) (H : Hp) (E : XK) (hid ioA : List Addr), Room k (A.deeper (envOfC qual sc s.heap.objs.size f cdv)) →
      SSs (cxOf (L2.CX P w) P w K mg base N qual sc f cdv A outer s H E) ⟨ct, H, hid, io, ioA, []⟩ (fun cls od _ H' => E cls od H') io bd io [] fr sem) :
    FnOk P w K mg base (L2.CX P w) (k + 1) f fd ps (spF K ct n io fr (fnSem N.length io sem)) := by
  refine F.ok S (spF_len hn) fun cdv A outer s H vs Q E hr h => ?_
  refine body_sp (X := cxOf (L2.CX P w) P w K mg base N qual sc f cdv A outer s H E) (W := fun cls od _ H' => E cls od H') rfl (fun _ _ _ _ h => h) (fun hid ioA => hb cdv A outer s H E hid ioA hr) ?_ h
  have := congrArg List.length S.pre
  rw [List.length_take] at this
  omega
theorem cx_takes {P : Program} {w : World} {K : PySem.W.Frag} {mg : Str → Option Value} {base : Heap} {qual : Str} {sc : Scope} {f : Addr} {N : List Str} {cdv : Value} {A : Around} {outer : List PySem.Env} {s : Shared} {H : Hp} {E : XK} : Takes (cxOf (L2.CX P w) P w K mg base N qual sc f cdv A outer s H E) (fun cls od _ H' => E cls od H') := takes_of rfl rfl rfl rfl
theorem cx_own {P : Program} {w : World} {K : PySem.W.Frag} {mg : Str → Option Value} {base : Heap} {qual : Str} {sc : Scope} {f : Addr} {N : List Str} {cdv : Value} {A : Around} {outer : List PySem.Env} {s : Shared} {H : Hp} {E : XK} : PassesOwn (model P w) (A.deeper (envOfC qual sc s.heap.objs.size f cdv)) (cxOf (L2.CX P w) P w K mg base N qual sc f cdv A outer s H E).env (cxOf (L2.CX P w) P w K mg base N qual sc f cdv A outer s H E).xe := passes_of (X := cxOf (L2.CX P w) P w K mg base N qual sc f cdv A outer s H E) rfl
end Ip
namespace Ip
open PySem L2 PySem.Spec PyProof.Rows
section
variable {X : Cx} {C : Ac} {W : WX} {Γ Γ0 Γ1 Γ2 Γ3 Γ' Γb : List Nat} {fr fr1 fr2 fr3 : Bool} {e a b c tg : Expr} {es elts : List Expr} {f h k : Env → R D} {p pos pos' apos cpos p2 np tpos : Pos} {f2 : Env → R (D × D)} {st : Stmt} {sts : List Stmt} {fs gs : Env → R Fl}
theorem sp_cmp2 {op : CmpOp} {r : R2} {opD : D → D → Option D} (ho : OpR X (compareOp op) r) (hs : OpS ⟨X.K, C.ct⟩ r opD) (h2 : S2 X C W Γ a b Γ' f2) (hm : behindInMarks op b = false := by rfl) : SP X C W Γ (.Compare a [op] [b] pos) Γ' (mTest (m2 opD f2)) := by
  obtain ⟨ta, tb, pa, pb, hx⟩ := h2.ex
  exact ⟨ptImp (pt_cmpR ho pa pb hm) fun _ _ _ p => m2_tE hs hx (tT_tE p)⟩
/-- let some owned slots go behind a statement -/
theorem ss_let (h1 : SS X C W Γ st Γ1 Γb fr fs) (hk : okG C.io Γ2 Γ1 = true := by rfl) : SS X C W Γ st Γ2 Γb fr fs := ⟨psImp h1.ps fun Dn σ H ⟨ρ, S, p⟩ => by
  refine ⟨ρ, S, ?_⟩
  obtain ⟨h1, h2, h3⟩ := okG_of hk
  cases q : fs ρ with
  | bad => rw [q] at p; exact p
  | exn e ρ' => rw [q] at p; exact p
  | ok d ρ' =>
    rw [q] at p
    cases d with
    | nx => exact fun σ' H' S' k' => p σ' H' (S'.weak h1 h2 h3) (ST.weakStp (K := X.K) k' h1)
    | bk => exact p
    | ct => exact p
    | rt d => exact p⟩
end
theorem room64 {k : Nat} {A : Around} (r : Room k A) : A.units + 64 < cLine := by have := r.un; omega
end Ip
namespace Ip
open PySem L2 PySem.Spec PyProof.Rows
end Ip
namespace Ip
open PySem L2 PySem.Spec PyProof.Rows
theorem excC_ok {K : PySem.W.Frag} {x : Str} (h : excC K x = true) : ExcC K (He.ga K x) := by
  simp only [excC, Bool.and_eq_true, decide_eq_true_eq] at h
  obtain ⟨h1, h2, h3, h4, h5, h6, h7, h8⟩ := h
  exact ⟨h1, h2, h3, h4, h5, h6, h7, h8⟩
section
variable {fa : List He.Fa} {fn : List He.DefD} {xs : List (PySem.W.Frag → Bool)} {K : PySem.W.Frag}
theorem SaysX.d (c : SaysX fa fn xs K) : He.SaysD fa fn K := by
  have h1 : (((fa.all fun f => f.ok K) && fn.all fun d => d.ok K) && xs.all fun x => x K) = true := congrArg (fun z : He.AlD => z.1) c
  have h2 : fn.map (fun d => He.fnW K d.at_) = fn.map He.DefD.val := congrArg (fun z : He.AlD => z.2) c
  unfold He.SaysD He.obsD He.valD
  rw [h2, (Bool.and_eq_true_iff.mp h1).1]
theorem SaysX.x (c : SaysX fa fn xs K) (i : Nat) {x : PySem.W.Frag → Bool} (h : xs[i]? = some x := by rfl) : x K = true := by
  have h1 : (((fa.all fun f => f.ok K) && fn.all fun d => d.ok K) && xs.all fun x => x K) = true := congrArg (fun z : He.AlD => z.1) c
  exact List.all_eq_true.mp (Bool.and_eq_true_iff.mp h1).2 x (List.mem_of_getElem? h)
end
/-- the law's promise, from its semantics -/
theorem law_sp {K : PySem.W.Frag} {ct : Str → Option Addr} {F : FSem} {H : Hp} {a : Addr} {ns : List Int} (hF : ∃ outs, F [.lst (ns.map D.int)] = .ok (.bl true) outs) (ht : TabsOk ct H) (h : SqL K H a (ns.map V.int)) : spF K ct 1 [] false F [.ref a] H (fun v _ => v = .bl true) fun _ _ _ => False := by
  obtain ⟨outs, e⟩ := hF
  have em : mask H ([] : List Addr) = H := by funext b; exact mask_out (by simp)
  refine ⟨[.lst (ns.map D.int)], [], [], rfl, ⟨rfl, rfl, List.nodup_nil, (fun _ z => nomatch z), (fun _ z => nomatch z), by rw [List.append_nil, em]; exact ht, fun i d _ hd => ?_, (fun _ z => nomatch z)⟩, ?_⟩
  · match i, hd with
    | 0, hd => cases hd; exact ⟨_, rfl, .lst (by rw [List.append_nil, em]; exact h) (RVs.ints ns)⟩
  · rw [e]
    intro v H' tm _ va
    exact (val_bl va).1
theorem law_cx {P : Program} {w : World} : ∀ (H : Hp) (s : Shared) (e : Value) (s' : Shared), L2.CX P w [] H s (fun _ _ _ => False) e s' → False := fun _ _ _ _ ⟨_, _, _, _, _, _, _, _, _, _, _, _, z⟩ => z
end Ip
set_option maxHeartbeats 2000000
namespace Ip
open PySem L2 PySem.Spec PyProof.Rows
end Ip
namespace Ip
open PySem L2 PySem.Spec PyProof.Rows
end Ip
namespace Ip
open PySem L2 PySem.Spec PyProof.Rows
def oListDT : List D → Option D
  | [.dit ks _] => some (.lst (ks.map kT))
  | _ => none
end Ip
namespace Ip
open PySem L2 PySem.Spec PyProof.Rows
open PySem.W (AllAlike Sortable dataLe EachIs)
def isTup1 : PyData → Bool
  | .tuple (_ :: _) => true
  | _ => false
def okSort (bs : List PyData) : Bool := (bs.all fun d => bs.all fun d' => PySem.W.alike d d') && (bs.all isTup1 && bs.all fun d => decide (d.depth ≤ 60))
/-- the items sorted by their data; the keys of the items may be told apart -/
def sortL (b : Bool) (L : List (D × PyData)) : List D := (L.mergeSort (dataLe b (·.2))).map (·.1)
def oSortD (b : Bool) : List D → Option D
  | [.lst ds] => match toPys ds with
    | some bs => if okSort bs = true then some (.lst (sortL b (ds.zip bs))) else none
    | none => none
  | _ => none
theorem map_ms {α β : Type} {le : β → β → Bool} (f : α → β) (l : List α) : (l.mergeSort fun x y => le (f x) (f y)).map f = (l.map f).mergeSort le := List.map_mergeSort fun _ _ _ _ => rfl
end Ip
namespace Ip
open PySem L2 PySem.Spec PyProof.Rows
end Ip
set_option maxHeartbeats 2000000
namespace Ip
open PySem L2 PySem.Spec PyProof.Rows
open PySem.W
open PySem.W (AllAlike Sortable dataLe EachIs KeyedOut KeepsBut)
section
variable {X : Cx} {pins : List (Addr × Obj)} {σ : L2.St}
/-- what calls leave: all that is not hidden is kept, the hidden is untouched -/
structure Lat (M : List Addr) (H H' : Hp) : Prop where
  le : HLe (mask H M) (mask H' M)
  fx : ∀ a ∈ M, H' a = H a
  gro : ∀ a, H a ≠ none → H' a ≠ none
theorem Lat.refl (M : List Addr) (H : Hp) : Lat M H H := ⟨.refl _, fun _ _ => rfl, fun _ z => z⟩
theorem Lat.trans {M : List Addr} {A B D : Hp} (x : Lat M A B) (y : Lat M B D) : Lat M A D := ⟨x.le.trans y.le, fun a h => (y.fx a h).trans (x.fx a h), fun a h => y.gro a (x.gro a h)⟩
end
end Ip
set_option maxHeartbeats 2000000
namespace Ip
open PySem L2 PySem.Spec PyProof.Rows
open PySem.W
end Ip
set_option maxHeartbeats 2000000
namespace Ip
open PySem L2 PySem.Spec PyProof.Rows
open PySem.W
end Ip
set_option maxHeartbeats 2000000
namespace Ip
open PySem L2 PySem.Spec PyProof.Rows
def NotF : HO → Prop
  | .dK _ => False
  | .dT _ => False
  | .frz _ (.dK _) => False
  | .frz _ (.dT _) => False
  | _ => True
/-- kept, up to locks -/
structure HLw (A B : Hp) : Prop where
  o : ∀ b o, A b = some o → NotF o → B b = some o
  k : ∀ b kvs, Rd A b (.dK kvs) → Rd B b (.dK kvs)
  t : ∀ b kvs, Rd A b (.dT kvs) → Rd B b (.dT kvs)
theorem HLw.rd {A B : Hp} (s : HLw A B) {a : Addr} {u : HO} (hn : NotF u) (hf : ∀ o, NotF (.frz o u)) (h : Rd A a u) : Rd B a u :=
  h.elim (fun e => .inl (s.o _ _ e hn)) fun ⟨o, e⟩ => .inr ⟨o, s.o _ _ e (hf o)⟩
theorem HLw.sqL {A B : Hp} (s : HLw A B) {K : PySem.W.Frag} {a : Addr} {vs : List V} (h : SqL K A a vs) : SqL K B a vs :=
  h.elim (fun e => .inl (s.rd trivial (fun _ => trivial) e)) .inr
end Ip
set_option maxHeartbeats 1000000
namespace Ip
open PySem L2 PySem.Spec PyProof.Rows
end Ip
namespace Ip
open PySem L2 PySem.Spec PyProof.Rows
section
variable {X : Cx} {C : Ac} {W : WX} {Γ Γ1 Γ2 Γ' : List Nat} {fr fr1 : Bool} {o e : Expr} {f h : Env → R D} {p pos apos pos2 : Pos}
def oJoinRev (a : Str) : D → Option D
  | .lst ds => (dStrs ds).bind fun ys => ifO ((ys.map (·.length)).sum + ys.length * a.length ≤ 16777216) (.str (Txt.join a ys.reverse))
  | _ => none
def mJoinRev (f h : Env → R D) : Env → R D := fun ρ => (f ρ).bind fun d ρ1 => match d with
  | .str s => (h ρ1).bind fun d ρ2 => ofO ρ2 (oJoinRev s d)
  | _ => .bad
end
section
variable {X : Cx} {g : Gx}
def inID : D → D → Option D
  | .int i, .lst ds => (dInts ds).map fun ns => .bl (ns.contains i)
  | .int i, .tup ds => (dInts ds).map fun ns => .bl (ns.contains i)
  | _, _ => none
end
end Ip
set_option maxHeartbeats 1000000
namespace Ip
open PySem L2 PySem.Spec PyProof.Rows
/-- X holds what it caught: the exception at a, of the class cls with the data d -/
structure Caught (X : Cx) (pins : List (Addr × Obj)) (σ : L2.St) (H : Hp) (cls : Value) (d : Option Addr) (a : Addr) (s : Shared) : Prop where
  na : H a = none
  ex : ∃ (B : Heap) (sI : Shared), Inv X pins σ H sI ∧ (∀ b o, sI.heap.get? b = some o → b ∉ frs X.stack → B.get? b = some o) ∧ sI.heap.UpToSlots s.heap ∧ HandSPX.FlyingZ B X.stack a (Zc cls d) s.heap ∧ s.os = sI.os ∧ AllBare s.gens
section
variable {X : Cx} {pins : List (Addr × Obj)} {σ : L2.St} {H : Hp} {cls : Value} {d : Option Addr} {a : Addr} {s : Shared} {D : Ends} {Wout : WX} {E : Value → Shared → Prop}
theorem Caught.obj (c : Caught X pins σ H cls d a s) (hs : X.stack = X.env :: X.outer) (hf : X.env.frame = some X.env.locals) : ∃ (o : Obj) (vs : Array Value), s.heap.get? a = some o ∧ o.data = .fields vs ∧ Zc cls d o ∧ a ≠ X.env.locals ∧ a ∉ X.fs := by
  obtain ⟨B, sI, _, _, _, fl, _⟩ := c.ex
  obtain ⟨o, vs, e, z, dd⟩ := fl.there
  have no : a ∉ frs X.stack := fun m => by
    obtain ⟨_, o2, e2, nd⟩ := fl.2.2.1.mem m
    exact nd vs (by rw [← dd, Option.some.inj (e2.symm.trans e)])
  rw [hs] at no
  refine ⟨o, vs, e, dd, z, fun q => no (List.mem_filterMap.mpr ⟨_, List.mem_cons_self, by rw [hf, q]⟩), fun q => ?_⟩
  obtain ⟨env, m, fe⟩ := List.mem_filterMap.mp q
  exact no (List.mem_filterMap.mpr ⟨env, List.mem_cons_of_mem _ m, fe⟩)
end
end Ip
set_option maxHeartbeats 1000000
namespace Ip
open PySem L2 PySem.Spec PyProof.Rows
structure TC where
  cn : Str
  i : Option Nat
  j : Nat
  d : D
  v : V
  Cc : Addr
def clr (i : Option Nat) (ρ : Env) : Env := match i with
  | none => ρ
  | some i => ρ.set i none
def pickC : List (Str × Option Nat × Nat × D) → Ex → Env → R Fl
  | [], _, _ => .bad
  | (cn, i, j, d) :: r, e, ρ => if e.cls = cn then (if e.fld.isNone = true ∧ j < ρ.length ∧ (∀ k ∈ i, k < ρ.length) then .ok .nx (clr i (ρ.set j (some d))) else .bad) else pickC r e ρ
def mTryC (l : List (Str × Option Nat × Nat × D)) (f : Env → R Fl) : Env → R Fl := fun ρ => match f ρ with
  | .ok .nx ρ' => .ok .nx ρ'
  | .exn e ρ' => pickC l e ρ'
  | _ => .bad
/-- the clauses are known: each takes its class, none takes the class of a later one -/
inductive TcOk (K : PySem.W.Frag) (ct : Str → Option Addr) (io : List Nat) : List TC → Prop
  | nil : TcOk K ct io []
  | cons {t : TC} {r : List TC} : ct t.cn = some t.Cc → PySem.W.exmOne K (.ref t.Cc) (.ref t.Cc) = some true → (∀ u ∈ r, PySem.W.exmOne K (.ref u.Cc) (.ref t.Cc) = some false) → (∀ A, RV ⟨K, ct⟩ A t.d t.v) →
      t.j ∉ io → (∀ k ∈ t.i, k ∉ io ∧ k ≠ t.j) → TcOk K ct io r → TcOk K ct io (t :: r)
section
variable {X : Cx} {W : WX} {Γb : List Nat} {fr : Bool} {body : List Stmt} {pos : Pos} {fb : Env → R Fl}
theorem TcOk.ct {K : PySem.W.Frag} {ct : Str → Option Addr} {io : List Nat} {l : List TC} (h : TcOk K ct io l) : ∀ t ∈ l, ct t.cn = some t.Cc := by
  induction h with
  | nil => exact fun _ z => nomatch z
  | cons h1 _ _ _ _ _ _ ih =>
    intro u hu
    rcases List.mem_cons.mp hu with rfl | hu
    · exact h1
    · exact ih u hu
end
end Ip
set_option maxHeartbeats 1000000
namespace Ip
open PySem L2 PySem.Spec PyProof.Rows
end Ip
namespace Ip
open PySem L2
variable {α : Type} {i j n : Nat} {ρ ρ0 ρ1 ρ2 ρ3 : Env} {d x y z : D} {ds es : List D} {f h k : Env → R D} {g : Env → R (List D)} {f2 : Env → R (D × D)} {op op' : D → D → Option D} {c c2 : Env → R Bool} {b : Bool} {fs gs body : Env → R Fl} {r : R Fl} {rd : R D} {gt : D → Env → Option Env} {F : FSem}
theorem ev_gIx {ds0 : List D} {q : Int} (e0 : lstO (ρ.getD i none) = some ds0) (e1 : h ρ = .ok (.int q) ρ1) (e2 : lstO (ρ1.getD i none) = some ds) (e3 : ixN ds.length q = some n) : gIx i h d ρ = some (ρ1.set i (some (.lst (ds.set n d)))) := by unfold gIx; rw [e0, e1]; dsimp only; rw [e2]; dsimp only [Option.bind]; rw [e3]; rfl
/-- a comprehension that takes all -/
theorem compL_inv {tst : Env → R Bool} {vs : List Nat} (Inv : Nat → Env → List D → Prop)
    (hs : ∀ i d ρ acc, ds[i]? = some d → Inv i ρ acc → acc.length ≤ i ∧ ∃ ρ1 ρ2 b, gt d ρ = some ρ1 ∧ tst ρ1 = .ok b ρ2 ∧ (b = true → ∃ y ρ3, f ρ2 = .ok y ρ3 ∧ Inv (i + 1) (wipeE ρ3 vs) (acc ++ [y])) ∧ (b = false → Inv (i + 1) (wipeE ρ2 vs) acc)) (hz : ds.length < sizeLine) (h0 : Inv 0 ρ []) :
    ∃ acc ρ', compL gt tst f vs ds ρ [] = .ok acc ρ' ∧ Inv ds.length ρ' acc := by
  have key : ∀ (es : List D) (m : Nat) (ρ : Env) (acc : List D), es = ds.drop m → m ≤ ds.length → Inv m ρ acc → ∃ acc' ρ', compL gt tst f vs es ρ acc = .ok acc' ρ' ∧ Inv ds.length ρ' acc' := by
    intro es
    induction es with
    | nil =>
      intro m ρ acc e hm hi
      have : ds.length ≤ m := by
        have := congrArg List.length e
        rw [List.length_drop] at this
        simp at this; omega
      rw [show ds.length = m by omega]
      exact ⟨acc, ρ, rfl, hi⟩
    | cons d es ih =>
      intro m ρ acc e hm hi
      have hd : ds[m]? = some d := by
        have := congrArg (fun l => l[0]?) e
        simp only [List.getElem?_drop] at this
        simpa using this.symm
      have hes : es = ds.drop (m + 1) := by
        have := congrArg List.tail e
        simpa [List.tail_drop] using this
      have hml : m + 1 ≤ ds.length := (List.getElem?_eq_some_iff.mp hd).1
      obtain ⟨hl, ρ1, ρ2, b, e1, e2, ht, hf⟩ := hs m d ρ acc hd hi
      unfold compL
      rw [e1]; dsimp only; rw [e2]
      cases b with
      | true =>
        obtain ⟨y, ρ3, e3, h3⟩ := ht rfl
        dsimp only; rw [e3]; dsimp only; rw [if_pos (by omega)]
        exact ih (m + 1) _ _ hes hml h3
      | false => exact ih (m + 1) _ _ hes hml (hf rfl)
  exact key ds 0 ρ [] (by simp) (Nat.zero_le _) h0
end Ip
namespace Ip
open PySem L2
def wpx {α : Type} (E : Ex → Env → Prop) (r : R α) (P : α → Env → Prop) : Prop := match r with
  | .ok a ρ => P a ρ
  | .exn e ρ => E e ρ
  | .bad => False
/-- no exception comes -/
abbrev noE : Ex → Env → Prop := fun _ _ => False
abbrev wp {α : Type} (r : R α) (P : α → Env → Prop) : Prop := wpx noE r P
def wo (o : Option D) (ρ : Env) (P : D → Env → Prop) : Prop := match o with
  | some d => P d ρ
  | none => False
/-- a def's answer -/
def wfx (E : Ex → List D → Prop) (r : FR) (P : D → List D → Prop) : Prop := match r with
  | .ok d outs => P d outs
  | .exn e outs => E e outs
  | .bad => False
abbrev noF : Ex → List D → Prop := fun _ _ => False
abbrev wf (r : FR) (P : D → List D → Prop) : Prop := wfx noF r P
theorem wp_of {α : Type} {r : R α} {P : α → Env → Prop} (h : wp r P) : ∃ a ρ, r = .ok a ρ ∧ P a ρ := by
  cases r with
  | ok a ρ => exact ⟨a, ρ, rfl, h⟩
  | exn e ρ => exact h.elim
  | bad => exact h.elim
theorem wf_of {r : FR} {P : D → List D → Prop} (h : wf r P) : ∃ d outs, r = .ok d outs ∧ P d outs := by
  cases r with
  | ok a ρ => exact ⟨a, ρ, rfl, h⟩
  | exn e ρ => exact h.elim
  | bad => exact h.elim
theorem wp_imp {α : Type} {E : Ex → Env → Prop} {r : R α} {P Q : α → Env → Prop} (h : wpx E r P) (i : ∀ a ρ, P a ρ → Q a ρ) : wpx E r Q := by
  cases r with
  | ok a ρ => exact i a ρ h
  | exn e ρ => exact h
  | bad => exact h.elim
theorem wf_imp {E : Ex → List D → Prop} {r : FR} {P Q : D → List D → Prop} (h : wfx E r P) (i : ∀ a ρ, P a ρ → Q a ρ) : wfx E r Q := by
  cases r with
  | ok a ρ => exact i a ρ h
  | exn e ρ => exact h
  | bad => exact h.elim
theorem wf_impE {E E2 : Ex → List D → Prop} {r : FR} {P Q : D → List D → Prop} (h : wfx E r P) (i : ∀ a ρ, P a ρ → Q a ρ) (ie : ∀ e ρ, E e ρ → E2 e ρ) : wfx E2 r Q := by
  cases r with
  | ok a ρ => exact i a ρ h
  | exn e ρ => exact ie e ρ h
  | bad => exact h.elim
theorem wp_bind {α β : Type} {E : Ex → Env → Prop} {r : R α} {k : α → Env → R β} {P : β → Env → Prop} (h : wpx E r fun a ρ => wpx E (k a ρ) P) : wpx E (r.bind k) P := by
  cases r with
  | ok a ρ => exact h
  | exn e ρ => exact h
  | bad => exact h.elim
section
variable {E : Ex → Env → Prop} {i j n : Nat} {ρ : Env} {d x y z : D} {f h k : Env → R D} {g : Env → R (List D)} {f2 : Env → R (D × D)} {op op' : D → D → Option D} {c c2 : Env → R Bool} {b : Bool} {fs gs body : Env → R Fl} {gt : D → Env → Option Env} {F : FSem} {P : D → Env → Prop} {PL : List D → Env → Prop} {PB : Bool → Env → Prop} {PS : Fl → Env → Prop} {P2 : D × D → Env → Prop}
theorem wo_ofO {o : Option D} (w : wo o ρ P) : wpx E (ofO ρ o) P := by cases o with | none => exact w.elim | some d => exact w
theorem w_c (w : P d ρ) : wpx E (mC d ρ) P := w
theorem w_var (e : ρ.getD i none = some d) (w : P d ρ) : wpx E (mVar i ρ) P := by unfold mVar; rw [e]; exact w
theorem w_pair (w : wpx E (f ρ) fun x ρ1 => wpx E (h ρ1) fun y ρ2 => P2 (x, y) ρ2) : wpx E (mPair f h ρ) P2 := wp_bind (wp_imp w fun x ρ1 w1 => wp_bind w1)
theorem w_pairO (w : wpx E (h ρ) fun y ρ2 => ∃ x, ρ2.getD i none = some x ∧ P2 (x, y) ρ2) : wpx E (mPairO i h ρ) P2 := wp_bind (wp_imp w fun y ρ2 ⟨x, e, w1⟩ => by rw [e]; exact w1)
theorem w_pairR (w : wpx E (f ρ) fun x ρ2 => ∃ y, ρ2.getD i none = some y ∧ P2 (x, y) ρ2) : wpx E (mPairR f i ρ) P2 := wp_bind (wp_imp w fun y ρ2 ⟨x, e, w1⟩ => by rw [e]; exact w1)
theorem w_m2 (w : wpx E (f2 ρ) fun p ρ2 => wo (op p.1 p.2) ρ2 P) : wpx E (m2 op f2 ρ) P := wp_bind (wp_imp w fun p ρ2 w1 => wo_ofO w1)
theorem w_un {o : D → Option D} (w : wpx E (f ρ) fun x ρ2 => wo (o x) ρ2 P) : wpx E (mUn o f ρ) P := wp_bind (wp_imp w fun p ρ2 w1 => wo_ofO w1)
theorem w_nil (w : PL [] ρ) : wpx E (mNil ρ) PL := w
theorem w_cons (w : wpx E (f ρ) fun x ρ1 => wpx E (g ρ1) fun ds ρ2 => PL (x :: ds) ρ2) : wpx E (mCons f g ρ) PL := wp_bind (wp_imp w fun x ρ1 w1 => wp_bind w1)
theorem w_own (w : wpx E (g ρ) fun ds ρ2 => ∃ x, ρ2.getD i none = some x ∧ PL (x :: ds) ρ2) : wpx E (mOwn i g ρ) PL := wp_bind (wp_imp w fun y ρ2 ⟨x, e, w1⟩ => by rw [e]; exact w1)
theorem w_io (w : wpx E (g ρ) fun ds ρ2 => PL (.non :: ds) ρ2) : wpx E (mIo g ρ) PL := wp_bind w
theorem w_arg {o : List D → Option D} (w : wpx E (g ρ) fun ds ρ2 => wo (o ds) ρ2 P) : wpx E (mArg o g ρ) P := wp_bind (wp_imp w fun p ρ2 w1 => wo_ofO w1)
theorem w_argI {o : List D → Option (List D)} (w : wpx E (g ρ) fun ds ρ2 => ∃ es, o ds = some es ∧ PL es ρ2) : wpx E (mArgI o g ρ) PL := wp_bind (wp_imp w fun p ρ2 ⟨es, e, w1⟩ => by rw [e]; exact w1)
theorem w_seqI (w : wpx E (f ρ) fun d ρ2 => ∃ es, asSeq d = some es ∧ PL es ρ2) : wpx E (mSeqI f ρ) PL := wp_bind (wp_imp w fun p ρ2 ⟨es, e, w1⟩ => by rw [e]; exact w1)
theorem w_tup (w : wpx E (g ρ) fun ds ρ2 => P (.tup ds) ρ2) : wpx E (mTup g ρ) P := wp_bind w
theorem w_lst (w : wpx E (g ρ) fun ds ρ2 => P (.lst ds) ρ2) : wpx E (mLst g ρ) P := wp_bind w
theorem w_and (w : wpx E (f ρ) fun d ρ1 => ∃ b, d = .bl b ∧ if b = true then wpx E (h ρ1) P else P (.bl false) ρ1) : wpx E (mAndV f h ρ) P := wp_bind (wp_imp w fun d ρ1 ⟨b, e, w1⟩ => by subst e; cases b with | true => exact w1 | false => exact w1)
theorem w_or (w : wpx E (f ρ) fun d ρ1 => ∃ b, d = .bl b ∧ if b = true then P (.bl true) ρ1 else wpx E (h ρ1) P) : wpx E (mOrV f h ρ) P := wp_bind (wp_imp w fun d ρ1 ⟨b, e, w1⟩ => by subst e; cases b with | true => exact w1 | false => exact w1)
theorem w_notV (w : wpx E (f ρ) fun d ρ1 => ∃ b, d = .bl b ∧ P (.bl (!b)) ρ1) : wpx E (mNotV f ρ) P := wp_bind (wp_imp w fun d ρ1 ⟨b, e, w1⟩ => by subst e; exact w1)
theorem w_ite (w : wpx E (c ρ) fun b ρ1 => if b = true then wpx E (f ρ1) P else wpx E (h ρ1) P) : wpx E (mIf c f h ρ) P := wp_bind (wp_imp w fun b ρ1 w1 => by cases b with | true => exact w1 | false => exact w1)
theorem w_test (w : wpx E (f ρ) fun d ρ1 => ∃ b, d = .bl b ∧ PB b ρ1) : wpx E (mTest f ρ) PB := wp_bind (wp_imp w fun d ρ1 ⟨b, e, w1⟩ => by subst e; exact w1)
theorem w_not (w : wpx E (c ρ) fun b ρ1 => PB (!b) ρ1) : wpx E (mNot c ρ) PB := wp_bind w
theorem w_tand (w : wpx E (c ρ) fun b ρ1 => if b = true then wpx E (c2 ρ1) PB else PB false ρ1) : wpx E (mAnd c c2 ρ) PB := wp_bind (wp_imp w fun b ρ1 w1 => by cases b with | true => exact w1 | false => exact w1)
theorem w_tor (w : wpx E (c ρ) fun b ρ1 => if b = true then PB true ρ1 else wpx E (c2 ρ1) PB) : wpx E (mOr c c2 ρ) PB := wp_bind (wp_imp w fun b ρ1 w1 => by cases b with | true => exact w1 | false => exact w1)
theorem w_chain (w : wpx E (f ρ) fun x ρ1 => wpx E (h ρ1) fun y ρ2 => ∃ b, op x y = some (.bl b) ∧ if b = true then wpx E (k ρ2) fun z ρ3 => wo (op' y z) ρ3 P else P (.bl false) ρ2) : wpx E (mChain op op' f h k ρ) P :=
  wp_bind (wp_imp w fun x ρ1 w1 => wp_bind (wp_imp w1 fun y ρ2 ⟨b, e, w2⟩ => by
    rw [e]
    cases b with
    | true => exact wp_bind (wp_imp w2 fun z ρ3 w3 => wo_ofO w3)
    | false => exact w2))
theorem w_call0 (w : wpx E (g ρ) fun ds ρ1 => wfx (fun e _ => E e ρ1) (F ds) fun d _ => P d ρ1) : wpx E (mCall0 F g ρ) P := wp_bind (wp_imp w fun ds ρ1 w1 => by
  cases q : F ds <;> rw [q] at w1 <;> exact w1)
theorem w_call1 {p : Nat} (w : wpx E (g ρ) fun ds ρ1 => ∃ c0, ρ1.getD i none = some c0 ∧ wfx (fun e outs => ∃ c1, outs = [c1] ∧ E e (ρ1.set i (some c1))) (F (ds.set p c0)) fun d outs => ∃ c1, outs = [c1] ∧ P d (ρ1.set i (some c1))) : wpx E (mCall1 F p i g ρ) P := wp_bind (wp_imp w fun ds ρ1 ⟨c0, e0, w1⟩ => by
  rw [e0]; dsimp only
  cases q : F (ds.set p c0) <;> rw [q] at w1
  · obtain ⟨c1, rfl, w2⟩ := w1; exact w2
  · obtain ⟨c1, rfl, w2⟩ := w1; exact w2
  · exact w1)
theorem w_lstM {step : List D → List D → Option (D × List D)} (w : ∃ ds0, lstO (ρ.getD i none) = some ds0 ∧ wpx E (g ρ) fun es ρ1 => ∃ ds, lstO (ρ1.getD i none) = some ds ∧ ∃ z, step ds es = some z ∧ P z.1 (ρ1.set i (some (.lst z.2)))) : wpx E (mLstM i step g ρ) P := by
  obtain ⟨ds0, e0, w⟩ := w
  unfold mLstM
  rw [e0]
  exact wp_bind (wp_imp w fun es ρ1 ⟨ds, e1, z, e2, w1⟩ => by rw [e1]; dsimp only; rw [e2]; exact w1)
theorem w_strM {o : Str → List D → Option D} (w : wpx E (f ρ) fun d ρ1 => ∃ s, d = .str s ∧ wpx E (g ρ1) fun ds ρ2 => wo (o s ds) ρ2 P) : wpx E (mStrM o f g ρ) P := wp_bind (wp_imp w fun d ρ1 ⟨s, e, w1⟩ => by subst e; exact wp_bind (wp_imp w1 fun ds ρ2 w2 => wo_ofO w2))
theorem w_slice {l u : Env → R (Option Int)} (w : wpx E (f ρ) fun d ρ1 => ∃ s, d = .str s ∧ wpx E (l ρ1) fun lo ρ2 => wpx E (u ρ2) fun hi ρ3 => s.length ≤ sizeLine ∧ P (.str (cutS s lo hi)) ρ3) : wpx E (mSlice f l u ρ) P := wp_bind (wp_imp w fun d ρ1 ⟨s, e, w1⟩ => by
  subst e
  exact wp_bind (wp_imp w1 fun lo ρ2 w2 => wp_bind (wp_imp w2 fun hi ρ3 ⟨h, w3⟩ => wo_ofO (by unfold ifO; rw [if_pos h]; exact w3))))
theorem w_oN {PO : Option Int → Env → Prop} (w : PO none ρ) : wpx E (mONone ρ) PO := w
theorem w_oS {PO : Option Int → Env → Prop} (w : wpx E (f ρ) fun d ρ1 => ∃ q, d = .int q ∧ PO (some q) ρ1) : wpx E (mOSome f ρ) PO := wp_bind (wp_imp w fun d ρ1 ⟨q, e, w1⟩ => by subst e; exact w1)
def wsq (E : Ex → Env → Prop) (gs : Env → R Fl) (PS : Fl → Env → Prop) : Fl → Env → Prop
  | .nx, ρ => wpx E (gs ρ) PS
  | o, ρ => PS o ρ
theorem q_nx (w : wpx E (gs ρ) PS) : wsq E gs PS .nx ρ := w
theorem q_rt (w : PS (.rt d) ρ) : wsq E gs PS (.rt d) ρ := w
theorem q_bk (w : PS .bk ρ) : wsq E gs PS .bk ρ := w
theorem q_ct (w : PS .ct ρ) : wsq E gs PS .ct ρ := w
def wfe (io : List Nat) (PF : D → List D → Prop) : Fl → Env → Prop
  | .rt d, ρ => PF d (outsOf io ρ)
  | .nx, ρ => PF .non (outsOf io ρ)
  | _, _ => False
theorem e_rt {io : List Nat} {PF : D → List D → Prop} (w : PF d (outsOf io ρ)) : wfe io PF (.rt d) ρ := w
theorem e_nx {io : List Nat} {PF : D → List D → Prop} (w : PF .non (outsOf io ρ)) : wfe io PF .nx ρ := w
theorem i_t {A B : Prop} (w : A) : if true = true then A else B := w
theorem i_f {A B : Prop} (w : B) : if false = true then A else B := w
theorem i_nt {A B : Prop} (w : B) : if (!true) = true then A else B := w
theorem i_nf {A B : Prop} (w : A) : if (!false) = true then A else B := w
theorem w_seq (w : wpx E (fs ρ) (wsq E gs PS)) : wpx E (mSeq fs gs ρ) PS := by
  unfold mSeq
  cases q : fs ρ with
  | ok fl ρ1 => rw [q] at w; cases fl <;> exact w
  | exn e ρ1 => rw [q] at w; exact w
  | bad => rw [q] at w; exact w.elim
theorem w_nx (w : PS .nx ρ) : wpx E (mNx ρ) PS := w
theorem w_if (w : wpx E (c ρ) fun b ρ1 => if b = true then wpx E (fs ρ1) PS else wpx E (gs ρ1) PS) : wpx E (mIfS c fs gs ρ) PS := wp_bind (wp_imp w fun b ρ1 w1 => by cases b with | true => exact w1 | false => exact w1)
theorem w_ret (w : wpx E (f ρ) fun d ρ1 => PS (.rt d) ρ1) : wpx E (mRet f ρ) PS := wp_bind w
theorem w_drop (w : wpx E (f ρ) fun d ρ1 => PS .nx ρ1) : wpx E (mDrop f ρ) PS := wp_bind w
theorem w_set (w : wpx E (f ρ) fun d ρ1 => decide (i < ρ1.length) = true ∧ PS .nx (ρ1.set i (some d))) : wpx E (mSet i f ρ) PS := wp_bind (wp_imp w fun d ρ1 ⟨e, w1⟩ => by rw [if_pos (of_decide_eq_true e)]; exact w1)
theorem w_setO (w : wpx E (f ρ) fun d ρ1 => decide (i < ρ1.length) = true ∧ isObj d = true ∧ PS .nx (ρ1.set i (some d))) : wpx E (mSetO i f ρ) PS := wp_bind (wp_imp w fun d ρ1 ⟨e, e2, w1⟩ => by rw [if_pos ⟨of_decide_eq_true e, e2⟩]; exact w1)
theorem w_asg (w : wpx E (f ρ) fun d ρ1 => ∃ ρ2, gt d ρ1 = some ρ2 ∧ PS .nx ρ2) : wpx E (mAsg f gt ρ) PS := wp_bind (wp_imp w fun d ρ1 ⟨ρ2, e, w1⟩ => by rw [e]; exact w1)
theorem w_gIx {v : D} {Q : Env → Prop} (w : ∃ ds0, lstO (ρ.getD i none) = some ds0 ∧ wp (h ρ) fun kd ρ1 => ∃ q ds n, kd = .int q ∧ lstO (ρ1.getD i none) = some ds ∧ ixN ds.length q = some n ∧ Q (ρ1.set i (some (.lst (ds.set n v))))) : ∃ ρ2, gIx i h v ρ = some ρ2 ∧ Q ρ2 := by
  obtain ⟨ds0, e0, w⟩ := w
  obtain ⟨kd, ρ1, e1, q, ds, n, rfl, e2, e3, w1⟩ := wp_of w
  exact ⟨_, ev_gIx e0 e1 e2 e3, w1⟩
theorem w_fn {EF : Ex → List D → Prop} {io : List Nat} {ds : List D} {PF : D → List D → Prop} (w : wpx (fun e ρ => EF e (outsOf io ρ)) (body (env0 n ds)) (wfe io PF)) : wfx EF (fnSem n io body ds) PF := by
  unfold fnSem
  cases q : body (env0 n ds) with
  | ok fl ρ1 => rw [q] at w; cases fl <;> first | exact w | exact w.elim
  | exn e ρ1 => rw [q] at w; exact w
  | bad => rw [q] at w; exact w.elim
theorem w_for {it : Env → R (List D)} (w : wpx E (it ρ) fun ds ρ1 => wpx E (forL (gBody gt body) ds ρ1) PS) : wpx E (mFor it gt body ρ) PS := wp_bind w
/-- a loop: each turn goes on, or ends it -/
theorem forL_run {step : D → Env → R Fl} {ds : List D} (Inv : Nat → Env → Prop) (hs : ∀ i d ρ, ds[i]? = some d → Inv i ρ → wpx E (step d ρ) fun fl ρ' => ((fl = .nx ∨ fl = .ct) ∧ Inv (i + 1) ρ') ∨ (fl = .bk ∧ PS .nx ρ') ∨ ∃ d, fl = .rt d ∧ PS (.rt d) ρ') (h0 : Inv 0 ρ) (hd : ∀ ρ, Inv ds.length ρ → PS .nx ρ) : wpx E (forL step ds ρ) PS := by
  have key : ∀ (es : List D) (m : Nat) (ρ : Env), es = ds.drop m → m ≤ ds.length → Inv m ρ → wpx E (forL step es ρ) PS := by
    intro es
    induction es with
    | nil =>
      intro m ρ e hm hi
      have : ds.length ≤ m := by
        have := congrArg List.length e
        rw [List.length_drop] at this
        simp at this; omega
      have hm' : m = ds.length := by omega
      exact hd ρ (hm' ▸ hi)
    | cons d es ih =>
      intro m ρ e hm hi
      have hdm : ds[m]? = some d := by
        have := congrArg (fun l => l[0]?) e
        simp only [List.getElem?_drop] at this
        simpa using this.symm
      have hes : es = ds.drop (m + 1) := by
        have := congrArg List.tail e
        simpa [List.tail_drop] using this
      have hml : m + 1 ≤ ds.length := (List.getElem?_eq_some_iff.mp hdm).1
      have w := hs m d ρ hdm hi
      unfold forL
      cases q : step d ρ with
      | bad => rw [q] at w; exact w.elim
      | exn e1 ρ' => rw [q] at w; exact w
      | ok fl ρ' =>
        rw [q] at w
        rcases w with ⟨rfl | rfl, h⟩ | ⟨rfl, h⟩ | ⟨q, rfl, h⟩
        · exact ih (m + 1) ρ' hes hml h
        · exact ih (m + 1) ρ' hes hml h
        · exact h
        · exact h
  exact key ds 0 ρ (by simp) (Nat.zero_le _) h0
theorem w_run {ds : List D} (Inv : Nat → Env → Prop) (h0 : Inv 0 ρ) (hs : ∀ i d ρ, ds[i]? = some d → Inv i ρ → ∃ ρ1, gt d ρ = some ρ1 ∧ wpx E (body ρ1) fun fl ρ2 => ((fl = .nx ∨ fl = .ct) ∧ Inv (i + 1) ρ2) ∨ (fl = .bk ∧ PS .nx ρ2) ∨ ∃ d, fl = .rt d ∧ PS (.rt d) ρ2) (hd : ∀ ρ, Inv ds.length ρ → PS .nx ρ) : wpx E (forL (gBody gt body) ds ρ) PS :=
  forL_run Inv (fun i d ρ hd hi => by
    obtain ⟨ρ1, e1, w⟩ := hs i d ρ hd hi
    unfold gBody
    rw [e1]
    exact w) h0 hd
theorem w_loop {ds : List D} (Inv : Nat → Env → Prop) (h0 : Inv 0 ρ) (hs : ∀ i d ρ, ds[i]? = some d → Inv i ρ → ∃ ρ1, gt d ρ = some ρ1 ∧ wpx E (body ρ1) fun fl ρ2 => (fl = .nx ∨ fl = .ct) ∧ Inv (i + 1) ρ2) (hd : ∀ ρ, Inv ds.length ρ → PS .nx ρ) : wpx E (forL (gBody gt body) ds ρ) PS :=
  w_run Inv h0 (fun i d ρ hd hi => by
    obtain ⟨ρ1, e1, w⟩ := hs i d ρ hd hi
    exact ⟨ρ1, e1, wp_imp w fun _ _ h => .inl h⟩) hd
theorem w_lc {fi : Env → R (List D)} {tst : Env → R Bool} {vs : List Nat} (w : wpx E (fi ρ) fun ds ρ1 => ds.length < sizeLine ∧ ∃ Inv : Nat → Env → List D → Prop, Inv 0 (wipeE ρ1 vs) [] ∧
    (∀ i d ρ acc, ds[i]? = some d → Inv i ρ acc → acc.length ≤ i ∧ ∃ ρa, gt d ρ = some ρa ∧ wp (tst ρa) fun b ρb => if b = true then wp (f ρb) fun y ρc => Inv (i + 1) (wipeE ρc vs) (acc ++ [y]) else Inv (i + 1) (wipeE ρb vs) acc) ∧
    ∀ ρ2 acc, Inv ds.length ρ2 acc → P (.lst acc) (restE ρ1 ρ2 vs)) : wpx E (mLc fi gt tst f vs ρ) P := wp_bind (wp_imp w fun ds ρ1 ⟨hz, Iv, h0, hs, hd⟩ => by
  obtain ⟨acc, ρ2, e, hi⟩ := compL_inv (gt := gt) (tst := tst) (f := f) (vs := vs) Iv (fun i d ρ acc hd' hi => by
    obtain ⟨hl, ρa, e1, w⟩ := hs i d ρ acc hd' hi
    obtain ⟨b, ρb, e2, w2⟩ := wp_of w
    refine ⟨hl, ρa, ρb, b, e1, e2, fun hb => ?_, fun hb => ?_⟩
    · subst hb
      rw [if_pos rfl] at w2
      obtain ⟨y, ρc, e3, w3⟩ := wp_of w2
      exact ⟨y, ρc, e3, w3⟩
    · subst hb
      rw [if_neg Bool.false_ne_true] at w2
      exact w2) hz h0
  rw [e]
  exact hd ρ2 acc hi)
theorem w_yes (w : PB true ρ) : wpx E (mYes ρ) PB := w
theorem o_some {o : Option D} (e : o = some d) (w : P d ρ) : wo o ρ P := by rw [e]; exact w
theorem o_add {a b : Int} (w : P (.int (a + b)) ρ) : wo (addD (.int a) (.int b)) ρ P := w
theorem o_sub {a b : Int} (w : P (.int (a - b)) ρ) : wo (subD (.int a) (.int b)) ρ P := w
theorem o_cat {a b : Str} (hl : a.length + b.length ≤ sizeLine) (w : P (.str (a ++ b)) ρ) : wo (addD (.str a) (.str b)) ρ P := o_some (show (if _ then _ else none) = _ from if_pos hl) w
theorem o_mulR {a b : Int} (hb : -(2 ^ 64) < b ∧ b < 2 ^ 64) (w : P (.int (a * b)) ρ) : wo (mulD (.int a) (.int b)) ρ P := o_some (show (if _ then _ else none) = _ from if_pos (.inl hb)) w
theorem o_mulL {a b : Int} (hb : -(2 ^ 64) < a ∧ a < 2 ^ 64) (w : P (.int (a * b)) ρ) : wo (mulD (.int a) (.int b)) ρ P := o_some (show (if _ then _ else none) = _ from if_pos (.inr (.inl hb))) w
theorem o_mod {a b : Int} (hb : 0 < b) (w : P (.int (a % b)) ρ) : wo (modD (.int a) (.int b)) ρ P := o_some (show (if _ then _ else none) = _ from if_pos hb) w
theorem o_div {a b : Int} (hb : 0 < b) (hl : b.natAbs.log2 < 9000) (w : P (.int (a / b)) ρ) : wo (fdivD (.int a) (.int b)) ρ P := o_some (show (if _ then _ else none) = _ from if_pos ⟨hb, hl⟩) w
theorem o_pow {a b : Int} (hb : 0 ≤ b ∧ b ≤ 1000000 ∧ a.natAbs < 2 ^ 64) (w : P (.int (a ^ b.toNat)) ρ) : wo (powD (.int a) (.int b)) ρ P := o_some (show (if _ then _ else none) = _ from if_pos hb) w
theorem o_lt {a b : Int} (w : P (.bl (decide (a < b))) ρ) : wo (ltD (.int a) (.int b)) ρ P := w
theorem o_le {a b : Int} (w : P (.bl (decide (a ≤ b))) ρ) : wo (leD (.int a) (.int b)) ρ P := w
theorem o_gt {a b : Int} (w : P (.bl (decide (b < a))) ρ) : wo (gtD (.int a) (.int b)) ρ P := w
theorem o_ge {a b : Int} (w : P (.bl (decide (b ≤ a))) ρ) : wo (geD (.int a) (.int b)) ρ P := w
theorem o_int {a : Int} (w : P (.int a) ρ) : wo (oInt [.int a]) ρ P := w
theorem o_abs {a : Int} (w : P (.int (if a < 0 then -a else a)) ρ) : wo (oAbs [.int a]) ρ P := w
theorem o_lenS {s : Str} (hl : s.length ≤ sizeLine) (w : P (.int s.length) ρ) : wo (oLen [.str s]) ρ P := o_some (show (if _ then _ else none) = _ from if_pos hl) w
theorem o_lenL {ds : List D} (w : P (.int ds.length) ρ) : wo (oLen [.lst ds]) ρ P := w
theorem o_lenT {ds : List D} (w : P (.int ds.length) ρ) : wo (oLen [.tup ds]) ρ P := w
theorem o_ixL {ds : List D} {q : Int} (e : atI ds q = some d) (w : P d ρ) : wo (ixD (.lst ds) (.int q)) ρ P := o_some (show atI ds q = _ from e) w
theorem o_ixT {ds : List D} {q : Int} (e : atI ds q = some d) (w : P d ρ) : wo (ixD (.tup ds) (.int q)) ρ P := o_some (show atI ds q = _ from e) w
end
end Ip
namespace Ip
open PySem L2
section
variable {i j n : Nat} {ρ : Env} {d x y z : D}
theorem x_bl {b : Bool} {Q : Bool → Prop} (w : Q b) : ∃ c, D.bl b = .bl c ∧ Q c := ⟨b, rfl, w⟩
theorem x_int {q : Int} {Q : Int → Prop} (w : Q q) : ∃ c, D.int q = .int c ∧ Q c := ⟨q, rfl, w⟩
theorem x_str {s : Str} {Q : Str → Prop} (w : Q s) : ∃ c, D.str s = .str c ∧ Q c := ⟨s, rfl, w⟩
theorem x_sqL {ds : List D} {Q : List D → Prop} (w : Q ds) : ∃ es, asSeq (.lst ds) = some es ∧ Q es := ⟨ds, rfl, w⟩
theorem x_sqT {ds : List D} {Q : List D → Prop} (w : Q ds) : ∃ es, asSeq (.tup ds) = some es ∧ Q es := ⟨ds, rfl, w⟩
theorem x_env {Q : D → Prop} (e : ρ.getD i none = some d) (w : Q d) : ∃ x, ρ.getD i none = some x ∧ Q x := ⟨d, e, w⟩
theorem x_lst {ds : List D} {Q : List D → Prop} (e : ρ.getD i none = some (.lst ds)) (w : Q ds) : ∃ es, lstO (ρ.getD i none) = some es ∧ Q es := ⟨ds, by rw [e]; rfl, w⟩
theorem x_out {Q : D → Prop} (w : Q d) : ∃ c1, [d] = [c1] ∧ Q c1 := ⟨d, rfl, w⟩
theorem x_some {α : Type} {a : α} {Q : α → Prop} (w : Q a) : ∃ c1, some a = some c1 ∧ Q c1 := ⟨a, rfl, w⟩
theorem x_slot {Q : Prop} (e : i < ρ.length) (w : Q) : decide (i < ρ.length) = true ∧ Q := ⟨decide_eq_true e, w⟩
theorem x_objL {ds : List D} {Q : Prop} (w : Q) : isObj (.lst ds) = true ∧ Q := ⟨rfl, w⟩
theorem x_objI {c : Str} {ns : List Str} {ds : List D} {Q : Prop} (w : Q) : isObj (.obj c ns ds) = true ∧ Q := ⟨rfl, w⟩
theorem x_nm {d : D} {Q : Env → Prop} (e : i < ρ.length) (w : Q (ρ.set i (some d))) : ∃ ρ1, gNm i d ρ = some ρ1 ∧ Q ρ1 := ⟨_, if_pos e, w⟩
theorem fl_nx {Q : Prop} (w : Q) : (Fl.nx = .nx ∨ Fl.nx = .ct) ∧ Q := ⟨.inl rfl, w⟩
theorem fl_ct {Q : Prop} (w : Q) : (Fl.ct = .nx ∨ Fl.ct = .ct) ∧ Q := ⟨.inr rfl, w⟩
/-- a call of a def whose answer is known by a lemma -/
theorem f_use {EF : Ex → List D → Prop} {F : FSem} {ds : List D} {P Q : D → List D → Prop} (h : wf (F ds) P) (w : ∀ d outs, P d outs → Q d outs) : wfx EF (F ds) Q := wf_impE h w fun _ _ h => h.elim
theorem x_r1 {Q : List D → Prop} {q : Int} (hb : -(2 ^ 62) ≤ q ∧ q < 2 ^ 62) (w : Q ((List.range q.toNat).map fun i => .int (i : Nat))) : ∃ es, asR1 [.int q] = some es ∧ Q es := ⟨_, if_pos hb, w⟩
theorem x_r2 {Q : List D → Prop} {a b : Int} (hb : -(2 ^ 62) ≤ a ∧ a < 2 ^ 62 ∧ -(2 ^ 62) ≤ b ∧ b < 2 ^ 62) (w : Q ((List.range (b - a).toNat).map fun i => .int (a + (i : Nat)))) : ∃ es, asR2 [.int a, .int b] = some es ∧ Q es := ⟨_, if_pos hb, w⟩
end
end Ip
namespace Ip
open PySem L2
section
variable {X : Cx} {C : Ac} {W : WX} {Γ Γ1 : List Nat} {fr : Bool} {a : Expr} {f : Env → R D} {pos p2 p3 : Pos}
/-- xs[:n] of a list, n written in the text: a new list -/
def mCutL (n : Nat) (f : Env → R D) : Env → R D := fun ρ => (f ρ).bind fun d ρ1 => match d with
  | .lst ds => .ok (.lst (ds.take n)) ρ1
  | _ => .bad
theorem cutV_first (xs : List V) (n : Nat) : cutV xs none (some (n : Int)) = xs.take n := by
  unfold cutV
  rw [HT.sIx_none, HT.sIx_nat, List.drop_zero, Nat.sub_zero]
  rcases Nat.le_total n xs.length with h | h
  · rw [Nat.min_eq_left h]
  · rw [Nat.min_eq_right h, List.take_length, List.take_of_length_le h]
theorem se_cutL {n j : Nat} (ha : SE X C W Γ a Γ1 fr f) : SE X C W Γ (.Subscript a (.Slice none (some (.Constant (.int (n : Int)) j p3)) none p2) pos) Γ1 true (mCutL n f) := ⟨peImp (pe_slice sl_list ha.pe po_none (po_some pe_int)) fun σ H Q ⟨hid, ρ, S, p⟩ => by
  refine ⟨hid, ρ, S, ?_⟩
  unfold mCutL at p
  cases q : f ρ with
  | bad => rw [q] at p; exact p
  | exn e ρ' => rw [q] at p; exact p
  | ok d ρ1 =>
    rw [q] at p
    dsimp only [R.bind] at p
    intro v H1 tm S1 k1 va t1
    cases d with
    | lst ds =>
      have s := va.shal0
      cases s with
      | lst h r =>
        refine ⟨_, rfl, _, _, rfl, h, fun q hq => ?_⟩
        rw [cutV_first]
        exact fin_fr p S.sub S1 k1 q _ hq (.lst upd_same (r.take n))
    | _ => exact (show False from p).elim⟩
end
end Ip
namespace Ip
open PySem L2
section
variable {E : Ex → Env → Prop} {i j n : Nat} {ρ : Env} {d x y z : D} {f h : Env → R D} {g : Env → R (List D)} {gt : D → Env → Option Env} {fs body : Env → R Fl} {PS : Fl → Env → Prop} {P : D → Env → Prop} {PL : List D → Env → Prop} {F : FSem}
theorem w_cutL {n : Nat} (w : wpx E (f ρ) fun d ρ1 => ∃ ds, d = .lst ds ∧ P (.lst (ds.take n)) ρ1) : wpx E (mCutL n f ρ) P := wp_bind (wp_imp w fun d ρ1 ⟨ds, e, w1⟩ => by subst e; exact w1)
theorem w_enumS (w : wpx E (f ρ) fun d ρ1 => ∃ s : Str, d = .str s ∧ PL (enumL 0 (s.cps.toList.map chD)) ρ1) : wpx E (mEnumS f ρ) PL := wp_bind (wp_imp w fun d ρ1 ⟨s, e, w1⟩ => by subst e; exact w1)
theorem w_fld {cs : List Str} {nm : Str} (w : wpx E (f ρ) fun o ρ1 => ∃ c, clsOf o = some c ∧ cs.contains c = true ∧ wo (fldD nm o) ρ1 P) : wpx E (mFld cs nm f ρ) P := wp_bind (wp_imp w fun d ρ1 ⟨c, e1, e2, w1⟩ => by rw [e1]; dsimp only; rw [if_pos e2]; exact wo_ofO w1)
theorem w_fldS {cn fn : Str} (w : wpx E (h ρ) fun d ρ1 => ∃ c ns ds, ρ1.getD i none = some (.obj c ns ds) ∧ (c = cn ∧ ns.length < 1000) ∧ PS .nx (ρ1.set i (some (.obj c (putD fn d ns ds).1 (putD fn d ns ds).2)))) : wpx E (mFldS i cn fn h ρ) PS := wp_bind (wp_imp w fun d ρ1 ⟨c, ns, ds, e1, e2, w1⟩ => by rw [e1]; dsimp only; rw [if_pos e2]; exact w1)
theorem w_make {c : Str} (w : wpx E (g ρ) fun ds ρ1 => wfx (fun e _ => E e ρ1) (F (.obj c [] [] :: ds)) fun d outs => ∃ o, d = .non ∧ outs = [o] ∧ P o ρ1) : wpx E (mMake c F g ρ) P := wp_bind (wp_imp w fun ds ρ1 w1 => by
  cases q : F (.obj c [] [] :: ds) <;> rw [q] at w1
  · obtain ⟨o, rfl, rfl, w2⟩ := w1; exact w2
  · exact w1
  · exact w1)
theorem w_meth {cs : List Str} {m : Str} (w : wpx E (f ρ) fun o ρ1 => ∃ c, clsOf o = some c ∧ (cs.contains c = true ∧ hasNo m o = true) ∧ wpx E (g ρ1) fun ds ρ2 => wfx (fun e _ => E e ρ2) (F (o :: ds)) fun d _ => P d ρ2) : wpx E (mMeth cs m F f g ρ) P := wp_bind (wp_imp w fun o ρ1 ⟨c, e1, e2, w1⟩ => by
  rw [e1]; dsimp only; rw [if_pos e2]
  exact wp_bind (wp_imp w1 fun ds ρ2 w2 => by
    cases q : F (o :: ds) <;> rw [q] at w2 <;> exact w2))
theorem w_raise {c : Str} (w : E ⟨c, none⟩ ρ) : wpx E (mRaise c ρ) PS := w
theorem w_try {cn : Str} {i j : Nat} {d : D} (w : wpx (fun e ρ1 => (e.cls = cn ∧ e.fld.isNone = true ∧ j < ρ1.length ∧ i < ρ1.length) ∧ PS .nx ((ρ1.set j (some d)).set i none)) (fs ρ) fun fl ρ1 => fl = .nx ∧ PS .nx ρ1) : wpx E (mTry cn i j d fs ρ) PS := by
  unfold mTry
  cases q : fs ρ with
  | ok fl ρ1 =>
    rw [q] at w
    obtain ⟨rfl, w1⟩ := w
    exact w1
  | exn e ρ1 =>
    rw [q] at w
    dsimp only
    rw [if_pos w.1]
    exact w.2
  | bad => rw [q] at w; exact w.elim
theorem x_isL {ds : List D} {Q : List D → Prop} (w : Q ds) : ∃ es, D.lst ds = .lst es ∧ Q es := ⟨ds, rfl, w⟩
theorem x_objD {a b : List D} {Q : Prop} (w : Q) : isObj (.dic a b) = true ∧ Q := ⟨rfl, w⟩
theorem x_cls {c c' : Str} {ns : List Str} {ds : List D} {Q : Str → Prop} (w : Q c) : ∃ q, clsOf (.obj c ns ds) = some q ∧ Q q := ⟨c, rfl, w⟩
theorem x_tp {n : Nat} {gs : List D → Env → Option Env} {ρ2 : Env} {Q : Env → Prop} (e : gTp n gs d ρ = some ρ2) (w : Q ρ2) : ∃ r, gTp n gs d ρ = some r ∧ Q r := ⟨_, e, w⟩
def S (l : List Nat) : Str := ⟨l.toArray⟩
theorem S_len (l : List Nat) : (S l).length = l.length := by show l.toArray.size = _; simp
theorem S_list (l : List Nat) : (S l).cps.toList = l := by show l.toArray.toList = l; simp
theorem S_inj {a b : List Nat} (h : S a = S b) : a = b := by rw [← S_list a, h, S_list]
theorem x_sqS {l : List Nat} {Q : List D → Prop} (w : Q (l.map chD)) : ∃ es, asSeq (.str (S l)) = some es ∧ Q es := ⟨_, rfl, by rw [S_list]; exact w⟩
theorem at_in {α : Type} {l : List α} {r : Int} (h0 : 0 ≤ r) (hr : r < l.length) : ∃ c, atI l r = some c ∧ l[r.toNat]? = some c := by
  have hl : r.toNat < l.length := by omega
  refine ⟨l[r.toNat], ?_, List.getElem?_eq_getElem hl⟩
  unfold atI
  rw [show ixN l.length r = some r.toNat by unfold ixN; rw [if_pos h0, if_pos hr]]
  exact List.getElem?_eq_getElem hl
theorem log_small {j : Int} (h0 : 0 ≤ j) (h : j < 10 ^ 60) : j.natAbs.log2 < 9000 := by
  have : j.natAbs < 2 ^ 9000 := Nat.lt_of_lt_of_le (by omega : j.natAbs < 10 ^ 60) (Nat.le_trans (Nat.le_of_lt (by decide : 10 ^ 60 < 2 ^ 256)) (Nat.pow_le_pow_right (by decide) (by decide)))
  by_cases hz : j.natAbs = 0
  · rw [hz]; decide
  · exact (Nat.log2_lt hz).mpr this
theorem o_isiB {T : String} {b : Bool} (e : isiD T d = some (.bl b)) (w : P (.bl b) ρ) : wo (isiD T d) ρ P := o_some e w
theorem o_lenS' {l : List Nat} (hl : l.length ≤ 2 ^ 24) (w : P (.int l.length) ρ) : wo (oLen [.str (S l)]) ρ P := o_lenS (by rw [S_len]; exact hl) (by rw [S_len]; exact w)
theorem o_inS {c : Nat} {l : List Nat} (w : P (.bl (decide (c ∈ l))) ρ) : wo (inD (chD c) (.str (S l))) ρ P := o_some (d := .bl (decide (c ∈ l))) (by
  show some (D.bl (decide (c ∈ (S l).cps.toList))) = _
  simp only [S_list]) w
theorem o_notInS {c : Nat} {l : List Nat} (w : P (.bl (!decide (c ∈ l))) ρ) : wo (notInD (chD c) (.str (S l))) ρ P := o_some (d := .bl (!decide (c ∈ l))) (by
  show some (D.bl (!decide (c ∈ (S l).cps.toList))) = _
  simp only [S_list]) w
theorem o_sumI {ns : List Int} (w : P (.int ns.sum) ρ) : wo (oSum [.lst (ns.map D.int)]) ρ P := o_some (d := .int ns.sum) (by
  have h : ∀ ns : List Int, dInts (ns.map D.int) = some ns := by
    intro ns
    induction ns with
    | nil => rfl
    | cons a l ih => show (dInts (D.int a :: l.map D.int)) = _; simp [dInts, ih]
  show (dInts _).map _ = _
  rw [h]; rfl) w
theorem o_listL {ds : List D} (w : P (.lst ds) ρ) : wo (oList [.lst ds]) ρ P := w
theorem o_listT {ds : List D} (w : P (.lst ds) ρ) : wo (oList [.tup ds]) ρ P := w
theorem o_tupL {ds : List D} (w : P (.tup ds) ρ) : wo (oTup [.lst ds]) ρ P := w
theorem o_tupT {ds : List D} (w : P (.tup ds) ρ) : wo (oTup [.tup ds]) ρ P := w
theorem o_eqI {a b : Int} (w : P (.bl (decide (a = b))) ρ) : wo (eqD (.int a) (.int b)) ρ P := o_some (d := .bl (decide (a = b))) (by
  show ifO _ (.bl (a == b)) = _
  unfold ifO
  rw [if_pos ⟨rfl, rfl⟩]
  by_cases h : a = b <;> simp [h]) w
theorem o_neI {a b : Int} (w : P (.bl (!decide (a = b))) ρ) : wo (neD (.int a) (.int b)) ρ P := o_some (d := .bl (!decide (a = b))) (by
  show ifO _ (.bl (!(a == b))) = _
  unfold ifO
  rw [if_pos ⟨rfl, rfl⟩]
  by_cases h : a = b <;> simp [h]) w
theorem o_isN (w : P (.bl (isN d)) ρ) : wo (isNoneD d .non) ρ P := w
theorem o_notN (w : P (.bl (!isN d)) ρ) : wo (isNotNoneD d .non) ρ P := w
theorem keyB_ch (a b : Nat) : keyB (chD a) (chD b) = decide (a = b) := by
  have h : keyB (kD (.inr (S [a]))) (kD (.inr (S [b]))) = decide ((Sum.inr (S [a]) : Key) = .inr (S [b])) := keyB_kD _ _
  refine h.trans ?_
  by_cases e : a = b
  · subst e; simp
  · have : ¬ (Sum.inr (S [a]) : Key) = .inr (S [b]) := by
      intro h
      have h1 : S [a] = S [b] := Sum.inr.inj h
      exact e (List.cons.inj (S_inj h1)).1
    simp [e, this]
theorem dFind_map (g : Nat → D) (c : Nat) : ∀ ls : List Nat, c ∈ ls → dFind (ls.map chD) (ls.map g) (chD c) = some (g c)
  | [], h => by simp at h
  | a :: ls, h => by
    show (if keyB (chD a) (chD c) then _ else _) = _
    rw [keyB_ch]
    by_cases e : a = c
    · subst e; simp
    · rw [if_neg (by simpa using e)]
      exact dFind_map g c ls (by simpa [Ne.symm e] using h)
theorem dFind_no (g : Nat → D) (c : Nat) : ∀ ls : List Nat, c ∉ ls → dFind (ls.map chD) (ls.map g) (chD c) = none
  | [], h => rfl
  | a :: ls, h => by
    show (if keyB (chD a) (chD c) then _ else _) = _
    rw [keyB_ch]
    have e : ¬ a = c := fun e => h (by simp [e])
    rw [if_neg (by simpa using e)]
    exact dFind_no g c ls (fun q => h (by simp [q]))
theorem keys_all (ls : List Nat) : (ls.map chD).all isKD = true := by
  rw [List.all_map, List.all_eq_true]
  intro a _
  rfl
/-- a dict over letters, its values by a function -/
abbrev chDic (ls : List Nat) (g : Nat → D) : D := .dic (ls.map chD) (ls.map g)
theorem o_lenCh {ls : List Nat} {g : Nat → D} (w : P (.int ls.length) ρ) : wo (oLenD [chDic ls g]) ρ P := o_some (d := .int ls.length) (by
  show (if _ ∧ _ then _ else none) = _
  rw [if_pos ⟨keys_all ls, by simp⟩]
  simp) w
theorem o_notInCh {ls : List Nat} {g : Nat → D} {c : Nat} (w : P (.bl (!decide (c ∈ ls))) ρ) : wo (notInKD (chD c) (chDic ls g)) ρ P := o_some (d := .bl (!decide (c ∈ ls))) (by
  have e : inDD (chD c) (chDic ls g) = some (dFind (ls.map chD) (ls.map g) (chD c)).isSome := by
    show (if (ls.map chD).all isKD then _ else _) = _
    rw [if_pos (keys_all ls)]; rfl
  unfold notInKD
  rw [e]
  by_cases h : c ∈ ls
  · rw [dFind_map g c ls h]; simp [h]
  · rw [dFind_no g c ls h]; simp [h]) w
theorem o_listCh {ls : List Nat} {g : Nat → D} (w : P (.lst (ls.map chD)) ρ) : wo (oListDK [chDic ls g]) ρ P := o_some (d := .lst (ls.map chD)) (by
  show (if _ then _ else none) = _
  rw [if_pos (keys_all ls)]) w
theorem take_at {α : Type} {l : List α} {i : Nat} {c : α} (h : l[i]? = some c) : l.take (i + 1) = l.take i ++ [c] := by rw [List.take_succ, h]; rfl
theorem map_at {α β : Type} {f : α → β} {l : List α} {i : Nat} {d : β} (h : (l.map f)[i]? = some d) : ∃ c, l[i]? = some c ∧ d = f c := by
  rw [List.getElem?_map, Option.map_eq_some_iff] at h
  obtain ⟨c, h1, h2⟩ := h
  exact ⟨c, h1, h2.symm⟩
end
end Ip
namespace Ip
open PySem L2
section
variable {E : Ex → Env → Prop} {i j n : Nat} {ρ : Env} {d x y z : D} {f h : Env → R D} {g : Env → R (List D)} {P : D → Env → Prop} {F : FSem}
theorem w_fld1 {c nm : Str} (w : wpx E (f ρ) fun o ρ1 => ∃ d, (clsOf o = some c ∧ fldD nm o = some d) ∧ P d ρ1) : wpx E (mFld [c] nm f ρ) P := w_fld (wp_imp w fun o ρ1 ⟨d, ⟨e1, e2⟩, w1⟩ => ⟨c, e1, by simp, o_some e2 w1⟩)
theorem x_fld {c nm : Str} {o : D} {Q : D → Prop} (e1 : clsOf o = some c) (e2 : fldD nm o = some d) (w : Q d) : ∃ d, (clsOf o = some c ∧ fldD nm o = some d) ∧ Q d := ⟨d, ⟨e1, e2⟩, w⟩
theorem x_meth {cs : List Str} {c m : Str} {o : D} {Q : Prop} (e1 : clsOf o = some c) (e2 : cs.contains c = true ∧ hasNo m o = true) (w : Q) : ∃ c, clsOf o = some c ∧ (cs.contains c = true ∧ hasNo m o = true) ∧ Q := ⟨c, e1, e2, w⟩
theorem o_rev {ds : List D} (w : P (.lst ds.reverse) ρ) : wo (revD (.lst ds)) ρ P := w
/-- a comprehension over known things -/
theorem w_mapT {α : Type} {gt : D → Env → Option Env} {fi : Env → R (List D)} {vs : List Nat} {l : List α} (A B : α → D) (w : wpx E (fi ρ) fun ds ρ1 => ds = l.map A ∧ l.length < sizeLine ∧ (∀ a, a ∈ l → ∃ ρa, gt (A a) (wipeE ρ1 vs) = some ρa ∧ wp (f ρa) fun y ρb => y = B a ∧ wipeE ρb vs = wipeE ρ1 vs) ∧ P (.lst (l.map B)) (restE ρ1 (wipeE ρ1 vs) vs)) : wpx E (mLc fi gt mYes f vs ρ) P := w_lc (wp_imp w fun ds ρ1 ⟨e, hz, hs, hp⟩ => by
  subst e
  refine ⟨by rw [List.length_map]; exact hz, fun i ρ acc => ρ = wipeE ρ1 vs ∧ acc = (l.take i).map B, ⟨rfl, rfl⟩, fun i d ρ acc hd hi => ?_, fun ρ2 acc hi => ?_⟩
  · obtain ⟨rfl, rfl⟩ := hi
    obtain ⟨a, ha, rfl⟩ := map_at hd
    obtain ⟨ρa, e1, w⟩ := hs a (List.mem_of_getElem? ha)
    refine ⟨by rw [List.length_map, List.length_take]; omega, ρa, e1, w_yes ?_⟩
    rw [if_pos rfl]
    refine wp_imp w fun y ρb ⟨e2, e3⟩ => ⟨e3, ?_⟩
    rw [take_at ha, List.map_append, e2]
    rfl
  · obtain ⟨rfl, rfl⟩ := hi
    rw [List.length_map, List.take_length]
    exact hp)
end
end Ip
namespace Ip
open PySem L2
section
variable {E : Ex → Env → Prop} {i j n : Nat} {ρ : Env} {d x y z : D} {f h : Env → R D} {g : Env → R (List D)} {P : D → Env → Prop} {F : FSem}
theorem o_max {a b : Int} (w : P (.int (if b > a then b else a)) ρ) : wo (oMax [.int a, .int b]) ρ P := w
theorem o_min {a b : Int} (w : P (.int (if b < a then b else a)) ρ) : wo (oMin [.int a, .int b]) ρ P := w
end
end Ip
set_option maxHeartbeats 1000000
namespace Ip
open PySem L2
section
variable {E : Ex → Env → Prop} {ρ : Env} {f h : Env → R D} {c : Env → R Bool} {body fs : Env → R Fl} {P : D → Env → Prop} {PS : Fl → Env → Prop}
theorem w_while {n : Env → Nat} (w : wpx E (whileL c body (n ρ) ρ) PS) : wpx E (mWhile n c body ρ) PS := w
/-- what follows a turn -/
def wtn (E : Ex → Env → Prop) (c : Env → R Bool) (body : Env → R Fl) (k : Nat) (PS : Fl → Env → Prop) : Fl → Env → Prop
  | .nx, ρ => wpx E (whileL c body k ρ) PS
  | .ct, ρ => wpx E (whileL c body k ρ) PS
  | .bk, ρ => PS .nx ρ
  | .rt d, ρ => PS (.rt d) ρ
theorem t_nx {k : Nat} (w : wpx E (whileL c body k ρ) PS) : wtn E c body k PS .nx ρ := w
theorem t_ct {k : Nat} (w : wpx E (whileL c body k ρ) PS) : wtn E c body k PS .ct ρ := w
theorem t_bk {k : Nat} (w : PS .nx ρ) : wtn E c body k PS .bk ρ := w
theorem t_rt {k : Nat} {d : D} (w : PS (.rt d) ρ) : wtn E c body k PS (.rt d) ρ := w
theorem w_tryC {l : List (Str × Option Nat × Nat × D)} (w : wpx (fun e ρ1 => wpx E (pickC l e ρ1) PS) (fs ρ) fun fl ρ1 => fl = .nx ∧ PS .nx ρ1) : wpx E (mTryC l fs ρ) PS := by
  unfold mTryC
  cases q : fs ρ with
  | bad => rw [q] at w; exact w
  | exn e ρ1 => rw [q] at w; exact w
  | ok fl ρ1 =>
    rw [q] at w
    obtain ⟨rfl, w⟩ := w
    exact w
theorem w_joinRev (w : wpx E (f ρ) fun d ρ1 => ∃ s, d = .str s ∧ wpx E (h ρ1) fun x ρ2 => wo (oJoinRev s x) ρ2 P) : wpx E (mJoinRev f h ρ) P := wp_bind (wp_imp w fun d ρ1 ⟨s, e, w1⟩ => by subst e; exact wp_bind (wp_imp w1 fun ds ρ2 w2 => wo_ofO w2))
theorem o_inI {i : Int} {ns : List Int} (w : P (.bl (ns.contains i)) ρ) : wo (inID (.int i) (.lst (ns.map D.int))) ρ P := o_some (d := .bl (ns.contains i)) (by
  show (dInts (ns.map D.int)).map _ = _
  rw [ints_map]; rfl) w
end
theorem toPys_ints : ∀ xs : List Int, toPys (xs.map D.int) = some (xs.map PyData.int)
  | [] => rfl
  | x :: xs => by
    rw [List.map_cons, List.map_cons]
    unfold toPys
    rw [toPys_ints xs]
    rfl
theorem alike_ints : ∀ xs ys : List Int, PySem.W.alikeAll (xs.map PyData.int) (ys.map PyData.int) = true
  | [], _ => by unfold PySem.W.alikeAll; rfl
  | _ :: _, [] => by unfold PySem.W.alikeAll; rfl
  | x :: xs, y :: ys => by
    rw [List.map_cons, List.map_cons]
    unfold PySem.W.alikeAll
    rw [alike_ints xs ys]
    simp [PySem.W.alike]
theorem depth_ints : ∀ xs : List Int, PyData.depthAll (xs.map PyData.int) ≤ 1
  | [] => by decide
  | x :: xs => by
    rw [List.map_cons]
    unfold PyData.depthAll
    have := depth_ints xs
    have e : (PyData.int x).depth ≤ 1 := by unfold PyData.depth; omega
    omega
end Ip
set_option maxHeartbeats 2000000
namespace Ip
open PySem L2 PySem.Spec PyProof.Rows
end Ip
set_option maxHeartbeats 2000000
namespace Ip
open PySem L2 PySem.Spec PyProof.Rows
end Ip
set_option maxHeartbeats 2000000
namespace Ip
open PySem L2 PySem.Spec PyProof.Rows
section
variable {X : Cx} {scope : Scope} {ce : PySem.Env} {fp : List Addr} {s3 : Shared} {H3 : Hp} {tg : Expr} {ifs : List Expr} {J : It} {it : Addr} {tn : Nat → Heap → Prop} {vs : List Nat} {σ : L2.St} {W : Nat → Nat → Hp → Prop}
/-- what a turn's adding is: K is wished behind it -/
abbrev Add := (Shared → Prop) → Shared → Prop
end
end Ip
set_option maxHeartbeats 2000000
namespace Ip
open PySem L2 PySem.Spec PyProof.Rows
end Ip
set_option maxHeartbeats 2000000
namespace Ip
open PySem L2 PySem.Spec PyProof.Rows
end Ip
set_option maxHeartbeats 2000000
namespace Ip
open PySem L2 PySem.Spec PyProof.Rows
end Ip
set_option maxHeartbeats 2000000
namespace Ip
open PySem L2 PySem.Spec PyProof.Rows
section
variable {X : Cx} {g : Gx}
def andD : D → D → Option D
  | .int i, .int j => some (.int (Builtin.bitAnd i j))
  | _, _ => none
def shrD : D → D → Option D
  | .int i, .int j => ifO (0 ≤ j) (.int (i / 2 ^ j.toNat))
  | _, _ => none
/-- < of alike data, not too deep -/
def ltXD (a b : D) : Option D := match toPy a, toPy b with
  | some .none, _ => none
  | some p, some q => ifO (PySem.W.alike p q = true ∧ p.depth ≤ 60) (.bl (PySem.W.dataLt p q))
  | _, _ => none
end
end Ip
set_option maxHeartbeats 2000000
namespace Ip
open PySem L2 PySem.Spec PyProof.Rows PySem.W
def zipD : List D → List D → List D
  | x :: xs, y :: ys => .tup [x, y] :: zipD xs ys
  | _, _ => []
end Ip
set_option maxHeartbeats 2000000
namespace Ip
open PySem L2 PySem.Spec PyProof.Rows
def mZip (h : Env → R (List D)) : Env → R (List D) := fun ρ => (h ρ).bind fun ds ρ1 => match ds with
  | [.lst xs, .tup ys] => .ok (zipD xs ys) ρ1
  | _ => .bad
def mZipT (h : Env → R (List D)) : Env → R (List D) := fun ρ => (h ρ).bind fun ds ρ1 => match ds with
  | [.tup xs, .tup ys] => .ok (zipD xs ys) ρ1
  | _ => .bad
end Ip
set_option maxHeartbeats 2000000
namespace Ip
open PySem L2 PySem.Spec PyProof.Rows
def oSumT : List D → Option D
  | [.tup ds] => (dInts ds).map fun ns => .int ns.sum
  | _ => none
end Ip
set_option maxHeartbeats 4000000
namespace Ip
open PySem L2 PySem.Spec PyProof.Rows PySem.W NdefX
abbrev supB (t fn v : Str) (j : Nat) (p0 p1 p2 p3 p4 p5 p6 p7 p8 p9 : Pos) : List Stmt :=
  [.Expr (.Call (.Attribute (.Call (.Name "super" p0) [] [] p1) "__init__" p2) [.Constant (.str t) j p3] [] p4) p5,
   .Assign [.Attribute (.Name "self" p6) fn p7] (.Name v p8) p9]
/-- what the written part says of the class -/
structure SupC (K : Frag) (C : Addr) (fn : Str) : Prop where
  T : OexC K C
  no : findIn K (.ref C) fn = some none
  su : ks_superIn K C C "__init__" = some (some (.builtin "ValueError.__init__"))
  ve : subIn K (.ref C) (.type "ValueError") = some true
  me : mroIn K C (.ref C) = some true
  op : nsIn K cStatics "thirdparty.any" = some none
  sg : nsIn K mainGlobals "super" = some none
/-- .. of its __init__ -/
structure SupF (fl : Str) (K : Frag) (C fI : Addr) (fn v : Str) (fd : FuncData) : Prop where
  ini : findIn K (.ref C) "__init__" = some (some (.ref fI))
  ty : typeIn K (.ref fI) = some (.type "function")
  ex : ∃ (oc : Value) (od : Option Addr) (osl : Array (Option Value)) (name qual : Str) (params : Arguments) (scope : Scope) (t : Str) (j : Nat) (p0 p1 p2 p3 p4 p5 p6 p7 p8 p9 : Pos) (dV kV doc pm : Value) (an : Option Addr) (cda cc : Addr) (ct : Value),
    fd = fnX name qual params (supB t fn v j p0 p1 p2 p3 p4 p5 p6 p7 p8 p9) scope [("__class__", cc)] dV kV doc pm an (.ref cda) ct ∧ K.lookup fI = some ⟨oc, od, .func fd, osl⟩ ∧ codeIn K (.ref cda) qual = true ∧
    NScope ["self", v, "__class__"] ["self", v] ["__class__"] scope ∧ scope.names.lookup ("super" : Str) = some .globalImplicit ∧ (∃ ar, (params.posonlyargs ++ params.args).head? = some ar ∧ ar.arg = "self") ∧
    (∃ cl cld csl, K.lookup cc = some ⟨cl, cld, .cell (some (.ref C)), csl⟩) ∧ (∃ ccl cdd vs ccs tf, K.lookup cda = some ⟨ccl, cdd, .fields vs, ccs⟩ ∧ vs[2]? = some (.str fl tf)) ∧ (p2.endLine == p4.line) = true ∧ (v == ("__debug__" : Str)) = false ∧ (v == ("__classdict__" : Str)) = false
def spSup (K : Frag) (C : Addr) (fn : Str) : Sp := fun vs H Q _ => ∃ (a : Addr) (y : V), vs = [V.ref a, y] ∧ H a = some (exo a C none) ∧ ∀ dx, H dx = none → dx ≠ a → Q .non (upd (upd H dx (exd dx [(fn, y)])) a (exo a C (some dx)))
theorem sup_eval {o : Expr} {env : PySem.Env} {t : Str} {j : Nat} {p2 p3 p4 : Pos} (hl : (p2.endLine == p4.line) = true) : eval (.Call (.Attribute o "__init__" p2) [.Constant (.str t) j p3] [] p4) env = (do
    let ov ← attributeBase o "__init__" env (eval o env)
    standAt p2.atName
    let (f, first) ← holding [ov] (getMethod ov "__init__" (do return (← importBound o env).getD true))
    callWith p4 f first (backTo p4 (starEach [.Constant (.str t) j p3] env)) []) := by
  rw [arm_eval_Call]
  have pos : methodCallPos true o env p2 p4 = pure p4 := by unfold methodCallPos; simp [hl]
  unfold methodCall
  rw [show methodCallForm ([Expr.Constant (.str t) j p3].length + ([] : List Keyword).length) (backTo p4 (starEach [.Constant (.str t) j p3] env)) (backToKw p4 (keywordEach [] env)) = true from rfl, pos]
  rfl
/-- the bound ValueError.__init__ called: the exception's arguments are laid anew, no more -/
theorem mw_call {prog : Program} {w : World} {A : Around} {E : Value → Shared → Prop} {hp : Heap} {gg : Array GenState} {dw : Drawn} {tk : Nat} {oss : OsState} {nm qn : Str} {C Na x u t0 : Addr} {bs bm : List Value} {hd : Bool} {sn : List Str} {sub : List Value} {ab : Bool} {col : Option Bool} {dd : Option Addr} {k0 k1 k2 k3 k5 : Option Value} {more : List Value} {Q : Value → Shared → Prop}
    (cl : hp.get? C = some (excClassObj nm qn C Na bs bm hd sn sub ab col dd k0 k1 k2 k3 k5 "ValueError.__new__")) (ox : hp.get? x = some ({ cls := .ref C, dict := none, data := .fields #[.ref t0, .none, .none, .none, .bool false, .none] } : Obj)) (ou : hp.get? u = some (kxs_mw "ValueError.__init__" x)) (few : more.length ≤ sizeLine)
    (fin : ∀ h' t1, (∀ b o, b ≠ x → hp.get? b = some o → h'.get? b = some o) → h'.get? x = some ({ cls := .ref C, dict := none, data := .fields #[.ref t1, .none, .none, .none, .bool false, .none] } : Obj) → Q .none ⟨h', gg, dw, tk, oss⟩) :
    wpAny (model prog w) A (call (.ref u) more) Q E ⟨hp, gg, dw, tk, oss⟩ := by
  refine wpAny_call (codeAny_of_tree ?_)
  show wpAny _ A.in1 (callAny (.ref u) ⟨more, []⟩) _ _ _
  simp only [callAny]
  refine wpAny_bind (wpAny_load ou ?_)
  rw [show (kxs_mw "ValueError.__init__" x).cls = Value.type "method-wrapper" from rfl]
  have isM : (Value.type "method-wrapper" == Value.type "method" || Value.type "method-wrapper" == Value.type "builtin_function_or_method" || Value.type "method-wrapper" == Value.type "method-wrapper") = true := by decide
  refine KFB.if_so isM ?_
  refine wpAny_bind (check_bound_init F.excBase_ValueError.toExcCallFacts cl ox rfl ?_)
  refine wpAny_bind (wpAny_pure (wpAny_pure ⟨plainId_quiet F.excBase_ValueError.init.plain _, codeAny_builtin F.excBase_ValueError.initEntry ?_⟩))
  exact exc_init_tree (cls := .ref C) (t0 := t0) (dv := none) (c2 := .none) (c3 := .none) (b4 := .bool false) ox few fun h' k e' _ => fin h' _ k e'
section
variable {P : Program} {w : World} {K : Frag} {mg : Str → Option Value} {base : Heap} {CX : CXT} {k : Nat} {C fI : Addr} {fn v : Str} {fd : FuncData}
theorem fn_sup (T : SupC K C fn) (F : SupF P.main.file K C fI fn v fd) (htop : (P.main.scope.names.lookup ("super" : Str)).isSome = false) : FnOk P w K mg base CX (k + 1) fI fd ["self", v] (spSup K C fn) := by
  obtain ⟨oc, od, osl, name, qual, params, scope, t, j, p0, p1, p2, p3, p4, p5, p6, p7, p8, p9, dV, kV, doc, pm, an, cda, cc, ct, rfl, lk, hcd, S, hsu, ⟨ar, har, ears⟩, ⟨cl, cld, csl, hcell⟩, ⟨ccl, cdd, vv, ccs, tf, hcode, hvs⟩, hline, hv1, hv2⟩ := F.ex
  refine ⟨fun vs H Q E h => by obtain ⟨a, y, rfl, _⟩ := h; rfl, fun A outer s H args us vs Q E hr e0 hb r hsp => ?_⟩
  obtain ⟨a, y, rfl, ea, q⟩ := hsp
  obtain ⟨u1, u2, rfl, e1, e2⟩ := vals2 r
  obtain rfl : u1 = Value.ref a := e1
  obtain ⟨hp, g, dr, tk, os⟩ := s
  have KX : K.In hp := e0.mod.kin.keeps fun b o e => (e0.bs b o e).1
  have lim : hp.NoLimit := e0.mod.nolimit.keeps fun b o e => (e0.bs b o e).1
  have cb : base.get? cc = some ⟨cl, cld, .cell (some (.ref C)), csl⟩ := e0.mod.kin _ _ hcell
  have CA : CellsAt [("__class__", cc)] ["__class__"] [some (.ref C)] hp H := by
    refine ⟨rfl, fun y c e => ?_, fun x y c e1 e2 => ?_, fun i y e => ?_⟩
    · have z := PySem.mem_of_lookup e
      rw [List.mem_singleton] at z
      cases z
      exact ⟨(e0.bs _ _ cb).2, _, _, (e0.bs _ _ cb).1, rfl⟩
    · have z1 := PySem.mem_of_lookup e1
      have z2 := PySem.mem_of_lookup e2
      rw [List.mem_singleton] at z1 z2
      cases z1; cases z2; rfl
    · match i, e with
      | 0, e =>
        cases e
        exact ⟨cc, rfl, fun v e => by cases e; exact ⟨.ref C, rfl, _, (e0.bs _ _ cb).1, rfl⟩⟩
  refine ks_codeAny_call_defAt (fd := fnX name qual params (supB t fn v j p0 p1 p2 p3 p4 p5 p6 p7 p8 p9) scope [("__class__", cc)] dV kV doc pm an (.ref cda) ct) hr.depth (KX _ _ lk) rfl lim (codeRec_of KX hcd) rfl hb S.nocell (fun ⟨n, _⟩ hy => S.par n (List.of_mem_zip hy).1) (fun h₁ hns kp => ?_) S.co S.gen S.kind
  have I := inv_startN (F := ⟨name, qual, params, supB t fn v j p0 p1 p2 p3 p4 p5 p6 p7 p8 p9, scope, [("__class__", cc)], cda⟩) (f := fI) (CX := CX) (E := E) (tk := tk + ([("self" : Str), v].zip [Value.ref a, u2]).length) S hr.hd e0 (vs := [V.ref a, y]) (ps := [("self" : Str), v]) (us := [Value.ref a, u2]) rfl r CA hns kp
  have KX1 : K.In h₁ := KX.keeps kp
  obtain ⟨t1, hoe⟩ := exo_at I.hok ea
  obtain ⟨nm, qn, Na, bs, bm, sn, sub, ab, col, dd, k0, k1, k2, k3, k5, hC, hbm⟩ := T.T.cls
  have hcl : clsIn K C = some { name := nm, bases := bs, mro := .ref C :: bm, ns := Na, qualname := qn, hasDict := true, slotNames := sn, subclasses := sub, abstract := ab, collection := col, hasDel := false } := by unfold clsIn; rw [hC] <;> rfl
  have IA : InstAt h₁ a { cls := .ref C, dict := none, data := .fields #[.ref t1, .none, .none, .none, .bool false, .none] } C none := ⟨hoe, rfl, rfl, trivial⟩
  obtain ⟨mb, hb1, hb2⟩ := e0.mod.blt
  have bk : ∀ b o, base.get? b = some o → h₁.get? b = some o := fun b o e => kp b o (e0.bs b o e).1
  have hself : (fun y => ([("self" : Str), v].zip [Value.ref a, u2]).reverse.lookup y) ar.arg = some (Value.ref a) := by
    rw [ears]
    exact zip_look (ps := [("self" : Str), v]) (us := [Value.ref a, u2]) (i := 0) (by have z := S.nd; exact (List.nodup_append (l₁ := [("self" : Str), v]) (l₂ := ["__class__"])).mp z |>.1) rfl rfl
  refine ks_wpAt_execs_cons (ks_wpAt_Expr_any (ks_wpAt_MethodCall (ks_wpAt_super_base (fd := fnX name qual params (supB t fn v j p0 p1 p2 p3 p4 p5 p6 p7 p8 p9) scope [("__class__", cc)] dV kV doc pm an (.ref cda) ct) hsu (S.frk _ (by simp)) (by decide) rfl (KX1 _ _ lk) rfl har rfl (KX1 _ _ hcode) rfl hvs (by simp) htop ?_) (sup_eval hline)) (by have z := S.kind; unfold interactive; simp_all [callEnv, newEnv]))
  refine ks_loadName_global S.kind hsu (Calls.loadGlobal_builtin (e0.mod.glob.keeps bk) (mg_none_of KX1 (e0.mod.glob.keeps bk) T.sg) (hb1.keeps bk) ((hb2 _ (by decide)).trans (by decide +kernel)) ⟨rfl, ?_⟩)
  refine wpAny_loadName_free S.kind (S.frk _ (by simp)) rfl ⟨_, KX1 _ _ hcell, rfl⟩ ?_
  refine wpAny_loadName_local S.kind (by rw [show ar.arg = "self" from ears]; exact S.par _ (by simp)) hns hself ?_
  have hCl : h₁.get? C = some (excClassObj nm qn C Na bs bm true sn sub ab col dd k0 k1 k2 k3 k5 "ValueError.__new__") := KX1 _ _ hC
  refine ks_wpAny_isType_cls hCl rfl ⟨rfl, ?_⟩
  refine ks_wpAny_call_super hCl rfl hoe rfl (fun c z => by cases z) (looks_mroIn KX1 T.me) (fun h2 hso kp2 => ?_)
  have KX2 : K.In h2 := KX1.keeps kp2
  have hsu2 := T.su
  unfold ks_superIn at hsu2
  rw [hcl] at hsu2
  refine kxs_getMethod kxs_ValueError hso (looks_opaque KX2 T.op) (l₀ := .ref C :: bm) (fun A Q E s k q => wpAny_bind ((looks_clsIn KX2 hcl) A _ E s k (wpAny_pure q))) rfl KX2 hsu2 ((show InstAt h2 a _ C none from ⟨kp2 _ _ hoe, rfl, rfl, trivial⟩).type.andThen (looks_subIn KX2 T.ve)) (ks_ne KX1 IA hcl) (by decide) ?_
  have lt12 : h₁.objs.size ≤ h2.objs.size := Nat.le_of_lt (Heap.lt_size hso)
  have kp3 : ∀ b o, h₁.get? b = some o → (h2.push (kxs_mw "ValueError.__init__" a)).get? b = some o := fun b o e => Heap.get?_push_of_some _ (kp2 b o e)
  have qn : H h2.objs.size = none := I.hok.fresh lt12
  have fq : FpOk (ncx CX P w K mg base [("self" : Str), v, "__class__"] ⟨name, qual, params, supB t fn v j p0 p1 p2 p3 p4 p5 p6 p7 p8 p9, scope, [("__class__", cc)], cda⟩ fI A outer ⟨hp, g, dr, tk, os⟩ H E) [] H h2.objs.size := I.fpOk lt12 qn
  have I2 := I.kept (h' := h2.push (kxs_mw "ValueError.__init__" a)) (t' := tk + ([("self" : Str), v].zip [Value.ref a, u2]).length + 1) kp3
  have hmw : (h2.push (kxs_mw "ValueError.__init__" a)).get? h2.objs.size = some (kxs_mw "ValueError.__init__" a) := Heap.get?_push_size _ rfl
  have I3 := I2.pinned (fp := [h2.objs.size]) (fun b hb => by rw [List.mem_singleton.mp hb]; exact fq) (fun b hb => by rw [List.mem_singleton.mp hb]; exact ⟨_, hmw, fun z e => by cases e⟩)
  have pin := mem_pinsAt (fp := [h2.objs.size]) (List.mem_singleton.mpr rfl) hmw
  refine kxs_callWith (i := "ValueError.__init__") (x := a) rfl (Calls.evalArgs_plain (x := eval (.Constant (.str t) j p3) _) (rest := []) (thn ((pa_cons (pe_str (x := t) (j := j) (pos := p3)) pa_nil).run p4 _ _ _ H (fun vs H1 => vs = [.str t] ∧ H1 = H) I3 ⟨rfl, rfl⟩) fun us s4 ⟨vs, H4, I4, r4, e4, e5⟩ => ?_))
  subst e4 e5
  obtain ⟨hm4, _⟩ := I4.pin _ (List.mem_append_right _ (List.mem_append_right _ pin))
  obtain ⟨t4, ho4⟩ := exo_at I4.hok ea
  have u4 : us.length ≤ sizeLine := by rw [← Paired.length r4]; show 1 ≤ sizeLine; decide
  obtain ⟨h4, g4, d4, tk4, os4⟩ := s4
  refine ⟨hm4, mw_call (I4.kIn _ _ hC) ho4 hm4 u4 fun h5 t5 kp5 ho5 => ?_⟩
  have J := I4.write (t' := tk4) (x := a) (e := a) (o := exo a C none) (by rw [ea]; exact True.intro) (.inl rfl) kp5 ⟨_, ho5⟩ (exo_ok ho5)
  have eH : upd H4 a (exo a C none) = H4 := by
    funext b
    by_cases hb : b = a
    · rw [hb, upd_same, ea]
    · rw [upd_ne hb]
  rw [eH] at J
  refine wpAt_of_wpAny ?_
  have body := (pss_one (ps_ost (pos := p9) (p' := p7) (f := fn) (pe_var (i := 0) (x := "self") (pos := p6) (X := ncx CX P w K mg base [("self" : Str), v, "__class__"] ⟨name, qual, params, supB t fn v j p0 p1 p2 p3 p4 p5 p6 p7 p8 p9, scope, [("__class__", cc)], cda⟩ fI A outer ⟨hp, g, dr, tk, os⟩ H4 E) rfl (.inl (S.par _ (by simp)))) (pe_var (i := 1) (x := v) (pos := p8) rfl (.inl (S.par _ (by simp))) hv1 hv2))).run _ _ _ _ { nx := fun _ H' => Q .non H', rt := Q } J ⟨y, rfl, _, rfl, a, C, rfl, T.T, T.no, .inl ⟨ea, fun dx n ne => q dx n ne⟩⟩
  refine wpAny_mono body (fun fl s' hs => ?_) fun e s' hs => hs
  cases fl with
  | next =>
    obtain ⟨σ', H', J', q'⟩ := hs
    exact ⟨V.non, H', J'.os, J'.bare, J'.base, J'.hok, rfl, q'⟩
  | ret u =>
    obtain ⟨v', σ', H', J', rv, q'⟩ := hs
    exact ⟨v', H', J'.os, J'.bare, J'.base, J'.hok, rv, q'⟩
  | brk =>
    obtain ⟨_, _, _, q'⟩ := hs
    exact False.elim q'
  | cont =>
    obtain ⟨_, _, _, q'⟩ := hs
    exact False.elim q'
end
end Ip
set_option maxHeartbeats 4000000
namespace Ip
open PySem L2 PySem.Spec PyProof.Rows PySem.W
structure ErF (P : Program) (w : World) (K : Frag) (mg : Str → Option Value) (base : Heap) (ct : Str → Option Addr) (c fn : Str) : Prop where
  ex : ∃ (Cc fI : Addr) (fd : FuncData) (v : Str), ct c = some Cc ∧ mg c = some (.ref Cc) ∧ SupC K Cc fn ∧ findIn K (.ref Cc) "__init__" = some (some (.ref fI)) ∧ typeIn K (.ref fI) = some (.type "function") ∧ Binds K fd ["self", v] [] ∧
    FnOk P w K mg base (fun _ _ _ _ _ _ => False) 1 fI fd ["self", v] (spSup K Cc fn)
def mRaise1 (c fn : Str) (f : Env → R D) : Env → R Fl := fun ρ => (f ρ).bind fun d ρ' => .exn ⟨c, some (fn, d)⟩ ρ'
inductive Sd where
  | c (d : D) | t (ds : List D) | f (fn : Str)
def clE : List (Nat × Sd) → Ex → Env → Option Env
  | [], _, ρ => some ρ
  | (j, .c d) :: r, e, ρ => if j < ρ.length then clE r e (ρ.set j (some d)) else none
  | (j, .t ds) :: r, e, ρ => if j < ρ.length then clE r e (ρ.set j (some (.tup ds))) else none
  | (j, .f fn) :: r, e, ρ => match e.fld with
    | some (g, d) => if g = fn ∧ j < ρ.length then clE r e (ρ.set j (some d)) else none
    | none => none
abbrev ClF := Str × Option Nat × List (Nat × Sd)
def pickF : List ClF → Ex → Env → R Fl
  | [], _, _ => .bad
  | (cn, i, l) :: r, e, ρ => if e.cls = cn then (match clE l e (clr i ρ) with
    | some ρ' => if ∀ k ∈ i, k < ρ.length then .ok .nx (clr i ρ') else .bad
    | none => .bad) else pickF r e ρ
def mTryF (l : List ClF) (f : Env → R Fl) : Env → R Fl := fun ρ => match f ρ with
  | .ok .nx ρ' => .ok .nx ρ'
  | .exn e ρ' => pickF l e ρ'
  | _ => .bad
structure TF where
  cn : Str
  i : Option Nat
  l : List (Nat × Sd)
  Cc : Addr
inductive TfOk (K : Frag) (ct : Str → Option Addr) (io : List Nat) : List TF → Prop
  | nil : TfOk K ct io []
  | cons {t : TF} {r : List TF} : ct t.cn = some t.Cc → exmOne K (.ref t.Cc) (.ref t.Cc) = some true → (∀ u ∈ r, exmOne K (.ref u.Cc) (.ref t.Cc) = some false) →
      (∀ q ∈ t.l, q.1 ∉ io) → (∀ k ∈ t.i, k ∉ io) → TfOk K ct io r → TfOk K ct io (t :: r)
theorem TfOk.ct {K : Frag} {ct : Str → Option Addr} {io : List Nat} {l : List TF} (h : TfOk K ct io l) : ∀ t ∈ l, ct t.cn = some t.Cc := by
  induction h with
  | nil => exact fun _ z => nomatch z
  | cons h1 _ _ _ _ _ ih =>
    intro u hu
    rcases List.mem_cons.mp hu with rfl | hu
    · exact h1
    · exact ih u hu
end Ip
set_option maxHeartbeats 4000000
namespace Ip
open PySem L2 PySem.Spec PyProof.Rows PySem.W NdefX
theorem supBody_ok {fn v : Str} {b : FuncBody} (h : supBodyB fn v b = true) : ∃ (t : Str) (j : Nat) (p0 p1 p2 p3 p4 p5 p6 p7 p8 p9 : Pos), b = .stmts (supB t fn v j p0 p1 p2 p3 p4 p5 p6 p7 p8 p9) ∧ (p2.endLine == p4.line) = true := by
  unfold supBodyB at h
  split at h
  · simp only [Bool.and_eq_true, decide_eq_true_eq] at h
    obtain ⟨rfl, rfl, rfl, rfl, rfl, h⟩ := h
    exact ⟨_, _, _, _, _, _, _, _, _, _, _, _, rfl, h⟩
  · cases h
theorem supPar_ok {v : Str} {b : Arguments} (h : supParB v b = true) : ∃ (n1 n2 : Option Expr) (p1 p2 : Pos), b = ⟨[], [⟨"self", n1, p1⟩, ⟨v, n2, p2⟩], none, [], [], none, []⟩ := by
  unfold supParB at h
  split at h
  · simp only [Bool.and_eq_true, decide_eq_true_eq] at h
    obtain ⟨rfl, rfl⟩ := h
    exact ⟨_, _, _, _, rfl⟩
  · cases h
theorem supClo_ok {K : Frag} {C : Addr} {l : List (Str × Addr)} (h : supCloB K C l = true) : ∃ cc : Addr, l = [(("__class__" : Str), cc)] ∧ ∃ cl cld csl, K.lookup cc = some ⟨cl, cld, .cell (some (.ref C)), csl⟩ := by
  unfold supCloB at h
  split at h
  · rename_i c1 cc
    simp only [Bool.and_eq_true, decide_eq_true_eq] at h
    obtain ⟨rfl, h⟩ := h
    split at h
    · rename_i e
      cases of_decide_eq_true h
      exact ⟨cc, rfl, _, _, _, e⟩
    · cases h
  · cases h
theorem supCode_ok {K : Frag} {fl q : Str} {v : Value} (h : supCodeB K fl q v = true) : ∃ cda, v = .ref cda ∧ codeIn K (.ref cda) q = true ∧ ∃ ccl cdd vs ccs tf, K.lookup cda = some ⟨ccl, cdd, .fields vs, ccs⟩ ∧ vs[2]? = some (.str fl tf) := by
  unfold supCodeB at h
  split at h
  · rename_i cda
    simp only [Bool.and_eq_true] at h
    obtain ⟨h1, h⟩ := h
    split at h
    · rename_i e
      split at h
      · rename_i e2
        cases of_decide_eq_true h
        exact ⟨cda, rfl, h1, _, _, _, _, _, e, e2⟩
      · cases h
    · cases h
  · cases h
theorem supCls_ok {K : Frag} {C : Addr} (h : supClsB K C = true) : ∃ nm q N bs bm sn sub ab col dd k0 k1 k2 k3 k5, K.lookup C = some (excClassObj nm q C N bs bm true sn sub ab col dd k0 k1 k2 k3 k5 "ValueError.__new__") ∧ PySem.HandSPX.refsVE bm = true := by
  unfold supClsB at h
  split at h
  · rename_i od cd sl e
    split at h
    · rename_i C' bm k0 k1 k2 k3 n k5 e1 e2
      simp only [Bool.and_eq_true, decide_eq_true_eq, Bool.not_eq_true'] at h
      obtain ⟨rfl, rfl, h3, h4, h5⟩ := h
      obtain ⟨nm, bs, mro, ns, qn, hd, sn, sub, ab, col, del⟩ := cd
      dsimp only at e1 h3 h4
      subst e1 h3 h4
      have es : sl = #[k0, k1, k2, k3, some (.builtin "ValueError.__new__"), k5] := by
        have := congrArg List.toArray e2
        simpa using this
      subst es
      exact ⟨_, _, _, _, _, _, _, _, _, _, _, _, _, _, _, e, h5⟩
    · cases h
  · cases h
abbrev BindV (v : Str) : Prop := ∀ (name qual : Str) (body : List Stmt) (scope : Scope) (clo : List (Str × Addr)) (doc pm : Value) (an : Option Addr) (cdv ct : Value) (n1 n2 : Option Expr) (q1 q2 : Pos) (a b : Value),
  bindArgs (fnX name qual ⟨[], [⟨"self", n1, q1⟩, ⟨v, n2, q2⟩], none, [], [], none, []⟩ body scope clo .none .none doc pm an cdv ct) ⟨[a, b], []⟩ = pure [(("self" : Str), a), (v, b)]
theorem supK_ok {K : Frag} {fl x fn v : Str} (h : supK fl x fn v K = true) (hv1 : (v == ("__debug__" : Str)) = false := by decide) (hv2 : (v == ("__classdict__" : Str)) = false := by decide) (hbv : BindV v := by unfold BindV; intros; rfl) :
    SupC K (He.ga K x) fn ∧ ∃ fd, SupF fl K (He.ga K x) (He.ma K (He.ga K x) "__init__") fn v fd ∧ Binds K fd [("self" : Str), v] [] := by
  unfold supK at h
  simp only [Bool.and_eq_true, decide_eq_true_eq] at h
  obtain ⟨h1, h2, h3, h4, h5, h6, h7, h8, h9, h10, h11, h12, h13, h14⟩ := h
  refine ⟨⟨⟨supCls_ok h1, h2, h3, h4, h5⟩, h6, h7, h8, h9, h10, h11⟩, ?_⟩
  split at h14
  · rename_i oc od fd osl lk
    simp only [Bool.and_eq_true, decide_eq_true_eq] at h14
    obtain ⟨g1, g2, g3, g4, g5, g6, gd, gk, g7, g8⟩ := h14
    obtain ⟨name, qual, params, body, scope, gl, clo, dV, kV, doc, pm, an, code, ct, bl⟩ := fd
    dsimp only at g1 g2 g3 g4 g5 g6 gd gk g7 g8
    obtain ⟨t, j, p0, p1, p2, p3, p4, p5, p6, p7, p8, p9, rfl, hl⟩ := supBody_ok g1
    obtain ⟨n1, n2, q1, q2, rfl⟩ := supPar_ok g2
    obtain ⟨cc, rfl, hc⟩ := supClo_ok g3
    obtain ⟨cda, rfl, hcd, hvs⟩ := supCode_ok g4
    subst g5 g6 gd gk
    refine ⟨_, ⟨h12, h13, oc, od, osl, name, qual, _, scope, t, j, p0, p1, p2, p3, p4, p5, p6, p7, p8, p9, .none, .none, doc, pm, an, cda, cc, ct, rfl, lk, hcd, nscope_by g7, g8, ⟨_, rfl, rfl⟩, hc, hvs, hl, hv1, hv2⟩, Binds.all fun us hl => ?_⟩
    match us, hl with
    | [u1, u2], _ => exact hbv _ _ _ _ _ _ _ _ _ _ _ _ _ _ u1 u2
  · cases h14
theorem erF_of {P : Program} {w : World} {K : Frag} {mg : Str → Option Value} {base : Heap} {x fn v : Str} (h : supK P.main.file x fn v K = true) (htop : (P.main.scope.names.lookup ("super" : Str)).isSome = false) (hg : mg x = some (.ref (He.ga K x)))
    (hv1 : (v == ("__debug__" : Str)) = false := by decide) (hv2 : (v == ("__classdict__" : Str)) = false := by decide) (hbv : BindV v := by unfold BindV; intros; rfl) : ErF P w K mg base (fun c => some (He.ga K c)) x fn := by
  obtain ⟨T, fd, F, hb⟩ := supK_ok h hv1 hv2 hbv
  exact ⟨_, _, fd, v, rfl, hg, T, F.ini, F.ty, hb, fn_sup (k := 0) T F htop⟩
/-- the class's error is read in a suite -/
theorem xfC_of {K : Frag} {x : Str} (h : excC K x = true) : XfC K (He.ga K x) := by
  have c := excC_ok h
  simp only [excC, Bool.and_eq_true, decide_eq_true_eq] at h
  obtain ⟨h1, h2, h3, h4, _⟩ := h
  exact ⟨h1, h2, h3, h4⟩
end Ip
set_option maxHeartbeats 2000000
namespace Ip
open PySem L2 PySem.Spec PyProof.Rows PySem.W
section
variable {X : Cx} {C : Ac} {W : WX} {Γ Γ0 Γ1 Γ2 Γ3 Γ' Γb : List Nat} {fr fr1 fr2 fr3 : Bool} {e a b c : Expr} {es : List Expr} {f h k : Env → R D} {p pos pos' apos cpos p2 np : Pos} {lo hi : Option Expr} {l u : Env → R (Option Int)} {fs : Env → R Fl} {st : Stmt} {sts : List Stmt}
/-- xs[l:u] of a list -/
def cutD (ds : List D) (lo hi : Option Int) : List D := (ds.drop (HT.sIx ds.length 0 lo)).take (HT.sIx ds.length ds.length hi - HT.sIx ds.length 0 lo)
theorem rvs_cut {g : Gx} {H : Hp} {ds : List D} {vs : List V} {lo hi : Option Int} (r : RVs g H ds vs) : RVs g H (cutD ds lo hi) (cutV vs lo hi) := by
  unfold cutD cutV
  rw [r.length]
  exact (r.drop _).take _
def mSliceL (f : Env → R D) (l u : Env → R (Option Int)) : Env → R D := fun ρ => (f ρ).bind fun d ρ1 => match d with
  | .lst ds => (l ρ1).bind fun lo ρ2 => (u ρ2).bind fun hi ρ3 => .ok (.lst (cutD ds lo hi)) ρ3
  | _ => .bad
theorem se_sliceL (ha : SE X C W Γ a Γ1 fr f) (hl : SO X C W Γ1 lo Γ2 l) (hu : SO X C W Γ2 hi Γ3 u) : SE X C W Γ (.Subscript a (.Slice lo hi none p2) pos) Γ3 true (mSliceL f l u) := ⟨peImp (pe_slice sl_list ha.pe hl.po hu.po) fun σ H Q ⟨hid, ρ, S, q⟩ => by
  refine ⟨hid, ρ, S, ?_⟩
  unfold mSliceL at q
  cases q1 : f ρ with
  | bad => rw [q1] at q; exact q
  | exn e ρ' => rw [q1] at q; exact q
  | ok d ρ1 =>
    rw [q1] at q
    dsimp only [R.bind] at q
    intro v H1 tm S1 k1 va t1
    cases d with
    | lst ds =>
      refine ⟨tm ++ hid, ρ1, S1, ?_⟩
      cases q2 : l ρ1 with
      | bad => simp only [q2] at q; exact q
      | exn e ρ' => simp only [q2] at q; exact q
      | ok o1 ρ2 =>
        simp only [q2] at q
        intro H2 S2 k2
        refine ⟨tm ++ hid, ρ2, S2, ?_⟩
        cases q3 : u ρ2 with
        | bad => simp only [q3] at q; exact q
        | exn e ρ' => simp only [q3] at q; exact q
        | ok o2 ρ3 =>
          simp only [q3] at q
          intro H3 S3 k3
          have k23 := k2.trans k3 fun a ha => ha
          have kk := ((Kept.of va).stp (tm' := tm) k23 fun a ha => ha).shal
          have k13 : Stp (Ms σ hid Γ) (Ms σ (tm ++ hid) Γ3) hid H H3 := k1.trans k23 fun a ha => List.mem_append_right _ ha
          cases kk with
          | lst hs r => exact ⟨_, _, rfl, hs, fun z hz => fin_fr q S.sub S3 k13 z _ hz (.lst upd_same (rvs_cut r))⟩
    | _ => exact (show False from q).elim⟩
end
section
variable {E : Ex → Env → Prop} {i j n : Nat} {ρ : Env} {d x y z : D} {f h k : Env → R D} {g : Env → R (List D)} {P : D → Env → Prop} {PS : Fl → Env → Prop}
theorem w_sliceL {l u : Env → R (Option Int)} (w : wpx E (f ρ) fun d ρ1 => ∃ ds, d = .lst ds ∧ wpx E (l ρ1) fun lo ρ2 => wpx E (u ρ2) fun hi ρ3 => P (.lst (cutD ds lo hi)) ρ3) : wpx E (mSliceL f l u ρ) P := wp_bind (wp_imp w fun d ρ1 ⟨s, e, w1⟩ => by
  subst e
  exact wp_bind (wp_imp w1 fun lo ρ2 w2 => wp_bind w2))
theorem w_raise1 {c fn : Str} (w : wpx E (f ρ) fun d ρ1 => E ⟨c, some (fn, d)⟩ ρ1) : wpx E (mRaise1 c fn f ρ) PS := wp_bind w
theorem w_tryF {l : List ClF} {fs : Env → R Fl} (w : wpx (fun e ρ1 => wpx E (pickF l e ρ1) PS) (fs ρ) fun fl ρ1 => fl = .nx ∧ PS .nx ρ1) : wpx E (mTryF l fs ρ) PS := by
  unfold mTryF
  cases q : fs ρ with
  | bad => rw [q] at w; exact w
  | exn e ρ1 => rw [q] at w; exact w
  | ok fl ρ1 =>
    rw [q] at w
    obtain ⟨rfl, w⟩ := w
    exact w
end
end Ip
namespace Ip
open PySem L2
end Ip
set_option maxHeartbeats 2000000
namespace Ip
open PySem L2
section
variable {E : Ex → Env → Prop} {i j n : Nat} {ρ : Env} {d x y z : D} {f h k fk : Env → R D} {g : Env → R (List D)} {P : D → Env → Prop} {PL : List D → Env → Prop} {PS : Fl → Env → Prop} {gt : D → Env → Option Env} {tst : Env → R Bool} {vs : List Nat}
theorem w_zip {l : Env → R (List D)} (w : wpx E (l ρ) fun ds ρ1 => ∃ xs ys, ds = [.lst xs, .tup ys] ∧ PL (zipD xs ys) ρ1) : wpx E (mZip l ρ) PL := wp_bind (wp_imp w fun ds ρ1 ⟨xs, ys, e, w1⟩ => by subst e; exact w1)
theorem w_zipT {l : Env → R (List D)} (w : wpx E (l ρ) fun ds ρ1 => ∃ xs ys, ds = [.tup xs, .tup ys] ∧ PL (zipD xs ys) ρ1) : wpx E (mZipT l ρ) PL := wp_bind (wp_imp w fun ds ρ1 ⟨xs, ys, e, w1⟩ => by subst e; exact w1)
theorem o_and {a b : Int} (w : P (.int (Builtin.bitAnd a b)) ρ) : wo (andD (.int a) (.int b)) ρ P := w
theorem o_shr {a : Int} (w : P (.int (a / 2)) ρ) : wo (shrD (.int a) (.int 1)) ρ P := o_some (d := .int (a / 2)) (show ifO _ _ = _ from by unfold ifO; rw [if_pos (by decide)]; rfl) w
theorem o_mulW {a b : Int} (h : a.natAbs.log2 + b.natAbs.log2 < 1000000) (w : P (.int (a * b)) ρ) : wo (mulD (.int a) (.int b)) ρ P := o_some (show (if _ then _ else none) = _ from if_pos (.inr (.inr h))) w
theorem o_sumT {ns : List Int} (w : P (.int ns.sum) ρ) : wo (oSumT [.tup (ns.map D.int)]) ρ P := o_some (d := .int ns.sum) (by show (dInts (ns.map D.int)).map _ = _; rw [ints_map]; rfl) w
theorem o_negI {a : Int} (w : P (.int (-a)) ρ) : wo (negD (.int a)) ρ P := w
theorem o_listDT {ks : List (List Key)} {ds : List D} (w : P (.lst (ks.map kT)) ρ) : wo (oListDT [.dit ks ds]) ρ P := w
end
section
variable {ρ : Env} {a b : D} {P : D → Env → Prop}
theorem o_neX {p q : PyData} {k : Bool} (h1 : toPy a = some p) (h2 : toPy b = some q) (s1 : SeqAt.shaped p = true) (s2 : SeqAt.shaped q = true) (e : PyData.eqv p q = k) (w : P (.bl (!k)) ρ) : wo (neD a b) ρ P := o_some (d := .bl (!k)) (by
  unfold neD; rw [h1, h2]; dsimp only; unfold ifO; rw [if_pos ⟨s1, s2⟩, e]) w
end
end Ip
set_option maxHeartbeats 4000000
namespace Ip
open PySem L2 PySem.Spec PyProof.Rows PySem.W
section
variable {X : Cx} {C : Ac} {W : WX} {g : Gx} {Γ Γ0 Γ1 Γ2 Γ3 Γ' Γb : List Nat} {fr fr1 fr2 fr3 : Bool} {e a b c : Expr} {lo hi : Option Expr} {es : List Expr} {f h k : Env → R D} {l u : Env → R (Option Int)} {p pos pos' apos cpos p2 np : Pos}
def mSliceT (f : Env → R D) (l u : Env → R (Option Int)) : Env → R D := fun ρ => (f ρ).bind fun d ρ1 => match d with
  | .tup ds => (l ρ1).bind fun lo ρ2 => (u ρ2).bind fun hi ρ3 => .ok (.tup (cutD ds lo hi)) ρ3
  | _ => .bad
end
section
variable {E : Ex → Env → Prop} {i j n : Nat} {ρ : Env} {d x y z : D} {f h k : Env → R D} {g : Env → R (List D)} {P : D → Env → Prop} {PS : Fl → Env → Prop}
theorem w_sliceT {l u : Env → R (Option Int)} (w : wpx E (f ρ) fun d ρ1 => ∃ ds, d = .tup ds ∧ wpx E (l ρ1) fun lo ρ2 => wpx E (u ρ2) fun hi ρ3 => P (.tup (cutD ds lo hi)) ρ3) : wpx E (mSliceT f l u ρ) P := wp_bind (wp_imp w fun d ρ1 ⟨s, e, w1⟩ => by
  subst e
  exact wp_bind (wp_imp w1 fun lo ρ2 w2 => wp_bind (wp_imp w2 fun hi ρ3 w3 => w3)))
end
end Ip
set_option maxHeartbeats 4000000
namespace Ip
open PySem L2 PySem.Spec PyProof.Rows PySem.W
end Ip
set_option maxHeartbeats 4000000
namespace Ip
open PySem L2 PySem.Spec PyProof.Rows PySem.W
def oStrI : List D → Option D
  | [.int i] => ifO (i.natAbs.log2 < 1920) (.str (toString i))
  | _ => none
theorem cal_strI {g : Gx} : CalS g (fun xs H Q => ∃ i, xs = [.int i] ∧ i.natAbs.log2 < 1920 ∧ Q (.str (toString i)) H) oStrI := fun H M vs ds d Q tr ks ho q => by
  unfold oStrI at ho
  split at ho
  · obtain ⟨c, rfl⟩ := ifO_some ho
    cases ks with
    | cons k1 kn =>
      cases kn
      cases k1
      exact ⟨_, rfl, c, q _ H (.refl _) (.str _)⟩
  · cases ho
end Ip
set_option maxHeartbeats 4000000
namespace Ip
open PySem L2 PySem.Spec PyProof.Rows PySem.W
def revS (z : Str) : Str := ⟨z.cps.toList.reverse.toArray⟩
def mRevT (f : Env → R D) : Env → R D := fun ρ => (f ρ).bind fun d ρ1 => match d with
  | .str z => if z.length ≤ sizeLine then .ok (.str (revS z)) ρ1 else .bad
  | _ => .bad
def isBD (a b : D) : Option D := match a, b with
  | .bl x, .bl y => some (.bl (decide (x = y)))
  | _, _ => none
def notBD (a b : D) : Option D := match a, b with
  | .bl x, .bl y => some (.bl (!decide (x = y)))
  | _, _ => none
end Ip
set_option maxHeartbeats 4000000
namespace Ip
open PySem L2 PySem.Spec PyProof.Rows PySem.W
def mEnumT (h : Env → R D) : Env → R (List D) := fun ρ => (h ρ).bind fun d ρ1 => match d with
  | .tup xs => .ok (enumL 0 xs) ρ1
  | _ => .bad
section
variable {E : Ex → Env → Prop} {ρ : Env} {f h : Env → R D} {P : D → Env → Prop} {PL : List D → Env → Prop}
theorem w_enumT (w : wpx E (f ρ) fun d ρ1 => ∃ xs, d = .tup xs ∧ PL (enumL 0 xs) ρ1) : wpx E (mEnumT f ρ) PL := wp_bind (wp_imp w fun d ρ1 ⟨xs, e, w1⟩ => by
  subst e
  exact w1)
end
end Ip
set_option maxHeartbeats 4000000
namespace Ip
open PySem L2 PySem.Spec PyProof.Rows PySem.W
/-- the function's object, told of -/
def LamO (f : Addr) (fo : Obj) : HO := .ext fun h => h.get? f = some fo
end Ip
set_option maxHeartbeats 4000000
namespace Ip
open PySem L2 PySem.Spec PyProof.Rows PySem.W
structure Made (H H' : Hp) (P f c' : Addr) (fo : Obj) (q : Str) : Prop where
  keep : ∀ b o, H b = some o → b ≠ P → H' b = some o
  tab : Tb H' P
  fn : H' f = some (LamO f fo)
  co : H' c' = some (LamX.CodeO c' q)
  was : ∃ ps, H P = some (.tbl ps)
theorem mask_nil {H : Hp} : mask H ([] : List Addr) = H := by funext b; exact mask_out (by simp)
section
variable {H H' : Hp} {P f c' : Addr} {fo : Obj} {M : List Addr}
theorem Made.at (m : Made H H' P f c' fo lamNm) {b : Addr} {o : HO} (e : H b = some o) (n : ∀ ps, o ≠ .tbl ps) : H' b = some o := m.keep b o e fun z => by
  obtain ⟨ps, hp⟩ := m.was
  rw [z, hp] at e
  exact n ps (Option.some.inj e).symm
theorem Made.fx (m : Made H H' P f c' fo lamNm) (hd : ∀ a ∈ M, Hd H a) : ∀ a ∈ M, H' a = H a := fun a ha => by
  obtain ⟨h1, h2⟩ := hd a ha
  cases e : H a with
  | none => exact absurd e h1
  | some o => exact m.at e fun ps z => by have := h2 o e; rw [z] at this; exact this
theorem Made.gro (m : Made H H' P f c' fo lamNm) : ∀ a, H a ≠ none → H' a ≠ none := fun a ha => by
  by_cases z : a = P
  · obtain ⟨ps, e, _⟩ := m.tab
    rw [z, e]; simp
  · cases e : H a with
    | none => exact absurd e ha
    | some o => rw [m.keep a o e z]; simp
theorem Made.le (m : Made H H' P f c' fo lamNm) (hd : ∀ a ∈ M, Hd H a) : HLe (mask H M) (mask H' M) := by
  have up : ∀ b o, mask H M b = some o → (∀ ps, o ≠ .tbl ps) → mask H' M b = some o := fun b o e n => by
    obtain ⟨e1, e2⟩ := mask_some e
    rw [mask_out e1]; exact m.at e2 n
  refine ⟨fun b o e n => up b o e fun ps z => by rw [z] at n; exact n, fun b kv e => ?_, fun b kv e => ?_, fun P' t => ?_⟩
  · exact e.elim (fun e => .inl (up _ _ e fun _ z => nomatch z)) fun ⟨o, e⟩ => .inr ⟨o, up _ _ e fun _ z => nomatch z⟩
  · exact e.elim (fun e => .inl (up _ _ e fun _ z => nomatch z)) fun ⟨o, e⟩ => .inr ⟨o, up _ _ e fun _ z => nomatch z⟩
  · by_cases z : P' = P
    · subst z
      have t0 : Tb (mask H' ([] : List Addr)) P' := by rw [mask_nil]; exact m.tab
      exact t0.mask fun a ha => (hd a ha).of (m.fx hd a ha)
    · obtain ⟨ps, e, tr, cs⟩ := t
      obtain ⟨e1, e2⟩ := mask_some e
      refine ⟨ps, by rw [mask_out e1]; exact m.keep _ _ e2 z, tr, fun p cv hcv => ?_⟩
      obtain ⟨c0, q1, q2⟩ := cs p cv hcv
      exact ⟨c0, q1, up _ _ q2 fun ps' => LamX.codeO_ne ps'⟩
end
end Ip
set_option maxHeartbeats 4000000
namespace Ip
open PySem L2 PySem.Spec PyProof.Rows PySem.W
end Ip
namespace Ip
open PySem L2 PySem.Spec PyProof.Rows
def frT (ρ : Env) : FR → R D
  | .ok d [_] => .ok d ρ
  | .exn e [_] => .exn e ρ
  | _ => .bad
def mCallT (F : FSem) (f : Env → R D) (g : Env → R (List D)) : Env → R D := fun ρ => (f ρ).bind fun d ρ1 => (g ρ1).bind fun ds ρ2 => if isObj d = true then frT ρ2 (F (d :: ds)) else .bad
end Ip
set_option maxHeartbeats 4000000
namespace Ip
open PySem L2 PySem.Spec PyProof.Rows PySem.W
end Ip
set_option maxHeartbeats 4000000
namespace Ip
open PySem L2 PySem.Spec PyProof.Rows PySem.W
structure InsC (K : Frag) (C : Addr) : Prop where
  cl : Cls K C
  ha : findIn K (.ref C) "__class__" = some (some (.builtin "object.__class__"))
  hn : specialIn K (.builtin "object.__class__") "__get__" = some (some (.builtin "getset_descriptor.__get__"))
  htk : takesIn K (.builtin "object.__class__") = some true
  hm : mroIn K C (.type "object") = some true
/-- isinstance against the class T: its own answer for each own class in cs, False for all data of the language -/
structure OwnIs (K : Frag) (mg : Str → Option Value) (ct : Str → Option Addr) (T : Str) (cs : List (Str × Bool)) : Prop where
  ex : ∃ CT : Addr, mg T = some (.ref CT) ∧ (∀ t ∈ tys, kitOne K (.type t) (.ref CT) = some false) ∧ ∀ c b, cs.lookup c = some b → ∃ Cc, ct c = some Cc ∧ InsC K Cc ∧ kitOne K (.ref Cc) (.ref CT) = some b
inductive OwnL (K : Frag) (ct : Str → Option Addr) (CT : Addr) : List (Str × Bool) → Prop
  | nil : OwnL K ct CT []
  | cons {c : Str} {b : Bool} {cs : List (Str × Bool)} {Cc : Addr} : ct c = some Cc → InsC K Cc → kitOne K (.ref Cc) (.ref CT) = some b → OwnL K ct CT cs → OwnL K ct CT ((c, b) :: cs)
theorem OwnL.at {K : Frag} {ct : Str → Option Addr} {CT : Addr} {cs : List (Str × Bool)} (h : OwnL K ct CT cs) : ∀ c b, cs.lookup c = some b → ∃ Cc, ct c = some Cc ∧ InsC K Cc ∧ kitOne K (.ref Cc) (.ref CT) = some b := by
  induction h with
  | nil => intro c b e; cases e
  | @cons c' b' cs Cc h1 h2 h3 _ ih =>
    intro c b e
    rw [List.lookup_cons] at e
    cases q : c == c' with
    | true =>
      rw [q] at e
      cases e
      rw [beq_iff_eq.mp q]
      exact ⟨Cc, h1, h2, h3⟩
    | false => rw [q] at e; exact ih c b e
theorem OwnIs.of {K : Frag} {mg : Str → Option Value} {ct : Str → Option Addr} {T : Str} {cs : List (Str × Bool)} (hm : mg T = some (.ref (He.ga K T))) (h : kitTs K T = true) (l : OwnL K ct (He.ga K T) cs) : OwnIs K mg ct T cs :=
  ⟨_, hm, fun t ht => of_decide_eq_true (List.all_eq_true.mp h t ht), l.at⟩
def isoD (cs : List (Str × Bool)) (d : D) : Option D := match clsOf d with
  | some c => (cs.lookup c).map .bl
  | none => (tyD d).map fun _ => .bl false
end Ip
set_option maxHeartbeats 4000000
namespace Ip
open PySem L2
section
variable {E : Ex → Env → Prop} {i : Nat} {ρ : Env} {d : D} {f h k : Env → R D} {g : Env → R (List D)} {F : FSem} {P : D → Env → Prop} {PL : List D → Env → Prop}
theorem w_revT (w : wpx E (f ρ) fun d ρ1 => ∃ l : List Nat, d = .str (S l) ∧ l.length ≤ 2 ^ 24 ∧ P (.str (S l.reverse)) ρ1) : wpx E (mRevT f ρ) P := wp_bind (wp_imp w fun d ρ1 ⟨l, e, hl, w1⟩ => by
  subst e
  dsimp only
  rw [if_pos (show (S l).length ≤ sizeLine by rw [S_len]; exact hl)]
  exact w1)
theorem x_rv {l : List Nat} {Q : List Nat → Prop} (h : l.length ≤ 2 ^ 24) (w : Q l) : ∃ l2 : List Nat, D.str (S l) = .str (S l2) ∧ l2.length ≤ 2 ^ 24 ∧ Q l2 := ⟨l, rfl, h, w⟩
theorem w_eqO {cs : List Str} (w : wpx E (f ρ) fun x ρ1 => wpx E (h ρ1) fun y ρ2 => ∃ c, clsOf x = some c ∧ (cs.contains c = true ∧ clsOf y = some c) ∧ wfx (fun e _ => E e ρ2) (F [x, y]) fun d _ => P d ρ2) : wpx E (mEqO cs F f h ρ) P := wp_bind (wp_imp w fun x ρ1 w1 => wp_bind (wp_imp w1 fun y ρ2 ⟨c, e1, e2, w2⟩ => by
  rw [e1]; dsimp only; rw [if_pos e2]
  cases q : F [x, y] <;> rw [q] at w2 <;> exact w2))
theorem w_callT (w : wpx E (f ρ) fun d ρ1 => wpx E (g ρ1) fun ds ρ2 => isObj d = true ∧ wfx (fun e outs => ∃ o, outs = [o] ∧ E e ρ2) (F (d :: ds)) fun d' outs => ∃ o, outs = [o] ∧ P d' ρ2) : wpx E (mCallT F f g ρ) P := wp_bind (wp_imp w fun d ρ1 w1 => wp_bind (wp_imp w1 fun ds ρ2 ⟨e, w2⟩ => by
  rw [if_pos e]
  cases q : F (d :: ds) with
  | ok d' outs => rw [q] at w2; obtain ⟨o, rfl, w3⟩ := w2; exact w3
  | exn e' outs => rw [q] at w2; obtain ⟨o, rfl, w3⟩ := w2; exact w3
  | bad => rw [q] at w2; exact w2.elim))
theorem o_isO {cs : List (Str × Bool)} {b : Bool} (e : isoD cs d = some (.bl b)) (w : P (.bl b) ρ) : wo (isoD cs d) ρ P := o_some e w
theorem o_isB {a b : Bool} (w : P (.bl (decide (a = b))) ρ) : wo (isBD (.bl a) (.bl b)) ρ P := w
theorem o_notB {a b : Bool} (w : P (.bl (!decide (a = b))) ρ) : wo (notBD (.bl a) (.bl b)) ρ P := w
end
end Ip
set_option maxHeartbeats 2000000
namespace Ip
open PySem L2 PySem.Spec PyProof.Rows
end Ip
set_option maxHeartbeats 2000000
namespace Ip
open PySem L2 PySem.Spec PyProof.Rows
end Ip
namespace Ip
open PySem L2 PySem.Spec PyProof.Rows
mutual
def pdD : D → PyData
  | .non => .none
  | .bl b => .bool b
  | .int i => .int i
  | .str x => .str x
  | .tup ds => .tuple (pdL ds)
  | .lst ds => .list (pdL ds)
  | .dic _ _ => .none
  | .dit _ _ => .none
  | .obj _ _ _ => .none
  | .opq => .none
  | .clo _ _ => .none
  | .exc _ => .none
def pdL : List D → List PyData
  | [] => []
  | d :: ds => pdD d :: pdL ds
end
mutual
def plnD : D → Bool
  | .non => true
  | .bl _ => true
  | .int _ => true
  | .str _ => true
  | .tup ds => plnL ds
  | .lst ds => plnL ds
  | .dic _ _ => false
  | .dit _ _ => false
  | .obj _ _ _ => false
  | .opq => false
  | .clo _ _ => false
  | .exc _ => false
def plnL : List D → Bool
  | [] => true
  | d :: ds => plnD d && plnL ds
end
def rpT (d : D) : Str := (pdD d).shown
def rpOk (d : D) : Bool := plnD d && (pdD d).showable && decide ((pdD d).shown.length ≤ sizeLine) && decide ((pdD d).depth ≤ 50)
end Ip
set_option maxHeartbeats 2000000
namespace Ip
open PySem L2 PySem.Spec PyProof.Rows
structure FnAt (P : Program) (w : World) (K : PySem.W.Frag) (mg : Str → Option Value) (base : Heap) (CX : CXT) (A : Around) (f : Addr) (fd : FuncData) (ps : List Str) (sp : Sp) : Prop where
  len : ∀ vs H Q E, sp vs H Q E → vs.length = ps.length
  run : ∀ (outer : List PySem.Env) (s : Shared) (H : Hp) (args : Args) (us : List Value) (vs : List V) (Q : VK) (E : XK), Env0 P w K mg base A outer s H → BindsTo s fd args (ps.zip us) → Vals vs us → sp vs H Q E →
    codeAny (model P w) A (.call (.ref f) args) (CR CX outer P w H s Q E) s
section
variable {P : Program} {w : World} {K : PySem.W.Frag} {mg : Str → Option Value} {base : Heap} {CX : CXT} {A : Around} {k : Nat} {f : Addr} {fd : FuncData} {ps N : List Str} {sp : Sp}
theorem fn_at (x qual : Str) (pr : Arguments) (bd : List Stmt) (sc : Scope) (F : FunD K x qual pr bd sc [] [] f fd) (S : FnScope N ps sc) (hr : Room (k + 1) A) (len : ∀ vs H Q E, sp vs H Q E → vs.length = ps.length)
    (hb : ∀ (cdv : Value) (outer : List PySem.Env) (s : Shared) (H : Hp) (vs : List V) (Q : VK) (E : XK), sp vs H Q E →
      ∃ t, PSs (cxOf CX P w K mg base N qual sc f cdv A outer s H E) bd t ∧ t { nx := fun _ H' => Q .non H', rt := Q } (L2.start N vs) H) : FnAt P w K mg base CX A f fd ps sp := by
  obtain ⟨oc, od, dV, kV, doc, pm, an, cdv, ct, osl, rfl, lk, hcd, _, _⟩ := F.ex
  refine ⟨len, fun outer s H args us vs Q E e0 b r h => ?_⟩
  have kp : ∀ q o, base.get? q = some o → s.heap.get? q = some o := fun q o e => (e0.bs q o e).1
  refine codeAny_call_function hr.depth (e0.mod.kin.keeps kp _ _ lk) rfl S.co S.gen rfl (PySem.W.codeRec_of (e0.mod.kin.keeps kp) hcd) (b _ _ _ _ ?_)
  refine wpAny_newFunctionEnv_cells S.kind (fun y hy => ?_) fun env he s1 x1 => ?_
  · rcases S.par y.1 (List.of_mem_zip hy).1 with z | z
    · exact .inl z
    · exact .inr ⟨z, PySem.W.cellsFrom_some _ _ _ (.inl z)⟩
  · subst he
    refine ⟨e0.mod.nolimit.keeps fun q o e => x1.toInCall.keep q o (kp q o e), codeAny_func ?_⟩
    obtain ⟨t, ht, hq⟩ := hb cdv outer s H vs Q E h
    refine wpAny_mono (ht.run [] s1 (L2.start N vs) H _ (inv_start S hr.hd e0 (len _ _ _ _ h) r x1) hq) (fun fl s' z => ?_) fun _ _ z => z
    cases fl with
    | ret u => exact let ⟨v, _, H', J, rv, q⟩ := z; ⟨v, H', J.os, J.bare, J.base, J.hok, rv, q⟩
    | next => exact let ⟨_, H', J, q⟩ := z; ⟨.non, H', J.os, J.bare, J.base, J.hok, rfl, q⟩
    | brk => exact let ⟨_, _, _, q⟩ := z; False.elim q
    | cont => exact let ⟨_, _, _, q⟩ := z; False.elim q
end
/-- a def by its semantics, at one place -/
theorem def_at {P : Program} {w : World} {K : PySem.W.Frag} {mg : Str → Option Value} {base : Heap} {A : Around} {x qual : Str} {pr : Arguments} {bd : List Stmt} {sc : Scope} {f : Addr} {fd : FuncData} {N ps : List Str} {k n : Nat} {io : List Nat} {fr : Bool} {ct : Str → Option Addr} {sem : Env → R Fl}
    (F : FunD K x qual pr bd sc [] [] f fd) (S : FnScope N ps sc) (hn : n = ps.length) (hr : Room (k + 1) A)
    (hb : ∀ (cdv : Value) (outer : List PySem.Env) (s : Shared) (H : Hp) (E : XK) (hid ioA : List Addr), Room k (A.deeper (envOfC qual sc s.heap.objs.size f cdv)) →
      SSs (cxOf (L2.CX P w) P w K mg base N qual sc f cdv A outer s H E) ⟨ct, H, hid, io, ioA, []⟩ (fun cls od _ H' => E cls od H') io bd io [] fr sem) :
    FnAt P w K mg base (L2.CX P w) A f fd ps (spF K ct n io fr (fnSem N.length io sem)) := by
  refine fn_at x qual pr bd sc F S hr (spF_len hn) fun cdv outer s H vs Q E h => ?_
  refine body_sp (X := cxOf (L2.CX P w) P w K mg base N qual sc f cdv A outer s H E) (W := fun cls od _ H' => E cls od H') rfl (fun _ _ _ _ h => h) (fun hid ioA => hb cdv outer s H E hid ioA (hr.deeper _)) ?_ h
  have := congrArg List.length S.pre
  rw [List.length_take] at this
  omega
end Ip
set_option maxHeartbeats 2000000
namespace Ip
open PySem L2 PySem.Spec PyProof.Rows
section
variable {P : Program} {w : World} {K : PySem.W.Frag} {mg mb : Str → Option Value} {CX : CXT} {fa a : Addr} {fd : FuncData} {x : Str} {sp : Sp} {s₁ : Shared} {vs : List Value} {ns : List Int}
theorem law_callA (KX : K.In s₁.heap) (hns : s₁.heap.Ns mainGlobals mg) (hb : s₁.heap.Ns builtinsNs mb) (hbb : ∀ x : Str, x ≠ "__name__" → mb x = bootBuiltins x) (hlim : s₁.heap.NoLimit) (hg : s₁.gens = #[])
    (ha : s₁.heap.get? a = some { cls := .type "list", data := .seq vs.toArray }) (hi : IntsAre vs ns) (hl : ns.length ≤ sizeLine)
    (F : ∀ base : Heap, K.In base → base.Ns mainGlobals mg → FnAt P w K mg base CX callerA fa fd [x] sp) (hbind : ∀ (s : Shared) (u : Value), BindsTo s fd ⟨[u], []⟩ [(x, u)])
    (hsp : ∀ H : Hp, Only H → SqL K H a (ns.map V.int) → sp [.ref a] H (fun v _ => v = .bl true) fun _ _ _ => False)
    (hCX : ∀ H e s', CX [] H s₁ (fun _ _ _ => False) e s' → False) :
    codeAny (model P w) callerA (.call (.ref fa) ⟨[.ref a], []⟩) (fun r s' => r = .ok (.ret (.bool true)) ∧ OldK s₁.heap s'.heap ∧ s'.os = s₁.os ∧ AllBare s'.gens) s₁ := by
  have rv := vals_ints hi
  -- the script alone is tracked, and only if it is none of the text's own objects
  obtain ⟨H, h0, hS⟩ : ∃ H : Hp, (∀ b u, H b = some u → b = a ∧ K.lookup a = none ∧ u = .frz { cls := .type "list", data := .seq vs.toArray } (.lst (ns.map V.int))) ∧ SqL K H a (ns.map V.int) := by
    cases hk : K.lookup a with
    | some o =>
      have e := KX a o hk
      rw [ha] at e
      cases e
      exact ⟨fun _ => none, fun b u z => (nomatch (show (none : Option HO) = some u from z)), .inr ⟨_, vs.toArray, _, hk, rfl, rfl, rfl, by rw [List.size_toArray, hi.length]; exact hl, by simpa using rv⟩⟩
    | none =>
      refine ⟨fun b => if b = a then some (.frz { cls := .type "list", data := .seq vs.toArray } (.lst (ns.map V.int))) else none, fun b u z => ?_, .inl (.inr ⟨{ cls := .type "list", data := .seq vs.toArray }, if_pos rfl⟩)⟩
      dsimp only at z
      split at z
      · cases z; exact ⟨‹_›, rfl, rfl⟩
      · cases z
  have hN : ∀ b, b ≠ a → H b = none := fun b ne => Option.eq_none_iff_forall_ne_some.mpr fun u z => ne (h0 b u z).1
  have only : Only H := fun b => by
    cases q : H b with
    | none => exact .inl rfl
    | some u => exact .inr ⟨_, _, congrArg some (h0 b u q).2.2⟩
  have hok : HOk P w H s₁.heap := fun b u z => by
    obtain ⟨rfl, _, rfl⟩ := h0 b u z
    exact ⟨ha, by rw [List.length_map]; exact hl, vs, _, rv, ha⟩
  have keepB : ∀ {b : Addr} {o : Obj}, s₁.heap.get? b = some o → H b = none → (hidT s₁.heap H).get? b = some o := fun e n => hidT_get e n
  have dictN : ∀ {b : Addr} {m : Str → Option Value}, s₁.heap.Ns b m → (hidT s₁.heap H).Ns b m := fun {b m} ⟨o, es, ep, e, d, r⟩ => by
    refine ⟨o, es, ep, keepB e (hN b fun z => ?_), d, r⟩
    rw [z, ha] at e
    cases e
    cases d
  have kin : K.In (hidT s₁.heap H) := fun b o e => keepB (KX b o e) (Option.eq_none_iff_forall_ne_some.mpr fun u z => by
    obtain ⟨q, q2, _⟩ := h0 b u z
    rw [q, q2] at e
    cases e)
  have e0 : Env0 P w K mg (hidT s₁.heap H) callerA [] s₁ H := ⟨rfl, ⟨kin, dictN hns, ⟨mb, dictN hb, hbb⟩, let ⟨mc, h1, h2⟩ := hlim; ⟨mc, dictN h1, h2⟩⟩, fun b o e => of_hidT e, Nat.le_of_eq (hidT_size _ _), trivial, (fun _ z => nomatch z), hok, .of_eq hg⟩
  refine codeAny_mono ((F _ kin (dictN hns)).run [] s₁ H ⟨[.ref a], []⟩ [.ref a] [.ref a] _ _ e0 (hbind s₁ (.ref a)) (.cons rfl .nil) (hsp H only hS)) fun r s' z => ?_
  match r, z with
  | .error e, z => exact (hCX H e s' z).elim
  | .ok .next, z => exact False.elim z
  | .ok .brk, z => exact False.elim z
  | .ok .cont, z => exact False.elim z
  | .ok (.ret u), z =>
    obtain ⟨v, H', os, bare, un, hok', r', q⟩ := z
    cases (show v = V.bl true from q)
    cases (show u = Value.bool true from r')
    refine ⟨rfl, OldK.of_keep fun b o e => ?_, os, bare⟩
    cases q : H b with
    | none => exact un.keep b o e q (by intro z; exact nomatch z) (by simp)
    | some u =>
      obtain ⟨rfl, _, rfl⟩ := h0 b u q
      rw [ha] at e
      cases e
      exact (hok' _ _ (un.frzs _ _ _ q)).1
end
/-- the law's end -/
theorem law_endA {lw : PySem.W.OpenLaw} {nn : Nat} {qq : Program} {ll : List Str} {XP : (Str → Option Value) → Heap → Prop} {YP : World → Heap → Prop} {dd : DefRec} {xx : Str} (a1 : lw.most = some nn) (a2 : nn ≤ sizeLine) (a3 : dd.params.defaults = [])
    (FF : ∀ (w : World) (mg : Str → Option Value) (fa : Addr) (hh : Heap), YP w hh → hh.Ns mainGlobals mg → mg dd.name = some (.ref fa) → ∃ (K : PySem.W.Frag) (fd : FuncData) (sp : Sp), K.In hh ∧ (∀ (sh : Shared) (u : Value), BindsTo sh fd ⟨[u], []⟩ [(xx, u)]) ∧ (∀ (H : Hp) (a : Addr) (ns : List Int), ns.length ≤ nn → Only H → SqL K H a (ns.map V.int) → sp [.ref a] H (fun v _ => v = .bl true) fun _ _ _ => False) ∧ ∀ base : Heap, K.In base → base.Ns mainGlobals mg → FnAt lw.prog w K mg base (L2.CX lw.prog w) callerA fa fd [xx] sp) :
    PySem.W.WalkO qq ll XP YP lw.row.toRowW dd [] (fun f vs => PySem.call f vs) := by
  refine Att.attach_call a1 a3 fun w sa sb mg mb fa o pm cd doc a vs ns G Y ho hd hcd h1 h2 h3 h4 h5 => ?_
  obtain ⟨K, fd, sp, KX, b1, b2, b3⟩ := FF w mg fa _ Y G.T.g h1
  exact law_callA KX G.T.g G.T.b G.T.builtins G.T.nolimit h5 h2 h3 (Nat.le_trans h4 a2) b3 b1 (fun H o1 o2 => b2 H a ns h4 o1 o2) fun H e sc => law_cx H sb e sc
end Ip
namespace Ip
open PySem L2 PySem.Spec PyProof.Rows
end Ip
set_option exponentiation.threshold 2000
namespace Ip
open PySem L2 PySem.Spec PyProof.Rows
mutual
def noS : D → Bool
  | .str s => (reprText s).cps.toList.all fun c => decide (c < 0x110000)
  | .tup ds => noSL ds
  | .lst ds => noSL ds
  | .dic _ _ => false
  | .dit _ _ => false
  | .obj _ _ _ => false
  | .opq => false
  | .clo _ _ => false
  | .exc _ => false
  | _ => true
def noSL : List D → Bool
  | [] => true
  | d :: ds => noS d && noSL ds
end
def SgS (x : Str) : Prop := ∀ c ∈ x.cps.toList, c < 0x110000
theorem SgS.app {a b : Str} (ha : SgS a) (hb : SgS b) : SgS (a ++ b) := fun c h => by
  have e : (a ++ b).cps.toList = a.cps.toList ++ b.cps.toList := by
    show (a.cps ++ b.cps).toList = _
    exact Array.toList_append
  rw [e] at h
  rcases List.mem_append.1 h with h | h
  · exact ha c h
  · exact hb c h
theorem SgS.ok {x : Str} (h : SgS x) : PyData.strOk x = true := by
  unfold PyData.strOk
  rw [← Array.all_toList, List.all_eq_true]
  exact fun c hc => decide_eq_true (h c hc)
theorem sgs_from : ∀ (ts : List Str) (k : Nat) (acc : Str), SgS acc → (∀ t ∈ ts, SgS t) → SgS (textFrom k acc ts)
  | [], _, _, h, _ => h
  | t :: ts, k, acc, h, ht => by
    refine sgs_from ts (k + 1) _ ((h.app ?_).app (ht t List.mem_cons_self)) fun u hu => ht u (List.mem_cons_of_mem _ hu)
    split
    · show SgS (Str.ofString ", "); unfold SgS; decide
    · show SgS (Str.ofString ""); unfold SgS; decide
theorem sgs_join : ∀ (ts : List Str), (∀ t ∈ ts, SgS t) → SgS (Str.join ", " ts)
  | [], _ => by show SgS (Str.ofString ""); unfold SgS; decide
  | [x], h => h x List.mem_cons_self
  | x :: y :: r, h => by
    have ih := sgs_join (y :: r) fun u hu => h u (List.mem_cons_of_mem _ hu)
    show SgS (x ++ ", " ++ Str.join ", " (y :: r))
    exact ((h x List.mem_cons_self).app (by show SgS (Str.ofString ", "); unfold SgS; decide)).app ih
theorem sgs_list {ts : List Str} (h : ∀ t ∈ ts, SgS t) : SgS (listText ts) :=
  (sgs_from ts 0 _ (by show SgS (Str.ofString "["); unfold SgS; decide) h).app (by show SgS (Str.ofString "]"); unfold SgS; decide)
theorem sgs_tuple {ts : List Str} (h : ∀ t ∈ ts, SgS t) : SgS (tupleText ts) := by
  refine SgS.app (SgS.app (by show SgS (Str.ofString "("); unfold SgS; decide) (sgs_join ts h)) ?_
  split
  · show SgS (Str.ofString ",)"); unfold SgS; decide
  · show SgS (Str.ofString ")"); unfold SgS; decide
theorem sgs_int (i : Int) : SgS (PyData.int i).shown := fun c hc => Classical.byContradiction fun q => shown_int_free' (k := c) (by omega) i hc
mutual
theorem sgs_shown : ∀ d : D, noS d = true → SgS (pdD d).shown
  | .non, _ => by show SgS (Str.ofString "None"); unfold SgS; decide
  | .bl b, _ => by cases b <;> (simp only [pdD, PyData.shown]; unfold SgS; decide)
  | .int i, _ => by simp only [pdD]; exact sgs_int i
  | .str s, h => by
    simp only [noS, List.all_eq_true, decide_eq_true_eq] at h
    simp only [pdD, PyData.shown]
    exact h
  | .tup ds, h => by
    simp only [noS] at h
    simp only [pdD, PyData.shown]
    exact sgs_tuple (sgs_all ds h)
  | .lst ds, h => by
    simp only [noS] at h
    simp only [pdD, PyData.shown]
    exact sgs_list (sgs_all ds h)
  | .dic _ _, h => by simp [noS] at h
  | .dit _ _, h => by simp [noS] at h
  | .obj _ _ _, h => by simp [noS] at h
  | .opq, h => by simp [noS] at h
  | .clo _ _, h => by simp [noS] at h
  | .exc _, h => by simp [noS] at h
theorem sgs_all : ∀ ds : List D, noSL ds = true → ∀ t ∈ PyData.shownAll (pdL ds), SgS t
  | [], _, t, ht => by simp [pdL, PyData.shownAll] at ht
  | d :: ds, h, t, ht => by
    simp only [noSL, Bool.and_eq_true] at h
    simp only [pdL, PyData.shownAll] at ht
    rcases List.mem_cons.1 ht with rfl | ht
    · exact sgs_shown d h.1
    · exact sgs_all ds h.2 t ht
end
/-- small plain data -/
structure Sh (W k : Nat) (d : D) : Prop where
  pln : plnD d = true
  nos : noS d = true
  shw : (pdD d).showable = true
  lv : (pdD d).leavesShort 200 = true
  wt : (pdD d).weight ≤ W
  dp : (pdD d).depth ≤ k
theorem Sh.mono {W k W' k' : Nat} {d : D} (h : Sh W k d) (h1 : W ≤ W') (h2 : k ≤ k') : Sh W' k' d := ⟨h.pln, h.nos, h.shw, h.lv, Nat.le_trans h.wt h1, Nat.le_trans h.dp h2⟩
structure ShL (W k : Nat) (ds : List D) : Prop where
  pln : plnL ds = true
  nos : noSL ds = true
  shw : PyData.showableAll (pdL ds) = true
  lv : PyData.leavesShortAll 200 (pdL ds) = true
  wt : PyData.weightAll (pdL ds) ≤ ds.length * (W + 1)
  dp : PyData.depthAll (pdL ds) ≤ k
theorem ShL.of {W k : Nat} : ∀ {ds : List D}, (∀ d ∈ ds, Sh W k d) → ShL W k ds
  | [], _ => ⟨rfl, rfl, by simp [pdL, PyData.showableAll], by simp [pdL, PyData.leavesShortAll], by simp [pdL, PyData.weightAll], by simp [pdL, PyData.depthAll]⟩
  | d :: ds, h => by
    have a := h d List.mem_cons_self
    have b := ShL.of fun x hx => h x (List.mem_cons_of_mem d hx)
    have e : (ds.length + 1) * (W + 1) = ds.length * (W + 1) + (W + 1) := Nat.succ_mul _ _
    refine ⟨by simp only [plnL, a.pln, b.pln]; rfl, by simp only [noSL, a.nos, b.nos]; rfl, by simp only [pdL, PyData.showableAll, a.shw, b.shw]; rfl, by simp only [pdL, PyData.leavesShortAll, a.lv, b.lv]; rfl, ?_, ?_⟩
    · simp only [pdL, PyData.weightAll]
      have := a.wt
      have := b.wt
      rw [List.length_cons, e]
      omega
    · simp only [pdL, PyData.depthAll]
      have := a.dp
      have := b.dp
      omega
theorem Sh.tup {W k n : Nat} {ds : List D} (h : ∀ d ∈ ds, Sh W k d) (hn : ds.length ≤ n) : Sh (n * (W + 1)) (k + 1) (.tup ds) := by
  have a := ShL.of h
  refine ⟨by simp only [plnD]; exact a.pln, by simp only [noS]; exact a.nos, by simp only [pdD, PyData.showable]; exact a.shw, by simp only [pdD, PyData.leavesShort]; exact a.lv, ?_, ?_⟩
  · simp only [pdD, PyData.weight]
    exact Nat.le_trans a.wt (Nat.mul_le_mul_right _ hn)
  · simp only [pdD, PyData.depth]
    have := a.dp
    omega
theorem Sh.lst {W k n : Nat} {ds : List D} (h : ∀ d ∈ ds, Sh W k d) (hn : ds.length ≤ n) : Sh (n * (W + 1)) (k + 1) (.lst ds) := by
  have a := ShL.of h
  refine ⟨by simp only [plnD]; exact a.pln, by simp only [noS]; exact a.nos, by simp only [pdD, PyData.showable]; exact a.shw, by simp only [pdD, PyData.leavesShort]; exact a.lv, ?_, ?_⟩
  · simp only [pdD, PyData.weight]
    exact Nat.le_trans a.wt (Nat.mul_le_mul_right _ hn)
  · simp only [pdD, PyData.depth]
    have := a.dp
    omega
theorem Sh.int {i : Int} {b : Nat} (h : i.natAbs < 2 ^ b) (hb : b ≤ 600) : Sh b 0 (.int i) := by
  have e : i.natAbs = 0 ∨ i.natAbs.log2 < b := by
    by_cases z : i.natAbs = 0
    · exact .inl z
    · exact .inr ((Nat.log2_lt z).2 h)
  have h3 : i.natAbs < 10 ^ 190 := Nat.lt_of_lt_of_le h (Nat.le_trans (Nat.pow_le_pow_right (by decide) hb) (by decide))
  refine ⟨rfl, rfl, ?_, ?_, ?_, ?_⟩
  · simp only [pdD, PyData.showable, decide_eq_true_eq]
    rcases e with e | e
    · rw [e]; decide
    · omega
  · simp only [pdD, PyData.leavesShort, decide_eq_true_eq]
    have q := int_text_length_le10 (k := 190) (by decide) h3
    show (Str.ofString (toString i)).length ≤ 200
    rw [PySem.ofString_length]; omega
  · simp only [pdD, PyData.weight]
    split
    · omega
    · rename_i z
      have z : i ≠ 0 := by simpa using z
      omega
  · simp [pdD, PyData.depth]
theorem Sh.str {s : Str} (h1 : ((reprText s).cps.toList.all fun c => decide (c < 0x110000)) = true) (h2 : (s.cps.toList.all fun c => decide (c < 16 ^ 8)) = true) : Sh s.cps.size 0 (.str s) := by
  refine ⟨rfl, by simp only [noS]; exact h1, by simp [pdD, PyData.showable], by simp only [pdD, PyData.leavesShort]; exact h2, by simp [pdD, PyData.weight], by simp [pdD, PyData.depth]⟩
theorem Sh.non : Sh 0 0 .non := ⟨rfl, rfl, by simp [pdD, PyData.showable], by simp [pdD, PyData.leavesShort], by simp [pdD, PyData.weight], by simp [pdD, PyData.depth]⟩
theorem Sh.bl {b : Bool} : Sh 0 0 (.bl b) := ⟨rfl, rfl, by simp [pdD, PyData.showable], by simp [pdD, PyData.leavesShort], by simp [pdD, PyData.weight], by simp [pdD, PyData.depth]⟩
theorem Sh.rp {W k : Nat} {d : D} (h : Sh W k d) (hW : W ≤ 80000) (hk : k ≤ 50) : rpOk d = true := by
  have a := PyData.shown_le 200 (by decide) (pdD d) h.lv
  have e : sizeLine = 16777216 := sizeLine_eq
  have b := h.wt
  have c := h.dp
  unfold rpOk
  rw [h.pln, h.shw, decide_eq_true (show (pdD d).shown.length ≤ sizeLine by rw [e]; omega), decide_eq_true (show (pdD d).depth ≤ 50 by omega)]
  rfl
theorem Sh.sg {W k : Nat} {d : D} (h : Sh W k d) : SgS (rpT d) := sgs_shown d h.nos
theorem Sh.py {W k : Nat} {d : D} (h : Sh W k d) : SeqAt.shaped (.str (rpT d)) = true := by
  unfold SeqAt.shaped
  rw [PyData.canLay0, h.sg.ok]
  simp [PyData.depth]
end Ip
set_option maxHeartbeats 2000000
namespace Ip
open PySem L2 PySem.Spec PyProof.Rows
end Ip
set_option maxHeartbeats 2000000
namespace Ip
open PySem L2 PySem.Spec PyProof.Rows
open PySem.SeqAt (EqIn EqAt)
end Ip
set_option maxHeartbeats 2000000
namespace Ip
open PySem L2 PySem.Spec PyProof.Rows
section
variable {X : Cx} {C : Ac} {W : WX} {Γ Γ0 Γ1 Γ2 Γ3 Γ' Γb : List Nat} {fr fr1 fr2 fr3 : Bool} {e a b c tg : Expr} {f h k : Env → R D} {p pos pos' apos cpos p2 np tpos : Pos}
theorem tE_imp {σ : L2.St} {H : Hp} {Q Q' : VK} (p : tE X.K C W Γ Γ' fr f σ H Q) (h : ∀ v H', Q v H' → Q' v H') : tE X.K C W Γ Γ' fr f σ H Q' := by
  obtain ⟨hid, ρ, S, p⟩ := p
  refine ⟨hid, ρ, S, ?_⟩
  cases q : f ρ with
  | bad => rw [q] at p; exact p
  | exn e ρ' => rw [q] at p; exact p
  | ok d ρ' =>
    rw [q] at p
    exact fun v H1 tm S1 k1 va t1 => h v H1 (p v H1 tm S1 k1 va t1)
end
end Ip
set_option maxHeartbeats 2000000
namespace Ip
open PySem L2 PySem.Spec PyProof.Rows
end Ip
set_option maxHeartbeats 2000000
namespace Ip
open PySem L2 PySem.Spec PyProof.Rows
end Ip
namespace Ip
open PySem L2
mutual
def imD : D → Bool
  | .non => true
  | .bl _ => true
  | .int _ => true
  | .str _ => true
  | .tup ds => imL ds
  | .lst _ => false
  | .dic _ _ => false
  | .dit _ _ => false
  | .obj _ _ _ => false
  | .opq => false
  | .clo _ _ => false
  | .exc _ => false
def imL : List D → Bool
  | [] => true
  | d :: ds => imD d && imL ds
end
/-- the tuples stand -/
def TupLe (A B : Hp) : Prop := ∀ a vs, A a = some (.tup vs) → B a = some (.tup vs)
theorem TupLe.refl (A : Hp) : TupLe A A := fun _ _ h => h
theorem TupLe.trans {A B C : Hp} (x : TupLe A B) (y : TupLe B C) : TupLe A C := fun a vs h => y a vs (x a vs h)
theorem TupLe.msk {H : Hp} {M : List Addr} (h : ∀ a ∈ M, Hd H a) : TupLe H (mask H M) := fun a vs e => by
  rw [mask_out fun z => (h a z).2 _ e]; exact e
theorem TupLe.unm {H : Hp} {M : List Addr} : TupLe (mask H M) H := fun a vs e => (mask_some e).2
theorem TupLe.of {A B : Hp} (s : HLe A B) : TupLe A B := fun a vs e => s.o a _ e trivial
mutual
theorem RV.im {g : Gx} {A B : Hp} (s : TupLe A B) : ∀ {d : D} {v : V}, RV g A d v → imD d = true → RV g B d v
  | _, _, .non, _ => .non
  | _, _, .bl b, _ => .bl b
  | _, _, .int i, _ => .int i
  | _, _, .str x, _ => .str x
  | _, _, .tup h r, e => by
    simp only [imD] at e
    exact .tup (s _ _ h) (RVs.im s r e)
  | _, _, .lst h r, e => by simp [imD] at e
  | _, _, .dK h l r, e => by simp [imD] at e
  | _, _, .dT h l r, e => by simp [imD] at e
  | _, _, .obj h c l r, e => by simp [imD] at e
  | _, _, .opq _, e => by simp [imD] at e
  | _, _, .clo _ _ _, e => by simp [imD] at e
  | _, _, .exc _ _, e => by simp [imD] at e
theorem RVs.im {g : Gx} {A B : Hp} (s : TupLe A B) : ∀ {ds : List D} {vs : List V}, RVs g A ds vs → imL ds = true → RVs g B ds vs
  | _, _, .nil, _ => .nil
  | _, _, .cons h r, e => by
    simp only [imL, Bool.and_eq_true] at e
    exact .cons (RV.im s h e.1) (RVs.im s r e.2)
end
/-- a place whose object is lent to a slot -/
def holeD : D := .obj "?" [] [.lst []]
mutual
/-- v stands for d, its nodes that may be changed are those of the list, each once; where the hole stands, the object at ho is lent -/
inductive FT (g : Gx) (H : Hp) (ho : Option Addr) : List Addr → D → V → Prop where
  | hole {b : Addr} : ho = some b → FT g H ho [] holeD (.ref b)
  | im {d : D} {v : V} : imD d = true → RV g H d v → FT g H ho [] d v
  | tup {a : Addr} {vs : List V} {ds : List D} {B : List Addr} : H a = some (.tup vs) → FTs g H ho B ds vs → FT g H ho B (.tup ds) (.ref a)
  | lst {a : Addr} {vs : List V} {ds : List D} {B : List Addr} : H a = some (.lst vs) → FTs g H ho B ds vs → FT g H ho (a :: B) (.lst ds) (.ref a)
  | dK {a : Addr} {ks : List Key} {vs : List V} {ds : List D} {B : List Addr} : H a = some (.dK (ks.zip vs)) → ks.length = vs.length → FTs g H ho B ds vs → FT g H ho (a :: B) (.dic (ks.map kD) ds) (.ref a)
  | dT {a : Addr} {ks : List (List Key)} {vs : List V} {ds : List D} {B : List Addr} : H a = some (.dT (ks.zip vs)) → ks.length = vs.length → FTs g H ho B ds vs → FT g H ho (a :: B) (.dit ks ds) (.ref a)
  | obj {a C dx : Addr} {c : Str} {ns : List Str} {vs : List V} {ds : List D} {B : List Addr} : H a = some (.ins C dx (ns.zip vs)) → g.ct c = some C → ns.length = vs.length → FTs g H ho B ds vs → FT g H ho (a :: B) (.obj c ns ds) (.ref a)
inductive FTs (g : Gx) (H : Hp) (ho : Option Addr) : List Addr → List D → List V → Prop where
  | nil : FTs g H ho [] [] []
  | cons {d : D} {v : V} {ds : List D} {vs : List V} {B B' : List Addr} : FT g H ho B d v → FTs g H ho B' ds vs → FTs g H ho (B ++ B') (d :: ds) (v :: vs)
end
mutual
theorem FT.rv {g : Gx} {H : Hp} : ∀ {B : List Addr} {d : D} {v : V}, FT g H none B d v → RV g H d v
  | _, _, _, .hole e => nomatch e
  | _, _, _, .im _ r => r
  | _, _, _, .tup h r => .tup h (FTs.rv r)
  | _, _, _, .lst h r => .lst (.of h) (FTs.rv r)
  | _, _, _, .dK h l r => .dK (.inl h) l (FTs.rv r)
  | _, _, _, .dT h l r => .dT (.inl h) l (FTs.rv r)
  | _, _, _, .obj h c l r => .obj h c l (FTs.rv r)
theorem FTs.rv {g : Gx} {H : Hp} : ∀ {B : List Addr} {ds : List D} {vs : List V}, FTs g H none B ds vs → RVs g H ds vs
  | _, _, _, .nil => .nil
  | _, _, _, .cons h r => .cons (FT.rv h) (FTs.rv r)
end
mutual
theorem FT.mono {g : Gx} {ho : Option Addr} {H H' : Hp} (t : TupLe H H') : ∀ {B : List Addr} {d : D} {v : V}, FT g H ho B d v → (∀ b ∈ B, H' b = H b) → FT g H' ho B d v
  | _, _, _, .hole e, _ => .hole e
  | _, _, _, .im e r, _ => .im e (r.im t e)
  | _, _, _, .tup h r, k => .tup (t _ _ h) (FTs.mono t r k)
  | _, _, _, .lst h r, k => .lst ((k _ List.mem_cons_self).trans h) (FTs.mono t r fun b hb => k b (List.mem_cons_of_mem _ hb))
  | _, _, _, .dK h l r, k => .dK ((k _ List.mem_cons_self).trans h) l (FTs.mono t r fun b hb => k b (List.mem_cons_of_mem _ hb))
  | _, _, _, .dT h l r, k => .dT ((k _ List.mem_cons_self).trans h) l (FTs.mono t r fun b hb => k b (List.mem_cons_of_mem _ hb))
  | _, _, _, .obj h c l r, k => .obj ((k _ List.mem_cons_self).trans h) c l (FTs.mono t r fun b hb => k b (List.mem_cons_of_mem _ hb))
theorem FTs.mono {g : Gx} {ho : Option Addr} {H H' : Hp} (t : TupLe H H') : ∀ {B : List Addr} {ds : List D} {vs : List V}, FTs g H ho B ds vs → (∀ b ∈ B, H' b = H b) → FTs g H' ho B ds vs
  | _, _, _, .nil, _ => .nil
  | _, _, _, .cons h r, k => .cons (FT.mono t h fun b hb => k b (List.mem_append_left _ hb)) (FTs.mono t r fun b hb => k b (List.mem_append_right _ hb))
end
mutual
theorem FT.hd {g : Gx} {ho : Option Addr} {H : Hp} : ∀ {B : List Addr} {d : D} {v : V}, FT g H ho B d v → ∀ b ∈ B, Hd H b
  | _, _, _, .hole _, b, hb => nomatch hb
  | _, _, _, .im _ _, b, hb => nomatch hb
  | _, _, _, .tup _ r, b, hb => FTs.hd r b hb
  | _, _, _, .lst h r, b, hb => by
    rcases List.mem_cons.1 hb with rfl | hb
    · exact .mk' h trivial
    · exact FTs.hd r b hb
  | _, _, _, .dK h _ r, b, hb => by
    rcases List.mem_cons.1 hb with rfl | hb
    · exact .mk' h trivial
    · exact FTs.hd r b hb
  | _, _, _, .dT h _ r, b, hb => by
    rcases List.mem_cons.1 hb with rfl | hb
    · exact .mk' h trivial
    · exact FTs.hd r b hb
  | _, _, _, .obj h _ _ r, b, hb => by
    rcases List.mem_cons.1 hb with rfl | hb
    · exact .mk' h trivial
    · exact FTs.hd r b hb
theorem FTs.hd {g : Gx} {ho : Option Addr} {H : Hp} : ∀ {B : List Addr} {ds : List D} {vs : List V}, FTs g H ho B ds vs → ∀ b ∈ B, Hd H b
  | _, _, _, .nil, b, hb => nomatch hb
  | _, _, _, .cons h r, b, hb => (List.mem_append.1 hb).elim (FT.hd h b) (FTs.hd r b)
end
theorem FTs.length {g : Gx} {ho : Option Addr} {H : Hp} : ∀ {B : List Addr} {ds : List D} {vs : List V}, FTs g H ho B ds vs → ds.length = vs.length
  | _, _, _, .nil => rfl
  | _, _, _, .cons _ r => by simp [FTs.length r]
theorem FTs.app {g : Gx} {ho : Option Addr} {H : Hp} : ∀ {B B' : List Addr} {ds es : List D} {vs ws : List V}, FTs g H ho B ds vs → FTs g H ho B' es ws → FTs g H ho (B ++ B') (ds ++ es) (vs ++ ws)
  | _, _, _, _, _, _, .nil, s => s
  | _, _, _, _, _, _, .cons h r, s => by
    rw [List.append_assoc]
    exact .cons h (FTs.app r s)
theorem FTs.ims {g : Gx} {ho : Option Addr} {H : Hp} : ∀ {ds : List D} {vs : List V}, RVs g H ds vs → imL ds = true → FTs g H ho [] ds vs
  | _, _, .nil, _ => .nil
  | _, _, .cons h r, e => by
    simp only [imL, Bool.and_eq_true] at e
    exact .cons (B := []) (.im e.1 h) (FTs.ims r e.2)
/-- a fresh object with immutable items is a tree -/
def imI : D → Bool
  | .lst ds => imL ds
  | .dic _ ds => imL ds
  | .dit _ ds => imL ds
  | .obj _ _ ds => imL ds
  | _ => false
theorem Cont.ft {g : Gx} {ho : Option Addr} {H Hm : Hp} {a : Addr} {d : D} (h : Cont g H Hm a d) (t : TupLe Hm H) (e : imI d = true) : FT g H ho [a] d (.ref a) := by
  cases h with
  | lst h r => exact .lst h (FTs.ims (r.im t e) e)
  | dK h l r => exact .dK h l (FTs.ims (r.im t e) e)
  | dT h l r => exact .dT h l (FTs.ims (r.im t e) e)
  | obj h c l r => exact .obj h c l (FTs.ims (r.im t e) e)
/-- pt: the slots whose tree came from the caller, and where its root stands -/
structure Ad extends Ac where
  pt : List (Nat × Addr)
instance : Coe Ad Ac := ⟨Ad.toAc⟩
def bA (Δ : List Nat) (bs : Nat → List Addr) : List Addr := Δ.flatMap bs
theorem mem_bA {Δ : List Nat} {bs : Nat → List Addr} {a : Addr} : a ∈ bA Δ bs ↔ ∃ x ∈ Δ, a ∈ bs x := List.mem_flatMap
def ovr (A : Hp) (B : List Addr) (H : Hp) : Hp := fun a => if a ∈ B then H a else A a
theorem ovr_in {A H : Hp} {B : List Addr} {a : Addr} (h : a ∈ B) : ovr A B H a = H a := if_pos h
theorem ovr_out {A H : Hp} {B : List Addr} {a : Addr} (h : a ∉ B) : ovr A B H a = A a := if_neg h
theorem ovr_congr {A H H' : Hp} {B : List Addr} (h : ∀ a ∈ B, H' a = H a) : ovr A B H' = ovr A B H := by
  funext a
  by_cases q : a ∈ B
  · rw [ovr_in q, ovr_in q, h a q]
  · rw [ovr_out q, ovr_out q]
/-- what is lent: the tree's slot, the slot that has it -/
def bY (β : List (Nat × Nat)) : List Nat := β.map (·.2)
def hol (β : List (Nat × Nat)) (σ : L2.St) (x : Nat) : Option Addr := (β.lookup x).map (sa σ)
theorem hol_congr {β : List (Nat × Nat)} {σ σ' : L2.St} (h : ∀ y ∈ bY β, sa σ' y = sa σ y) (x : Nat) : hol β σ' x = hol β σ x := by
  unfold hol
  cases q : β.lookup x with
  | none => rfl
  | some y =>
    have : y ∈ bY β := by
      clear h
      induction β with
      | nil => cases q
      | cons p β ih =>
        obtain ⟨a, b⟩ := p
        rw [List.lookup_cons] at q
        split at q
        · cases q; exact List.mem_cons_self
        · exact List.mem_cons_of_mem _ (ih q)
    show some (sa σ' y) = some (sa σ y)
    rw [h y this]
abbrev Cd (C : Ac) (Δ : List Nat) (β : List (Nat × Nat)) (B : List Addr) (σ : L2.St) (H : Hp) : Ac := ⟨C.ct, ovr C.H0 (B ++ Δ.map (sa σ)) H, B ++ C.hid, Δ ++ (bY β ++ C.io), Δ.map (sa σ) ++ ((bY β).map (sa σ) ++ C.ioA), Δ⟩
/-- the trees have no node in common, and each node once -/
structure NdB (Δ : List Nat) (bs : Nat → List Addr) : Prop where
  one : ∀ x ∈ Δ, (bs x).Nodup
  two : ∀ x ∈ Δ, ∀ y ∈ Δ, x ≠ y → ∀ b ∈ bs x, b ∉ bs y
structure DS (K : PySem.W.Frag) (C : Ad) (Δ : List Nat) (β : List (Nat × Nat)) (bs : Nat → List Addr) (hid : List Addr) (Γ : List Nat) (ρ : Env) (σ : L2.St) (H : Hp) : Prop where
  st : ST K (Cd C Δ β (bA Δ bs) σ H) (bA Δ bs ++ hid) Γ (wipeE ρ Δ) σ H
  ft : ∀ x ∈ Δ, ∃ d, ρ[x]? = some (some d) ∧ FT (gx K C) H (hol β σ x) (sa σ x :: bs x) d (.ref (sa σ x))
  nd : NdB Δ bs
  new : ∀ a ∈ bA Δ bs ++ Δ.map (sa σ), C.H0 a = none
  lent : ∀ y ∈ bY β, y ∉ Δ ∧ C.H0 (sa σ y) = none
  dh : ∀ a ∈ bA Δ bs, a ∉ hid
  sub : ∀ a ∈ C.hid, a ∈ hid
  pt : ∀ p ∈ C.pt, p.1 ∈ Δ ∧ sa σ p.1 = p.2
section
variable {K : PySem.W.Frag} {C : Ad} {Δ : List Nat} {β : List (Nat × Nat)} {bs : Nat → List Addr} {hid tm : List Addr} {Γ Γ' : List Nat} {ρ ρ' : Env} {σ σ' : L2.St} {H H' : Hp}
theorem DS.rt (S : DS K C Δ β bs hid Γ ρ σ H) {x : Nat} (hx : x ∈ Δ) : x ∈ Γ ∧ σ[x]? = some (some (.ref (sa σ x))) ∧ sa σ x ∉ bA Δ bs ∧ sa σ x ∉ hid := by
  have h := S.st.io x (List.mem_append_left _ hx)
  obtain ⟨o, _, e, _⟩ := S.st.ow x h
  have d := S.st.dis x h
  exact ⟨h, e, fun z => d (List.mem_append_left _ z), fun z => d (List.mem_append_right _ z)⟩
/-- the pinned slots stand -/
theorem pinned {σ σ' : L2.St} {io Y : List Nat} {A : List Addr} {Δ : List Nat} (p : (Δ ++ (Y ++ io)).map (sa σ) = Δ.map (sa σ') ++ (Y.map (sa σ') ++ A)) : (∀ x ∈ Δ, sa σ x = sa σ' x) ∧ (∀ x ∈ Y, sa σ x = sa σ' x) ∧ io.map (sa σ) = A := by
  rw [List.map_append, List.map_append] at p
  obtain ⟨h1, h2⟩ := List.append_inj p (by rw [List.length_map, List.length_map])
  obtain ⟨h3, h4⟩ := List.append_inj h2 (by rw [List.length_map, List.length_map])
  exact ⟨fun x hx => List.map_inj_left.1 h1 x hx, fun x hx => List.map_inj_left.1 h3 x hx, h4⟩
theorem Cd_congr {B : List Addr} (h1 : ∀ x ∈ Δ, sa σ' x = sa σ x) (h2 : ∀ y ∈ bY β, sa σ' y = sa σ y) (ka : ∀ a ∈ B ++ Δ.map (sa σ), H' a = H a) : Cd C Δ β B σ' H' = Cd C Δ β B σ H := by
  have er : Δ.map (sa σ') = Δ.map (sa σ) := List.map_congr_left fun x hx => h1 x hx
  have ey : (bY β).map (sa σ') = (bY β).map (sa σ) := List.map_congr_left fun x hx => h2 x hx
  unfold Cd
  rw [er, ey, ovr_congr ka]
/-- the trees are let go -/
theorem ST.dropD {B : List Addr} {H1 : Hp} (T : ST K (Cd C Δ β B σ H1) (B ++ hid) Γ ρ σ H) (new : ∀ a ∈ B ++ Δ.map (sa σ), C.H0 a = none) (lent : ∀ y ∈ bY β, y ∉ Δ ∧ C.H0 (sa σ y) = none) (dh : ∀ a ∈ B, a ∉ hid) (ssub : ∀ a ∈ C.hid, a ∈ hid) (hΓ : ∀ i ∈ Γ', i ∈ Γ ∧ i ∉ Δ) (nd : Γ'.Nodup) (io : ∀ i ∈ C.io, i ∈ Γ') : ST K C hid Γ' ρ σ H := by
  have rt : ∀ {x : Nat}, x ∈ Δ → x ∈ Γ ∧ sa σ x ∉ hid := fun {x} hx => by
    have h := T.io x (List.mem_append_left _ hx)
    exact ⟨h, fun z => T.dis x h (List.mem_append_right _ z)⟩
  have sub : ∀ a, a ∈ Ms σ hid Γ' → a ∈ Ms σ (B ++ hid) Γ := fun a ha => by
    rcases mem_Ms.1 ha with q | ⟨i, hi, e⟩
    · exact mem_Ms.2 (.inl (List.mem_append_right _ q))
    · exact mem_Ms.2 (.inr ⟨i, (hΓ i hi).1, e⟩)
  have le : HLe (mask H (Ms σ (B ++ hid) Γ)) (mask H (Ms σ hid Γ')) := .of_same (mask_sub sub)
  have h0 : ∀ a, a ∉ B ++ Δ.map (sa σ) → (Cd C Δ β B σ H1).H0 a = C.H0 a := fun a h => ovr_out h
  have rn : ∀ i ∈ Γ', sa σ i ∉ B ++ Δ.map (sa σ) := fun i hi z => by
    rcases List.mem_append.1 z with z | z
    · exact T.dis i (hΓ i hi).1 (List.mem_append_left _ z)
    · obtain ⟨x, hx, e⟩ := List.mem_map.1 z
      exact (hΓ i hi).2 (T.inj (rt hx).1 (hΓ i hi).1 e ▸ hx)
  have pin : C.io.map (sa σ) = C.ioA := (pinned T.pin).2.2
  have lY : ∀ a ∈ (bY β).map (sa σ), C.H0 a = none := fun a ha => by
    obtain ⟨y, hy, rfl⟩ := List.mem_map.1 ha
    exact (lent y hy).2
  have up : ∀ b u, mask C.H0 (C.hid ++ C.ioA) b = some u → mask (ovr C.H0 (B ++ Δ.map (sa σ)) H1) ((B ++ C.hid) ++ (Δ.map (sa σ) ++ ((bY β).map (sa σ) ++ C.ioA))) b = some u := fun b u e => by
    obtain ⟨e1, e2⟩ := mask_some e
    have nb : b ∉ B ++ Δ.map (sa σ) := fun z => by rw [new b z] at e2; cases e2
    rw [mask_out, ovr_out nb]
    · exact e2
    · intro z
      simp only [List.mem_append] at z nb e1
      rcases z with (z | z) | (z | z | z)
      · exact nb (.inl z)
      · exact e1 (.inl z)
      · exact nb (.inr z)
      · rw [lY b z] at e2; cases e2
      · exact e1 (.inr z)
  have down : ∀ b u, mask H ((B ++ C.hid) ++ (Δ.map (sa σ) ++ ((bY β).map (sa σ) ++ C.ioA))) b = some u → mask H (C.hid ++ C.ioA) b = some u := fun b u e => by
    obtain ⟨e1, e2⟩ := mask_some e
    rw [mask_out]
    · exact e2
    · intro z
      rcases List.mem_append.1 z with z | z
      · exact e1 (List.mem_append_left _ (List.mem_append_right _ z))
      · exact e1 (List.mem_append_right _ (List.mem_append_right _ (List.mem_append_right _ z)))
  have tb : ∀ P, Tb (mask C.H0 (C.hid ++ C.ioA)) P → Tb (mask (ovr C.H0 (B ++ Δ.map (sa σ)) H1) ((B ++ C.hid) ++ (Δ.map (sa σ) ++ ((bY β).map (sa σ) ++ C.ioA)))) P := fun P h => NdefX.TabN.ext h up
  have frm : Frm C.ct (mask C.H0 (C.hid ++ C.ioA)) (mask H (C.hid ++ C.ioA)) := by
    have T' := T.frm
    have down0 : ∀ b u, mask (ovr C.H0 (B ++ Δ.map (sa σ)) H1) ((B ++ C.hid) ++ (Δ.map (sa σ) ++ ((bY β).map (sa σ) ++ C.ioA))) b = some u → mask C.H0 (C.hid ++ C.ioA) b = some u := fun b u e => by
      obtain ⟨e1, e2⟩ := mask_some e
      simp only [List.mem_append, not_or] at e1
      rw [ovr_out (by simp only [List.mem_append, not_or]; exact ⟨e1.1.1, e1.2.1⟩)] at e2
      rw [mask_out (by simp only [List.mem_append, not_or]; exact ⟨e1.1.2, e1.2.2.2⟩)]
      exact e2
    refine ⟨⟨fun b o e n => down b o (T'.o b o (up b o e) n), fun b kv e => ?_, fun b kv e => ?_, fun P h => NdefX.TabN.ext (T'.tb P (tb P h)) down⟩, fun P h => NdefX.TabN.ext (T'.tab P h) down0⟩
    · rcases T'.k b kv (e.elim (fun e => .inl (up _ _ e)) fun ⟨o, e⟩ => .inr ⟨o, up _ _ e⟩) with r | ⟨o, r⟩
      · exact .inl (down _ _ r)
      · exact .inr ⟨o, down _ _ r⟩
    · rcases T'.t b kv (e.elim (fun e => .inl (up _ _ e)) fun ⟨o, e⟩ => .inr ⟨o, up _ _ e⟩) with r | ⟨o, r⟩
      · exact .inl (down _ _ r)
      · exact .inr ⟨o, down _ _ r⟩
  have hn : ∀ a ∈ hid, a ∉ B ++ Δ.map (sa σ) := fun a ha z => by
    rcases List.mem_append.1 z with z | z
    · exact dh a z ha
    · obtain ⟨x, hx, e⟩ := List.mem_map.1 z
      exact (rt hx).2 (by rw [e]; exact ha)
  refine ⟨T.len, ssub, fun a ha => T.trk a (List.mem_append_right _ ha), fun a ha => ?_, nodup_map_on nd fun a ha b hb e => T.inj (hΓ a ha).1 (hΓ b hb).1 e, fun i hi q => T.dis i (hΓ i hi).1 (List.mem_append_right _ q), fun i hi => ?_, frm, fun a ha => ?_, fun a ha => ?_, io, pin, fun i d hi e => ?_, fun i hi => ?_⟩
  · rcases T.tmp a (List.mem_append_right _ ha) with z | z
    · rcases List.mem_append.1 z with z | z
      · exact absurd ha (dh a z)
      · exact .inl z
    · exact .inr ((h0 a (hn a ha)).symm.trans z)
  · rcases T.own i (hΓ i hi).1 with z | z
    · rcases List.mem_append.1 z with z | z
      · exact absurd (List.mem_append_right _ z) (rn i hi)
      · rcases List.mem_append.1 z with z | z
        · exact .inr (lY _ z)
        · exact .inl z
    · exact .inr ((h0 _ (rn i hi)).symm.trans z)
  · exact (T.frh a (List.mem_append_right _ ha)).trans (h0 a (hn a (ssub a ha)))
  · refine T.gro a ?_
    rw [h0 a fun z => ha (new a z)]
    exact ha
  · by_cases q : i ∈ Γ
    · obtain ⟨o, e1, e2, c⟩ := T.ow i q
      rw [e] at e1; cases e1
      refine ⟨_, e2, c.cont.rv ?_ le⟩
      rw [mask_out]
      intro z
      rcases mem_Ms.1 z with z | ⟨j, hj, ej⟩
      · exact T.dis i q (List.mem_append_right _ z)
      · exact hi (T.inj (hΓ j hj).1 q ej ▸ hj)
    · obtain ⟨v, e1, r⟩ := T.sl i d q e
      exact ⟨v, e1, r.mono le⟩
  · obtain ⟨o, e1, e2, c⟩ := T.ow i (hΓ i hi).1
    exact ⟨o, e1, e2, (c.mono (fun _ z => z) le).norw (hΓ i hi).2⟩
theorem DS.drop (S : DS K C Δ β bs hid Γ ρ σ H) (hΓ : ∀ i ∈ Γ', i ∈ Γ ∧ i ∉ Δ) (nd : Γ'.Nodup) (io : ∀ i ∈ C.io, i ∈ Γ') : ST K C hid Γ' (wipeE ρ Δ) σ H :=
  S.st.dropD S.new S.lent S.dh S.sub hΓ nd io
end
end Ip
namespace Ip
open PySem L2
/-- what a value is that comes back: read alone, fresh, or a tree that is owned whole -/
inductive Rm where
  | v (fr : Bool) | tree
def RVal (g : Gx) (H : Hp) (M : List Addr) : Rm → D → V → List Addr → Prop
  | .v fr, d, v, tm => Val g H M fr d v tm
  | .tree, d, v, tm => FT g H none tm d v ∧ tm.Nodup
section
variable (K : PySem.W.Frag) (C : Ad) (W : WX)
/-- where a suite ends: the trees and the owned slots -/
abbrev DG := List Nat × List (Nat × Nat) × List Nat
def EndD (t : Env) (G' : DG) (G : DG) (bs : Nat → List Addr) (σ : L2.St) (H : Hp) (q : L2.St → Hp → Prop) : Prop := ∀ bs' σ' H', DS K C G'.1 G'.2.1 bs' C.hid G'.2.2 t σ' H' → Stp (Ms σ (bA G.1 bs ++ C.hid) G.2.2) (Ms σ' (bA G'.1 bs' ++ C.hid) G'.2.2) C.hid H H' → q σ' H'
def PostDS (G G' Gb : DG) (m : Rm) (Dn : Ends) (bs : Nat → List Addr) (σ : L2.St) (H : Hp) : R Fl → Prop
  | .ok .nx ρ' => EndD K C ρ' G' G bs σ H Dn.nx
  | .ok .bk ρ' => EndD K C ρ' Gb G bs σ H Dn.bk
  | .ok .ct ρ' => EndD K C ρ' Gb G bs σ H Dn.ct
  | .ok (.rt d) ρ' => ∀ v σ' H' tm, ST K C (tm ++ C.hid) C.io ρ' σ' H' → RVal (gx K C) H' (Ms σ' (tm ++ C.hid) C.io) m d v tm → (∀ a ∈ tm, a ∉ Ms σ' C.hid C.io) → Dn.rt v H'
  | .exn e ρ' => ∀ cls od σ' H', ExR (gx K C) H' (mask H' (Ms σ' C.hid C.io)) e cls od → ST K C C.hid C.io ρ' σ' H' → W cls od σ' H'
  | .bad => False
end
section
variable {K : PySem.W.Frag} {C : Ad} {W : WX} {Δ : List Nat} {β : List (Nat × Nat)} {bs : Nat → List Addr} {hid tm : List Addr} {Γ Γ' : List Nat} {ρ ρ' : Env} {σ σ' : L2.St} {H H' : Hp}
theorem DS.len (S : DS K C Δ β bs hid Γ ρ σ H) : ρ.length = σ.length := by rw [← wipeE_length ρ Δ]; exact S.st.len
theorem DS.tl (S : DS K C Δ β bs hid Γ ρ σ H) {M' h : List Addr} (k : Stp (Ms σ (bA Δ bs ++ hid) Γ) M' h H H') : TupLe H H' :=
  ((TupLe.msk S.st.hdM).trans (.of k.le)).trans .unm
end
end Ip
namespace Ip
open PySem L2
def pG (Γ Δ : List Nat) : List Nat := Γ.filter fun i => !Δ.contains i
theorem mem_pG {Γ Δ : List Nat} {i : Nat} : i ∈ pG Γ Δ ↔ i ∈ Γ ∧ i ∉ Δ := by
  unfold pG
  rw [List.mem_filter]
  constructor
  · rintro ⟨h1, h2⟩
    refine ⟨h1, fun z => ?_⟩
    rw [List.contains_iff_mem.2 z] at h2; cases h2
  · rintro ⟨h1, h2⟩
    refine ⟨h1, ?_⟩
    cases q : Δ.contains i with
    | false => rfl
    | true => exact absurd (List.contains_iff_mem.1 q) h2
/-- an activation's frame -/
structure PF (C : Ac) (hid : List Addr) (Γ : List Nat) (n : Nat) (σ : L2.St) (H : Hp) : Prop where
  len : n = σ.length
  sub : ∀ a ∈ C.hid, a ∈ hid
  trk : ∀ a ∈ hid, Hd H a
  tmp : ∀ a ∈ hid, a ∈ C.hid ∨ C.H0 a = none
  own : ∀ i ∈ Γ, sa σ i ∈ C.ioA ∨ C.H0 (sa σ i) = none
  frm : Frm C.ct (mask C.H0 (C.hid ++ C.ioA)) (mask H (C.hid ++ C.ioA))
  frh : ∀ a ∈ C.hid, H a = C.H0 a
  gro : ∀ a, C.H0 a ≠ none → H a ≠ none
  io : ∀ i ∈ C.io, i ∈ Γ
  pin : C.io.map (sa σ) = C.ioA
theorem ST.pf {K : PySem.W.Frag} {C : Ac} {hid : List Addr} {Γ : List Nat} {ρ : Env} {σ : L2.St} {H : Hp} (S : ST K C hid Γ ρ σ H) : PF C hid Γ ρ.length σ H :=
  ⟨S.len, S.sub, S.trk, S.tmp, S.own, S.frm, S.frh, S.gro, S.io, S.pin⟩
structure DB (K : PySem.W.Frag) (C : Ad) (Δ : List Nat) (β : List (Nat × Nat)) (B hid : List Addr) (Γ : List Nat) (ρ : Env) (σ : L2.St) (H : Hp) : Prop where
  pf : PF C hid (pG Γ Δ) ρ.length σ H
  rw0 : C.raw = []
  sl : ∀ i d, i ∉ Γ → ρ[i]? = some (some d) → ∃ v, σ[i]? = some (some v) ∧ RV (gx K C) (mask H (Ms σ (B ++ hid) Γ)) d v
  ow : ∀ i, i ∈ Γ → i ∉ Δ → ∃ o, ρ[i]? = some o ∧ σ[i]? = some (some (.ref (sa σ i))) ∧ ContR (gx K C) H (mask H (Ms σ (B ++ hid) Γ)) (sa σ i) (C.H0 (sa σ i)) (i ∈ C.raw) o
  rt : ∀ x ∈ Δ, x ∈ Γ ∧ x < ρ.length ∧ σ[x]? = some (some (.ref (sa σ x))) ∧ Hd H (sa σ x)
  nd : (Γ.map (sa σ)).Nodup
  dis : ∀ i ∈ Γ, sa σ i ∉ B ++ hid
  hd : ∀ a ∈ B, Hd H a
  dh : ∀ a ∈ B, a ∉ hid
  new : ∀ a ∈ B ++ Δ.map (sa σ), C.H0 a = none
  lent : ∀ y ∈ bY β, y ∈ Γ ∧ y ∉ Δ ∧ C.H0 (sa σ y) = none
  pt : ∀ p ∈ C.pt, p.1 ∈ Δ ∧ sa σ p.1 = p.2
section
variable {K : PySem.W.Frag} {C : Ad} {Δ : List Nat} {β : List (Nat × Nat)} {bs : Nat → List Addr} {B hid tm : List Addr} {Γ Γ' : List Nat} {ρ ρ' : Env} {σ σ' : L2.St} {H H' : Hp}
theorem nodup_filter {α : Type} {p : α → Bool} {l : List α} (h : l.Nodup) : (l.filter p).Nodup := List.Nodup.sublist List.filter_sublist h
theorem nodup_slots (h : (Γ.map (sa σ)).Nodup) : Γ.Nodup := nodup_of_map h
theorem DB.inj (S : DB K C Δ β B hid Γ ρ σ H) {i j : Nat} (hi : i ∈ Γ) (hj : j ∈ Γ) (e : sa σ i = sa σ j) : i = j := by
  have nd := S.nd
  clear S
  induction Γ with
  | nil => cases hi
  | cons k r ih =>
    rw [List.map_cons, List.nodup_cons] at nd
    rcases List.mem_cons.mp hi with rfl | hi'
    · rcases List.mem_cons.mp hj with rfl | hj'
      · rfl
      · exact absurd (e ▸ List.mem_map_of_mem hj') nd.1
    · rcases List.mem_cons.mp hj with rfl | hj'
      · exact absurd (e ▸ List.mem_map_of_mem hi') nd.1
      · exact ih hi' hj' nd.2
/-- told plainly -/
theorem DS.db (S : DS K C Δ β bs hid Γ ρ σ H) (ok : ∀ i ∈ C.io, i ∉ Δ) (rw0 : C.raw = []) : DB K C Δ β (bA Δ bs) hid Γ ρ σ H where
  pf := by
    have := (S.drop (fun i hi => mem_pG.1 hi) (nodup_filter (nodup_slots S.st.nd)) fun i hi => mem_pG.2 ⟨S.st.io i (List.mem_append_right _ (List.mem_append_right _ hi)), ok i hi⟩).pf
    rwa [wipeE_length] at this
  rw0 := rw0
  sl i d hi e := by
    have nx : i ∉ Δ := fun z => hi (S.rt z).1
    exact S.st.sl i d hi (by rw [wipeE_out nx]; exact e)
  ow i hi nx := by
    obtain ⟨o, e1, e2, c⟩ := S.st.ow i hi
    rw [wipeE_out nx] at e1
    exact ⟨o, e1, e2, c.norw nx⟩
  rt x hx := by
    obtain ⟨d, e, f⟩ := S.ft x hx
    exact ⟨(S.rt hx).1, (List.getElem?_eq_some_iff.1 e).1, (S.rt hx).2.1, f.hd _ List.mem_cons_self⟩
  nd := S.st.nd
  dis := S.st.dis
  hd a ha := S.st.trk a (List.mem_append_left _ ha)
  dh := S.dh
  new := S.new
  lent y hy := ⟨S.st.io y (List.mem_append_right _ (List.mem_append_left _ hy)), S.lent y hy⟩
  pt := S.pt
/-- and back: ordinary steps may be taken -/
theorem DB.st (S : DB K C Δ β B hid Γ ρ σ H) : ST K (Cd C Δ β B σ H) (B ++ hid) Γ (wipeE ρ Δ) σ H := by
  have T := S.pf
  have nB : ∀ i ∈ Γ, i ∉ Δ → sa σ i ∉ B ++ Δ.map (sa σ) := fun i hi nx z => by
    rcases List.mem_append.1 z with z | z
    · exact S.dis i hi (List.mem_append_left _ z)
    · obtain ⟨x, hx, e⟩ := List.mem_map.1 z
      exact nx (S.inj (S.rt x hx).1 hi e ▸ hx)
  have hn : ∀ a ∈ hid, a ∉ B ++ Δ.map (sa σ) := fun a ha z => by
    rcases List.mem_append.1 z with z | z
    · exact S.dh a z ha
    · obtain ⟨x, hx, e⟩ := List.mem_map.1 z
      exact S.dis x (S.rt x hx).1 (List.mem_append_right _ (by rw [e]; exact ha))
  have hBR : ∀ a ∈ B ++ Δ.map (sa σ), Hd H a := fun a ha => by
    rcases List.mem_append.1 ha with z | z
    · exact S.hd a z
    · obtain ⟨x, hx, rfl⟩ := List.mem_map.1 z
      exact (S.rt x hx).2.2.2
  have up0 : ∀ b u, mask (ovr C.H0 (B ++ Δ.map (sa σ)) H) ((B ++ C.hid) ++ (Δ.map (sa σ) ++ ((bY β).map (sa σ) ++ C.ioA))) b = some u → mask C.H0 (C.hid ++ C.ioA) b = some u ∧ b ∉ B ++ Δ.map (sa σ) ∧ b ∉ (bY β).map (sa σ) := fun b u e => by
    obtain ⟨e1, e2⟩ := mask_some e
    simp only [List.mem_append, not_or] at e1
    have nb : b ∉ B ++ Δ.map (sa σ) := by simp only [List.mem_append, not_or]; exact ⟨e1.1.1, e1.2.1⟩
    rw [ovr_out nb] at e2
    exact ⟨by rw [mask_out (by simp only [List.mem_append, not_or]; exact ⟨e1.1.2, e1.2.2.2⟩)]; exact e2, nb, fun z => e1.2.2.1 (List.mem_map.1 z |> fun ⟨y, hy, e⟩ => by simpa using ⟨y, hy, e⟩)⟩
  have hY : ∀ a ∈ (bY β).map (sa σ), Hd H a ∧ C.H0 a = none := fun a ha => by
    obtain ⟨y, hy, rfl⟩ := List.mem_map.1 ha
    obtain ⟨l1, l2, l3⟩ := S.lent y hy
    obtain ⟨o, _, _, c⟩ := S.ow y l1 l2
    exact ⟨c.hd, l3⟩
  have dn : ∀ b u, b ∉ B ++ Δ.map (sa σ) → b ∉ (bY β).map (sa σ) → mask H (C.hid ++ C.ioA) b = some u → mask H ((B ++ C.hid) ++ (Δ.map (sa σ) ++ ((bY β).map (sa σ) ++ C.ioA))) b = some u := fun b u nb ny e => by
    obtain ⟨e1, e2⟩ := mask_some e
    simp only [List.mem_append, not_or] at e1 nb
    rw [mask_out (by simp only [List.mem_append, not_or]; exact ⟨⟨nb.1, e1.1⟩, nb.2, ny, e1.2⟩)]
    exact e2
  have no : ∀ b u, mask H (C.hid ++ C.ioA) b = some u → ¬ Ow u → b ∉ B ++ Δ.map (sa σ) ∧ b ∉ (bY β).map (sa σ) := fun b u e n => ⟨fun z => n ((hBR b z).2 u (mask_some e).2), fun z => n ((hY b z).1.2 u (mask_some e).2)⟩
  have up1 : ∀ b u, mask C.H0 (C.hid ++ C.ioA) b = some u → mask (ovr C.H0 (B ++ Δ.map (sa σ)) H) ((B ++ C.hid) ++ (Δ.map (sa σ) ++ ((bY β).map (sa σ) ++ C.ioA))) b = some u := fun b u e => by
    obtain ⟨e1, e2⟩ := mask_some e
    have nb : b ∉ B ++ Δ.map (sa σ) := fun z => by rw [S.new b z] at e2; cases e2
    have ny : b ∉ (bY β).map (sa σ) := fun z => by rw [(hY b z).2] at e2; cases e2
    rw [mask_out, ovr_out nb]
    · exact e2
    · intro z
      rcases List.mem_append.1 z with z | z
      · rcases List.mem_append.1 z with z | z
        · exact nb (List.mem_append_left _ z)
        · exact e1 (List.mem_append_left _ z)
      · rcases List.mem_append.1 z with z | z
        · exact nb (List.mem_append_right _ z)
        · rcases List.mem_append.1 z with z | z
          · exact ny z
          · exact e1 (List.mem_append_right _ z)
  have dnT : ∀ P, Tb (mask H (C.hid ++ C.ioA)) P → Tb (mask H ((B ++ C.hid) ++ (Δ.map (sa σ) ++ ((bY β).map (sa σ) ++ C.ioA)))) P := fun P h => by
    obtain ⟨ps, e, t, c⟩ := h
    refine ⟨ps, dn _ _ (no _ _ e fun z => z).1 (no _ _ e fun z => z).2 e, t, fun pos cv hc => ?_⟩
    obtain ⟨c', e1, e2⟩ := c pos cv hc
    exact ⟨c', e1, dn _ _ (no _ _ e2 fun z => z).1 (no _ _ e2 fun z => z).2 e2⟩
  refine ⟨(wipeE_length ρ Δ).trans T.len, fun a ha => ?_, fun a ha => ?_, fun a ha => ?_, S.nd, S.dis, fun i hi => ?_, ⟨⟨fun b o e n => ?_, fun b kv e => ?_, fun b kv e => ?_, fun P h => dnT P (T.frm.tb P (NdefX.TabN.ext h fun b u e => (up0 b u e).1))⟩, fun P h => NdefX.TabN.ext (T.frm.tab P h) up1⟩, fun a ha => ?_, fun a ha => ?_, fun i hi => ?_, ?_, fun i d hi e => ?_, fun i hi => ?_⟩
  · rcases List.mem_append.1 ha with z | z
    · exact List.mem_append_left _ z
    · exact List.mem_append_right _ (T.sub a z)
  · rcases List.mem_append.1 ha with z | z
    · exact S.hd a z
    · exact T.trk a z
  · rcases List.mem_append.1 ha with z | z
    · exact .inl (List.mem_append_left _ z)
    · rcases T.tmp a z with y | y
      · exact .inl (List.mem_append_right _ y)
      · exact .inr ((ovr_out (hn a z)).trans y)
  · by_cases q : i ∈ Δ
    · exact .inl (List.mem_append_left _ (List.mem_map_of_mem q))
    · rcases T.own i (mem_pG.2 ⟨hi, q⟩) with y | y
      · exact .inl (List.mem_append_right _ (List.mem_append_right _ y))
      · exact .inr ((ovr_out (nB i hi q)).trans y)
  · obtain ⟨e1, nb, ny⟩ := up0 b o e
    exact dn b o nb ny (T.frm.o b o e1 n)
  · obtain ⟨nb, ny⟩ : b ∉ B ++ Δ.map (sa σ) ∧ b ∉ (bY β).map (sa σ) := e.elim (fun e => (up0 _ _ e).2) fun ⟨_, e⟩ => (up0 _ _ e).2
    rcases T.frm.k b kv (e.elim (fun e => .inl (up0 _ _ e).1) fun ⟨o, e⟩ => .inr ⟨o, (up0 _ _ e).1⟩) with r | ⟨o, r⟩
    · exact .inl (dn _ _ nb ny r)
    · exact .inr ⟨o, dn _ _ nb ny r⟩
  · obtain ⟨nb, ny⟩ : b ∉ B ++ Δ.map (sa σ) ∧ b ∉ (bY β).map (sa σ) := e.elim (fun e => (up0 _ _ e).2) fun ⟨_, e⟩ => (up0 _ _ e).2
    rcases T.frm.t b kv (e.elim (fun e => .inl (up0 _ _ e).1) fun ⟨o, e⟩ => .inr ⟨o, (up0 _ _ e).1⟩) with r | ⟨o, r⟩
    · exact .inl (dn _ _ nb ny r)
    · exact .inr ⟨o, dn _ _ nb ny r⟩
  · rcases List.mem_append.1 ha with z | z
    · exact (ovr_in (List.mem_append_left _ z)).symm
    · exact (T.frh a z).trans (ovr_out (hn a (T.sub a z))).symm
  · by_cases q : a ∈ B ++ Δ.map (sa σ)
    · exact (hBR a q).1
    · refine T.gro a fun z => ha ?_
      exact (ovr_out q).trans z
  · rcases List.mem_append.1 hi with z | z
    · exact (S.rt i z).1
    · rcases List.mem_append.1 z with z | z
      · exact (S.lent i z).1
      · exact (mem_pG.1 (T.io i z)).1
  · rw [List.map_append, List.map_append]
    show _ = Δ.map (sa σ) ++ ((bY β).map (sa σ) ++ C.ioA)
    rw [T.pin]
  · have nx : i ∉ Δ := fun z => hi (S.rt i z).1
    rw [wipeE_out nx] at e
    exact S.sl i d hi e
  · by_cases q : i ∈ Δ
    · obtain ⟨_, hl, e2, h⟩ := S.rt i q
      have : (wipeE ρ Δ)[i]? = some none := by
        cases z : (wipeE ρ Δ)[i]? with
        | none => rw [List.getElem?_eq_none_iff, wipeE_length] at z; omega
        | some o =>
          cases o with
          | none => rfl
          | some d => exact absurd z (wipeE_in q)
      exact ⟨none, this, e2, .raw q h (ovr_in (List.mem_append_right _ (List.mem_map_of_mem q))).symm⟩
    · obtain ⟨o, e1, e2, c⟩ := S.ow i hi q
      refine ⟨o, by rw [wipeE_out q]; exact e1, e2, ?_⟩
      cases c with
      | own c => exact .own c
      | raw r h z =>
        rw [S.rw0] at r
        exact absurd r List.not_mem_nil
theorem DB.ds (S : DB K C Δ β (bA Δ bs) hid Γ ρ σ H) (ft : ∀ x ∈ Δ, ∃ d, ρ[x]? = some (some d) ∧ FT (gx K C) H (hol β σ x) (sa σ x :: bs x) d (.ref (sa σ x))) (nd : NdB Δ bs) : DS K C Δ β bs hid Γ ρ σ H :=
  ⟨S.st, ft, nd, S.new, fun y hy => (S.lent y hy).2, S.dh, S.pf.sub, S.pt⟩
end
end Ip
namespace Ip
open PySem L2 PySem.Spec PyProof.Rows
section
variable {X : Cx} {C : Ad} {W : WX} {G G1 G2 G' Gb : DG} {Δ : List Nat} {β : List (Nat × Nat)} {Γ Γ' Γ1 : List Nat} {m : Rm} {fr : Bool} {e c tg iter : Expr} {st : Stmt} {sts A B body : List Stmt} {pos : Pos} {f : Env → R D} {fb : Env → R Bool} {fs gs : Env → R Fl} {ts : List Nat} {g : D → Env → Option Env} {fi : Env → R (List D)}
theorem PostDS.pre {Dn : Ends} {bs bs1 : Nat → List Addr} {σ σ1 : L2.St} {H H1 : Hp} {r : R Fl} (k : Stp (Ms σ (bA G.1 bs ++ C.hid) G.2.2) (Ms σ1 (bA G1.1 bs1 ++ C.hid) G1.2.2) C.hid H H1) (p : PostDS X.K C W G G2 Gb m Dn bs σ H r) : PostDS X.K C W G1 G2 Gb m Dn bs1 σ1 H1 r := by
  cases r with
  | bad => exact p
  | exn e ρ => exact p
  | ok d ρ =>
    cases d with
    | nx => exact fun bs' σ' H' S' k' => p bs' σ' H' S' (k.trans k' fun _ z => z)
    | bk => exact fun bs' σ' H' S' k' => p bs' σ' H' S' (k.trans k' fun _ z => z)
    | ct => exact fun bs' σ' H' S' k' => p bs' σ' H' S' (k.trans k' fun _ z => z)
    | rt d => exact p
end
end Ip
namespace Ip
open PySem L2
section
variable {K : PySem.W.Frag} {C : Ad} {Δ Δ' : List Nat} {β : List (Nat × Nat)} {B B' Bx hid tm : List Addr} {Γ Γ' : List Nat} {ρ ρ' : Env} {σ σ' : L2.St} {H H' : Hp} {x : Nat} {a : Addr} {d : D}
/-- nodes of the trees are changed, some are left behind -/
theorem DB.heap (S : DB K C Δ β B hid Γ ρ σ H) (he : ∀ a, a ∉ B ++ Δ.map (sa σ) → H' a = H a) (hs : ∀ a ∈ B', a ∈ B) (hd : ∀ a ∈ B' ++ Δ.map (sa σ), Hd H' a) (hk : ∀ a, H a ≠ none → H' a ≠ none) (hl : ρ'.length = ρ.length) (hρ : ∀ i, i ∉ Δ → ρ'[i]? = ρ[i]?) :
    DB K C Δ β B' hid Γ ρ' σ H' := by
  have nB : ∀ i ∈ Γ, i ∉ Δ → sa σ i ∉ B ++ Δ.map (sa σ) := fun i hi nx z => by
    rcases List.mem_append.1 z with z | z
    · exact S.dis i hi (List.mem_append_left _ z)
    · obtain ⟨x, hx, e⟩ := List.mem_map.1 z
      exact nx (S.inj (S.rt x hx).1 hi e ▸ hx)
  have hn : ∀ a ∈ hid, a ∉ B ++ Δ.map (sa σ) := fun a ha z => by
    rcases List.mem_append.1 z with z | z
    · exact S.dh a z ha
    · obtain ⟨x, hx, e⟩ := List.mem_map.1 z
      exact S.dis x (S.rt x hx).1 (List.mem_append_right _ (by rw [e]; exact ha))
  have hBR : ∀ a ∈ B ++ Δ.map (sa σ), Hd H a := fun a ha => by
    rcases List.mem_append.1 ha with z | z
    · exact S.hd a z
    · obtain ⟨x, hx, rfl⟩ := List.mem_map.1 z
      exact (S.rt x hx).2.2.2
  have mM : ∀ b, b ∈ B ++ Δ.map (sa σ) → b ∈ Ms σ (B ++ hid) Γ := fun b hb => by
    rcases List.mem_append.1 hb with z | z
    · exact mem_Ms.2 (.inl (List.mem_append_left _ z))
    · obtain ⟨x, hx, e⟩ := List.mem_map.1 z
      exact mem_Ms.2 (.inr ⟨x, (S.rt x hx).1, e⟩)
  have sub : ∀ b ∈ Ms σ (B' ++ hid) Γ, b ∈ Ms σ (B ++ hid) Γ := Ms_subH fun b hb => by
    rcases List.mem_append.1 hb with z | z
    · exact List.mem_append_left _ (hs b z)
    · exact List.mem_append_right _ z
  have le : HLe (mask H (Ms σ (B ++ hid) Γ)) (mask H' (Ms σ (B' ++ hid) Γ)) := .of_same fun b o e => by
    obtain ⟨e1, e2⟩ := mask_some e
    rw [mask_out fun z => e1 (sub b z), he b fun z => e1 (mM b z)]
    exact e2
  have up : ∀ b o, b ∉ B ++ Δ.map (sa σ) → mask H (C.hid ++ C.ioA) b = some o → mask H' (C.hid ++ C.ioA) b = some o := fun b o n e => by
    obtain ⟨e1, e2⟩ := mask_some e
    rw [mask_out e1, he b n]; exact e2
  have no : ∀ b u, mask H (C.hid ++ C.ioA) b = some u → ¬ Ow u → b ∉ B ++ Δ.map (sa σ) := fun b u e n z => n ((hBR b z).2 u (mask_some e).2)
  have n0 : ∀ b u, mask C.H0 (C.hid ++ C.ioA) b = some u → b ∉ B ++ Δ.map (sa σ) := fun b u e z => by
    have := (mask_some e).2
    rw [S.new b z] at this; cases this
  have frm : Frm C.ct (mask C.H0 (C.hid ++ C.ioA)) (mask H' (C.hid ++ C.ioA)) := by
    refine ⟨⟨fun b o e n => up b o (n0 b o e) (S.pf.frm.o b o e n), fun b kv e => ?_, fun b kv e => ?_, fun P h => ?_⟩, S.pf.frm.tab⟩
    · have nb : b ∉ B ++ Δ.map (sa σ) := e.elim (fun e => n0 _ _ e) fun ⟨_, e⟩ => n0 _ _ e
      rcases S.pf.frm.k b kv e with r | ⟨o, r⟩
      · exact .inl (up _ _ nb r)
      · exact .inr ⟨o, up _ _ nb r⟩
    · have nb : b ∉ B ++ Δ.map (sa σ) := e.elim (fun e => n0 _ _ e) fun ⟨_, e⟩ => n0 _ _ e
      rcases S.pf.frm.t b kv e with r | ⟨o, r⟩
      · exact .inl (up _ _ nb r)
      · exact .inr ⟨o, up _ _ nb r⟩
    · obtain ⟨ps, e, t, c⟩ := S.pf.frm.tb P h
      refine ⟨ps, up _ _ (no _ _ e fun z => z) e, t, fun pos cv hc => ?_⟩
      obtain ⟨c', e1, e2⟩ := c pos cv hc
      exact ⟨c', e1, up _ _ (no _ _ e2 fun z => z) e2⟩
  refine ⟨⟨hl.trans S.pf.len, S.pf.sub, fun a ha => (S.pf.trk a ha).of (he a (hn a ha)), S.pf.tmp, S.pf.own, frm, fun a ha => (he a (hn a (S.pf.sub a ha))).trans (S.pf.frh a ha), fun a ha => hk a (S.pf.gro a ha), S.pf.io, S.pf.pin⟩, S.rw0, fun i d hi e => ?_, fun i hi nx => ?_, fun x hx => ?_, S.nd, fun i hi z => ?_, fun a ha => hd a (List.mem_append_left _ ha), fun a ha => S.dh a (hs a ha), fun a ha => ?_, S.lent, S.pt⟩
  · rw [hρ i fun z => hi (S.rt i z).1] at e
    obtain ⟨v, e1, r⟩ := S.sl i d hi e
    exact ⟨v, e1, r.mono le⟩
  · obtain ⟨o, e1, e2, c⟩ := S.ow i hi nx
    exact ⟨o, by rw [hρ i nx]; exact e1, e2, c.mono (fun o z => (he _ (nB i hi nx)).trans z) le⟩
  · obtain ⟨h1, h2, h3, h4⟩ := S.rt x hx
    exact ⟨h1, by rw [hl]; exact h2, h3, hd _ (List.mem_append_right _ (List.mem_map_of_mem hx))⟩
  · rcases List.mem_append.1 z with z | z
    · exact S.dis i hi (List.mem_append_left _ (hs _ z))
    · exact S.dis i hi (List.mem_append_right _ z)
  · rcases List.mem_append.1 ha with z | z
    · exact S.new a (List.mem_append_left _ (hs a z))
    · exact S.new a (List.mem_append_right _ z)
end
end Ip
namespace Ip
open PySem L2
section
variable {K : PySem.W.Frag} {C : Ad} {Δ : List Nat} {β : List (Nat × Nat)} {bs : Nat → List Addr} {B B' Bx hid tm : List Addr} {Γ Γ' : List Nat} {ρ ρ' : Env} {σ σ' : L2.St} {H H' : Hp} {x : Nat} {a : Addr} {d : D}
/-- temporaries are taken among the trees' nodes -/
theorem DB.absorb (S : DB K C Δ β B (tm ++ hid) Γ ρ σ H) (th : ∀ b ∈ tm, b ∉ hid) (hs : ∀ b ∈ C.hid, b ∈ hid) (hB : ∀ b, b ∈ B' ↔ b ∈ tm ∨ b ∈ B) : DB K C Δ β B' hid Γ ρ σ H := by
  have t0 : ∀ b ∈ tm, C.H0 b = none := fun b hb => (S.pf.tmp b (List.mem_append_left _ hb)).resolve_left fun z => th b hb (hs b z)
  have eM : ∀ b, b ∈ B' ++ hid ↔ b ∈ B ++ (tm ++ hid) := fun b => by
    simp only [List.mem_append, hB]
    constructor
    · rintro ((h | h) | h)
      · exact .inr (.inl h)
      · exact .inl h
      · exact .inr (.inr h)
    · rintro (h | h | h)
      · exact .inl (.inr h)
      · exact .inl (.inl h)
      · exact .inr h
  have em : mask H (Ms σ (B' ++ hid) Γ) = mask H (Ms σ (B ++ (tm ++ hid)) Γ) := mask_congr fun b => by rw [mem_Ms, mem_Ms, eM]
  refine ⟨⟨S.pf.len, hs, fun b hb => S.pf.trk b (List.mem_append_right _ hb), fun b hb => S.pf.tmp b (List.mem_append_right _ hb), S.pf.own, S.pf.frm, S.pf.frh, S.pf.gro, S.pf.io, S.pf.pin⟩, S.rw0, fun i d hi e => by rw [em]; exact S.sl i d hi e, fun i hi nx => by rw [em]; exact S.ow i hi nx, S.rt, S.nd, fun i hi z => S.dis i hi ((eM _).1 z), fun b hb => ?_, fun b hb z => ?_, fun b hb => ?_, S.lent, S.pt⟩
  · rcases (hB b).1 hb with z | z
    · exact S.pf.trk b (List.mem_append_left _ z)
    · exact S.hd b z
  · rcases (hB b).1 hb with y | y
    · exact th b y z
    · exact S.dh b y (List.mem_append_right _ z)
  · rcases List.mem_append.1 hb with z | z
    · rcases (hB b).1 z with z | z
      · exact t0 b z
      · exact S.new b (List.mem_append_left _ z)
    · exact S.new b (List.mem_append_right _ z)
end
end Ip
namespace Ip
open PySem L2 PySem.Spec PyProof.Rows
theorem RVal.mono {g : Gx} {H : Hp} {M M' tm : List Addr} {m : Rm} {d : D} {v : V} (h : RVal g H M m d v tm) (s : ∀ a ∈ M', a ∈ M) : RVal g H M' m d v tm := by
  cases m with
  | v fr =>
    cases h with
    | fz r n => exact .fz (r.mono (.of_same (mask_sub s))) n
    | fr c => exact .fr (c.mono (fun _ z => z) (.of_same (mask_sub s)))
  | tree => exact h
end Ip
namespace Ip
open PySem L2 PySem.Spec PyProof.Rows
section
variable {K : PySem.W.Frag} {C : Ad} {Δ : List Nat} {β : List (Nat × Nat)} {bs : Nat → List Addr} {hid tm : List Addr} {Γ Γ' : List Nat} {ρ ρ' : Env} {σ σ' : L2.St} {H H' : Hp} {i : Nat} {a : Addr} {d d' : D}
/-- the tree in slot i is another one now -/
def setB (bs : Nat → List Addr) (i : Nat) (Bi : List Addr) : Nat → List Addr := fun y => if y = i then Bi else bs y
theorem setB_at {bs : Nat → List Addr} {i : Nat} {Bi : List Addr} : setB bs i Bi i = Bi := if_pos rfl
theorem setB_ne {bs : Nat → List Addr} {i y : Nat} {Bi : List Addr} (h : y ≠ i) : setB bs i Bi y = bs y := if_neg h
/-- what the heap's change at one tree asks -/
theorem DS.write (S : DS K C Δ β bs (tm ++ hid) Γ ρ σ H) (o1 : ∀ j ∈ C.io, j ∉ Δ) (rw0 : C.raw = []) (hi : i ∈ Δ) (hs : ∀ b ∈ C.hid, b ∈ hid) (th : ∀ b ∈ tm, b ∉ hid) {Bi : List Addr} (he : ∀ b, b ∉ sa σ i :: (bs i ++ tm) → H' b = H b) (hsub : ∀ b ∈ Bi, b ∈ bs i ++ tm) (nd : Bi.Nodup)
    (f : FT (gx K C) H' (hol β σ i) (sa σ i :: Bi) d' (.ref (sa σ i))) (hk : ∀ b, H b ≠ none → H' b ≠ none) : DS K C Δ β (setB bs i Bi) hid Γ (ρ.set i (some d')) σ H' := by
  have A := (S.db o1 rw0).absorb (B' := tm ++ bA Δ bs) th hs fun b => List.mem_append
  have mB : ∀ b, b ∈ bA Δ (setB bs i Bi) → b ∈ tm ++ bA Δ bs := fun b hb => by
    obtain ⟨y, hy, h⟩ := mem_bA.1 hb
    by_cases q : y = i
    · subst q
      rw [setB_at] at h
      rcases List.mem_append.1 (hsub b h) with z | z
      · exact List.mem_append_right _ (mem_bA.2 ⟨y, hy, z⟩)
      · exact List.mem_append_left _ z
    · rw [setB_ne q] at h
      exact List.mem_append_right _ (mem_bA.2 ⟨y, hy, h⟩)
  have rt := S.rt hi
  have il : i < ρ.length := by
    obtain ⟨d0, e0, _⟩ := S.ft i hi
    exact (List.getElem?_eq_some_iff.1 e0).1
  -- the other trees stand
  have oth : ∀ y ∈ Δ, y ≠ i → (∀ b ∈ bs y, H' b = H b) ∧ H' (sa σ y) = H (sa σ y) := fun y hy q => by
    have ry := S.rt hy
    have nr : sa σ y ≠ sa σ i := fun e => q ((S.db o1 rw0).inj ry.1 rt.1 e)
    refine ⟨fun b hb => he b fun z => ?_, he _ fun z => ?_⟩
    · rcases List.mem_cons.1 z with z | z
      · exact rt.2.2.1 (z ▸ mem_bA.2 ⟨y, hy, hb⟩)
      · rcases List.mem_append.1 z with z | z
        · exact S.nd.two y hy i hi q b hb z
        · exact S.dh b (mem_bA.2 ⟨y, hy, hb⟩) (List.mem_append_left _ z)
    · rcases List.mem_cons.1 z with z | z
      · exact nr z
      · rcases List.mem_append.1 z with z | z
        · exact ry.2.2.1 (mem_bA.2 ⟨i, hi, z⟩)
        · exact ry.2.2.2 (List.mem_append_left _ z)
  have tl : TupLe H H' := fun b vs e => by
    rw [he b fun z => ?_]; exact e
    have hb : Hd H b := by
      rcases List.mem_cons.1 z with z | z
      · obtain ⟨_, _, _, h⟩ := (S.db o1 rw0).rt i hi
        rw [z]; exact h
      · rcases List.mem_append.1 z with z | z
        · exact (S.db o1 rw0).hd b (mem_bA.2 ⟨i, hi, z⟩)
        · exact (S.db o1 rw0).pf.trk b (List.mem_append_left _ z)
    exact hb.2 _ e
  have A2 : DB K C Δ β (bA Δ (setB bs i Bi)) hid Γ (ρ.set i (some d')) σ H' := by
    refine A.heap (fun b hb => he b fun z => hb ?_) mB (fun b hb => ?_) hk (List.length_set ..) fun j hj => List.getElem?_set_ne (show i ≠ j from fun e => hj (e ▸ hi))
    · rcases List.mem_cons.1 z with z | z
      · exact List.mem_append_right _ (List.mem_map.2 ⟨i, hi, z.symm⟩)
      · rcases List.mem_append.1 z with z | z
        · exact List.mem_append_left _ (List.mem_append_right _ (mem_bA.2 ⟨i, hi, z⟩))
        · exact List.mem_append_left _ (List.mem_append_left _ z)
    · rcases List.mem_append.1 hb with z | z
      · obtain ⟨y, hy, h⟩ := mem_bA.1 z
        by_cases q : y = i
        · subst q
          rw [setB_at] at h
          exact f.hd b (List.mem_cons_of_mem _ h)
        · rw [setB_ne q] at h
          exact ((S.db o1 rw0).hd b (mem_bA.2 ⟨y, hy, h⟩)).of ((oth y hy q).1 b h)
      · obtain ⟨y, hy, rfl⟩ := List.mem_map.1 z
        by_cases q : y = i
        · subst q; exact f.hd _ List.mem_cons_self
        · obtain ⟨_, _, _, h⟩ := (S.db o1 rw0).rt y hy
          exact h.of (oth y hy q).2
  refine A2.ds (fun y hy => ?_) ⟨fun y hy => ?_, fun y hy z hz ne b hb => ?_⟩
  · by_cases q : y = i
    · subst q
      refine ⟨d', List.getElem?_set_self il, ?_⟩
      rw [setB_at]; exact f
    · obtain ⟨dy, e, fy⟩ := S.ft y hy
      refine ⟨dy, by rw [List.getElem?_set_ne (Ne.symm q)]; exact e, ?_⟩
      rw [setB_ne q]
      refine fy.mono tl fun b hb => ?_
      rcases List.mem_cons.1 hb with rfl | hb
      · exact (oth y hy q).2
      · exact (oth y hy q).1 b hb
  · by_cases q : y = i
    · subst q; rw [setB_at]; exact nd
    · rw [setB_ne q]; exact S.nd.one y hy
  · have far : ∀ {w : Nat}, w ∈ Δ → w ≠ i → ∀ b ∈ bs w, b ∉ Bi := fun {w} hw q b hb z => by
      rcases List.mem_append.1 (hsub b z) with z | z
      · exact S.nd.two w hw i hi q b hb z
      · exact S.dh b (mem_bA.2 ⟨w, hw, hb⟩) (List.mem_append_left _ z)
    by_cases q : y = i
    · rw [q, setB_at] at hb
      have qz : z ≠ i := fun w => ne (q.trans w.symm)
      rw [setB_ne qz]
      exact fun w => far hz qz b w hb
    · rw [setB_ne q] at hb
      by_cases qz : z = i
      · rw [qz, setB_at]; exact far hy q b hb
      · rw [setB_ne qz]; exact S.nd.two y hy z hz ne b hb
/-- what is kept behind it -/
theorem DS.writeStp (S : DS K C Δ β bs (tm ++ hid) Γ ρ σ H) (o1 : ∀ j ∈ C.io, j ∉ Δ) (rw0 : C.raw = []) (hi : i ∈ Δ) (th : ∀ b ∈ tm, b ∉ hid) {Bi : List Addr} (he : ∀ b, b ∉ sa σ i :: (bs i ++ tm) → H' b = H b) (hsub : ∀ b ∈ Bi, b ∈ bs i ++ tm) :
    Stp (Ms σ (tm ++ (bA Δ bs ++ hid)) Γ) (Ms σ (bA Δ (setB bs i Bi) ++ hid) Γ) hid H H' := by
  have rt := S.rt hi
  have mM : ∀ b, b ∈ sa σ i :: (bs i ++ tm) → b ∈ Ms σ (tm ++ (bA Δ bs ++ hid)) Γ := fun b hb => by
    rcases List.mem_cons.1 hb with rfl | z
    · exact mem_Ms.2 (.inr ⟨i, rt.1, rfl⟩)
    · refine mem_Ms.2 (.inl ?_)
      rcases List.mem_append.1 z with z | z
      · exact List.mem_append_right _ (List.mem_append_left _ (mem_bA.2 ⟨i, hi, z⟩))
      · exact List.mem_append_left _ z
  refine ⟨.of_same fun b o e => ?_, fun b hb => he b fun z => ?_⟩
  · obtain ⟨e1, e2⟩ := mask_some e
    rw [mask_out, he b fun z => e1 (mM b z)]
    · exact e2
    · intro z
      refine e1 ?_
      rcases mem_Ms.1 z with z | ⟨j, hj, ej⟩
      · refine mem_Ms.2 (.inl ?_)
        rcases List.mem_append.1 z with z | z
        · obtain ⟨y, hy, h⟩ := mem_bA.1 z
          by_cases q : y = i
          · subst q
            rw [setB_at] at h
            rcases List.mem_append.1 (hsub b h) with z | z
            · exact List.mem_append_right _ (List.mem_append_left _ (mem_bA.2 ⟨y, hy, z⟩))
            · exact List.mem_append_left _ z
          · rw [setB_ne q] at h
            exact List.mem_append_right _ (List.mem_append_left _ (mem_bA.2 ⟨y, hy, h⟩))
        · exact List.mem_append_right _ (List.mem_append_right _ z)
      · exact mem_Ms.2 (.inr ⟨j, hj, ej⟩)
  · rcases List.mem_cons.1 z with z | z
    · exact rt.2.2.2 (List.mem_append_right _ (z ▸ hb))
    · rcases List.mem_append.1 z with z | z
      · exact S.dh b (mem_bA.2 ⟨i, hi, z⟩) (List.mem_append_right _ hb)
      · exact th b z hb
end
end Ip
namespace Ip
open PySem L2 PySem.Spec PyProof.Rows
theorem FTs.one {g : Gx} {ho : Option Addr} {H : Hp} {B : List Addr} {d : D} {v : V} (h : FT g H ho B d v) : FTs g H ho B [d] [v] := by
  have := FTs.cons h .nil
  rwa [List.append_nil] at this
section
variable {X : Cx} {C : Ad} {W : WX} {Δ Γ Γ' Γ1 : List Nat} {β : List (Nat × Nat)} {Gb G' : DG} {m : Rm} {fr : Bool} {e b : Expr} {pos pos' apos cpos p : Pos} {f h : Env → R D}
theorem upd_keep {H : Hp} {a : Addr} {o : HO} : ∀ b, H b ≠ none → upd H a o b ≠ none := fun b hb => by
  by_cases q : b = a
  · rw [q, upd_same]; simp
  · rw [upd_ne q]; exact hb
theorem DS.upd {K : PySem.W.Frag} {bs : Nat → List Addr} {tm hid : List Addr} {ρ : Env} {σ : L2.St} {H : Hp} {i : Nat} {d' : D} (S : DS K C Δ β bs (tm ++ hid) Γ ρ σ H) (o1 : ∀ j ∈ C.io, j ∉ Δ) (rw0 : C.raw = []) (hi : i ∈ Δ) (hs : ∀ b ∈ C.hid, b ∈ hid) (th : ∀ b ∈ tm, b ∉ hid) (nd : tm.Nodup) {o : HO}
    (f : FT (gx K C) (L2.upd H (sa σ i) o) (hol β σ i) (sa σ i :: (bs i ++ tm)) d' (.ref (sa σ i))) :
    DS K C Δ β (setB bs i (bs i ++ tm)) hid Γ (ρ.set i (some d')) σ (L2.upd H (sa σ i) o) ∧ Stp (Ms σ (tm ++ (bA Δ bs ++ hid)) Γ) (Ms σ (bA Δ (setB bs i (bs i ++ tm)) ++ hid) Γ) hid H (L2.upd H (sa σ i) o) := by
  have he : ∀ b, b ∉ sa σ i :: (bs i ++ tm) → L2.upd H (sa σ i) o b = H b := fun b hb => upd_ne fun z => hb (by rw [z]; exact List.mem_cons_self)
  refine ⟨S.write o1 rw0 hi hs th he (fun _ z => z) ?_ f upd_keep, S.writeStp o1 rw0 hi th he fun _ z => z⟩
  rw [List.nodup_append]
  exact ⟨S.nd.one i hi, nd, fun b hb c hc e => S.dh b (mem_bA.2 ⟨i, hi, hb⟩) (List.mem_append_left _ (e ▸ hc))⟩
end
end Ip
namespace Ip
open PySem L2 PySem.Spec PyProof.Rows
section
variable {g : Gx} {ho : Option Addr} {H : Hp}
theorem put_none (k : Key) (v : V) (d : D) : ∀ (ks : List Key) (vs : List V) (ds : List D), ks.length = vs.length → ds.length = vs.length → (ks.map kD).countP (keyB · (kD k)) = 0 →
    (ks.zip vs).map (fun kv => if kv.1 = k then (kv.1, v) else kv) = ks.zip vs ∧ List.zipWith (fun k' e => if keyB k' (kD k) then d else e) (ks.map kD) ds = ds
  | [], [], [], _, _, _ => ⟨rfl, rfl⟩
  | [], _ :: _, _, h, _, _ => by simp at h
  | _ :: _, [], _, h, _, _ => by simp at h
  | [], [], _ :: _, _, h, _ => by simp at h
  | _ :: _, _ :: _, [], _, h, _ => by simp at h
  | k' :: ks, u :: vs, e :: ds, h1, h2, h3 => by
    rw [List.map_cons, List.countP_cons] at h3
    have z : ¬ k' = k := fun z => by
      rw [keyB_kD, decide_eq_true z, if_pos rfl] at h3
      omega
    have zk : keyB (kD k') (kD k) = false := by rw [keyB_kD]; exact decide_eq_false z
    obtain ⟨a, b⟩ := put_none k v d ks vs ds (by simpa using h1) (by simpa using h2) (by omega)
    refine ⟨?_, ?_⟩
    · rw [List.zip_cons_cons, List.map_cons, a, if_neg z]
    · rw [List.map_cons, List.zipWith_cons_cons, b, zk]; rfl
theorem put_one {Bd : List Addr} (k : Key) (v : V) (d : D) (fd : FT g H ho Bd d v) : ∀ (ks : List Key) (vs : List V) (ds : List D) (B : List Addr), FTs g H ho B ds vs → ks.length = vs.length → (ks.map kD).countP (keyB · (kD k)) = 1 →
    ∃ vs' B', (ks.zip vs).map (fun kv => if kv.1 = k then (kv.1, v) else kv) = ks.zip vs' ∧ ks.length = vs'.length ∧ FTs g H ho B' (List.zipWith (fun k' e => if keyB k' (kD k) then d else e) (ks.map kD) ds) vs' ∧ (∀ b ∈ B', b ∈ B ++ Bd) ∧ ((B ++ Bd).Nodup → B'.Nodup)
  | [], [], _, _, _, _, h => by simp at h
  | [], _ :: _, _, _, _, h, _ => by simp at h
  | _ :: _, [], _, _, _, h, _ => by simp at h
  | k' :: ks, u :: vs, _, _, .cons (d := e) (ds := ds) (B := B1) (B' := B2) f t, h1, h3 => by
    rw [List.map_cons, List.countP_cons] at h3
    by_cases z : k' = k
    · rw [keyB_kD, decide_eq_true z, if_pos rfl] at h3
      obtain ⟨a, b⟩ := put_none k v d ks vs ds (by simpa using h1) t.length (by omega)
      refine ⟨v :: vs, Bd ++ B2, ?_, h1, ?_, fun b hb => ?_, fun nd => ?_⟩
      · rw [List.zip_cons_cons, List.map_cons, a, if_pos z, List.zip_cons_cons]
      · rw [List.map_cons, List.zipWith_cons_cons, b, keyB_kD, decide_eq_true z]
        exact .cons fd t
      · simp only [List.mem_append] at hb ⊢
        rcases hb with hb | hb
        · exact .inr hb
        · exact .inl (.inr hb)
      · rw [List.append_assoc, List.nodup_append] at nd
        obtain ⟨_, n2, _⟩ := nd
        rw [List.nodup_append] at n2 ⊢
        exact ⟨n2.2.1, n2.1, fun x hx y hy e => n2.2.2 y hy x hx e.symm⟩
    · rw [keyB_kD, decide_eq_false z] at h3
      have h3 : (ks.map kD).countP (keyB · (kD k)) = 1 := by simpa using h3
      obtain ⟨vs', B', a, b, c, m, n⟩ := put_one k v d fd ks vs ds B2 t (by simpa using h1) h3
      refine ⟨u :: vs', B1 ++ B', ?_, by simp [b], ?_, fun x hx => ?_, fun nd => ?_⟩
      · rw [List.zip_cons_cons, List.map_cons, a, if_neg z, List.zip_cons_cons]
      · rw [List.map_cons, List.zipWith_cons_cons, keyB_kD, decide_eq_false z]
        exact .cons f c
      · simp only [List.mem_append] at hx ⊢
        rcases hx with hx | hx
        · exact .inl (.inl hx)
        · rcases List.mem_append.1 (m x hx) with y | y
          · exact .inl (.inr y)
          · exact .inr y
      · rw [List.append_assoc, List.nodup_append] at nd
        obtain ⟨n1, n2, n3⟩ := nd
        rw [List.nodup_append]
        exact ⟨n1, n n2, fun x hx y hy => n3 x hx y (m y hy)⟩
theorem FTs.put {Bd : List Addr} (k : Key) (v : V) (d : D) (fd : FT g H ho Bd d v) {ks : List Key} {vs : List V} {ds : List D} {B : List Addr} (t : FTs g H ho B ds vs) (hl : ks.length = vs.length) (hc : (ks.map kD).countP (keyB · (kD k)) ≤ 1) :
    ∃ (ks' : List Key) (vs' : List V) (B' : List Addr), putK (ks.zip vs) k v = ks'.zip vs' ∧ ks'.length = vs'.length ∧ (dPut (ks.map kD) ds (kD k) d).1 = ks'.map kD ∧ FTs g H ho B' (dPut (ks.map kD) ds (kD k) d).2 vs' ∧ (∀ b ∈ B', b ∈ B ++ Bd) ∧ ((B ++ Bd).Nodup → B'.Nodup) := by
  have hany : ∀ (ks : List Key) (vs : List V), ks.length = vs.length → ((ks.zip vs).any fun kv => decide (kv.1 = k)) = (ks.map kD).any (keyB · (kD k)) := by
    intro ks
    induction ks with
    | nil => intro vs _; rfl
    | cons k' ks ih =>
      intro vs h
      cases vs with
      | nil => simp at h
      | cons u vs => rw [List.zip_cons_cons, List.any_cons, List.map_cons, List.any_cons, keyB_kD, ih vs (by simpa using h)]
  unfold putK dPut
  rw [hany ks vs hl]
  cases q : (ks.map kD).any (keyB · (kD k)) with
  | true =>
    have h1 : (ks.map kD).countP (keyB · (kD k)) = 1 := by
      obtain ⟨x, hx, hk⟩ := List.any_eq_true.1 q
      have : 0 < (ks.map kD).countP (keyB · (kD k)) := List.countP_pos_iff.2 ⟨x, hx, hk⟩
      omega
    obtain ⟨vs', B', a, b, c, m, n⟩ := put_one k v d fd ks vs ds B t hl h1
    exact ⟨ks, vs', B', by rw [if_pos rfl]; exact a, b, rfl, by rw [if_pos rfl]; exact c, m, n⟩
  | false =>
    refine ⟨ks ++ [k], vs ++ [v], B ++ Bd, ?_, by simp [hl], ?_, ?_, fun _ z => z, fun z => z⟩
    · rw [if_neg (by decide), List.zip_append hl]; rfl
    · rw [if_neg (by decide), List.map_append]; rfl
    · rw [if_neg (by decide)]
      exact t.app (FTs.one fd)
end
end Ip
namespace Ip
open PySem L2 PySem.Spec PyProof.Rows
end Ip
namespace Ip
open PySem L2 PySem.Spec PyProof.Rows
section
variable {K : PySem.W.Frag} {C : Ad} {Δ : List Nat} {β : List (Nat × Nat)} {bs : Nat → List Addr} {B B' B1 B2 hid hid' tm : List Addr} {Γ Γ' : List Nat} {ρ ρ' : Env} {σ σ' : L2.St} {H H' : Hp} {x y : Nat} {a b : Addr} {d dx : D}
/-- temporaries are let go -/
theorem DB.forget (S : DB K C Δ β B hid Γ ρ σ H) (h : ∀ a ∈ hid', a ∈ hid) (hs : ∀ a ∈ C.hid, a ∈ hid') : DB K C Δ β B hid' Γ ρ σ H := by
  have sub : ∀ a ∈ Ms σ (B ++ hid') Γ, a ∈ Ms σ (B ++ hid) Γ := Ms_subH fun b hb => by
    rcases List.mem_append.1 hb with z | z
    · exact List.mem_append_left _ z
    · exact List.mem_append_right _ (h b z)
  have le : HLe (mask H (Ms σ (B ++ hid) Γ)) (mask H (Ms σ (B ++ hid') Γ)) := .of_same (mask_sub sub)
  refine ⟨⟨S.pf.len, hs, fun a ha => S.pf.trk a (h a ha), fun a ha => S.pf.tmp a (h a ha), S.pf.own, S.pf.frm, S.pf.frh, S.pf.gro, S.pf.io, S.pf.pin⟩, S.rw0, fun i d hi e => ?_, fun i hi nx => ?_, S.rt, S.nd, fun i hi z => S.dis i hi ?_, S.hd, fun a ha z => S.dh a ha (h a z), S.new, S.lent, S.pt⟩
  · obtain ⟨v, e1, r⟩ := S.sl i d hi e
    exact ⟨v, e1, r.mono le⟩
  · obtain ⟨o, e1, e2, c⟩ := S.ow i hi nx
    exact ⟨o, e1, e2, c.mono (fun _ z => z) le⟩
  · rcases List.mem_append.1 z with z | z
    · exact List.mem_append_left _ z
    · exact List.mem_append_right _ (h _ z)
theorem DS.forget (S : DS K C Δ β bs hid Γ ρ σ H) (o1 : ∀ j ∈ C.io, j ∉ Δ) (rw0 : C.raw = []) (h : ∀ a ∈ hid', a ∈ hid) (hs : ∀ a ∈ C.hid, a ∈ hid') : DS K C Δ β bs hid' Γ ρ σ H :=
  ((S.db o1 rw0).forget h hs).ds S.ft S.nd
end
end Ip
namespace Ip
open PySem L2 PySem.Spec PyProof.Rows
end Ip
namespace Ip
open PySem L2 PySem.Spec PyProof.Rows
end Ip
namespace Ip
open PySem L2 PySem.Spec PyProof.Rows
structure LkR (L : List Addr) (H Hl : Hp) : Prop where
  on : ∀ a ∈ L, ∃ od u, H a = some u ∧ Hl a = some (.frz od u)
  off : ∀ a, a ∉ L → Hl a = H a
def isDk : Option HO → Bool
  | some (.dK _) => true
  | some (.dT _) => true
  | _ => false
end Ip
namespace Ip
open PySem L2
section
variable {K : PySem.W.Frag} {C : Ad} {Δ : List Nat} {bs : Nat → List Addr} {hid tm T L : List Addr} {Γ Γ' : List Nat} {ρ ρ' : Env} {σ σ' : L2.St} {H Hl Hl' : Hp}
/-- which are locked -/
structure LkT (T L : List Addr) (H Hl : Hp) : Prop where
  lk : LkR L H Hl
  ll : ∀ a, a ∈ L ↔ a ∈ T ∧ isDk (H a) = true
theorem LkT.hd (r : LkT T L H Hl) (h : ∀ a ∈ T, Hd H a) : ∀ a ∈ T, Hd Hl a := fun a ha => by
  by_cases q : a ∈ L
  · obtain ⟨od, u, _, h2⟩ := r.lk.on a q
    exact .mk' h2 trivial
  · exact (h a ha).of (r.lk.off a q)
end
end Ip
namespace Ip
open PySem L2
section
variable {K : PySem.W.Frag} {C : Ad} {Δ : List Nat} {bs : Nat → List Addr} {hid tm T L : List Addr} {Γ Γ' : List Nat} {ρ ρ' : Env} {σ σ' : L2.St} {H Hl Hl' : Hp}
theorem Cont.im {g : Gx} {H H' Hm Hm' : Hp} {a : Addr} {d : D} (h : Cont g H Hm a d) (e : ∀ o, H a = some o → H' a = some o) (t : TupLe Hm Hm') (m : imI d = true) : Cont g H' Hm' a d := by
  cases h with
  | lst h r => exact .lst (e _ h) (r.im t m)
  | dK h l r => exact .dK (e _ h) l (r.im t m)
  | dT h l r => exact .dT (e _ h) l (r.im t m)
  | obj h c l r => exact .obj (e _ h) c l (r.im t m)
end
end Ip
namespace Ip
open PySem L2 PySem.Spec PyProof.Rows
end Ip
namespace Ip
open PySem L2 PySem.Spec PyProof.Rows
theorem wipeE_set {ρ : Env} {Δ : List Nat} {i : Nat} {o : Option D} (h : i ∉ Δ) : wipeE (ρ.set i o) Δ = (wipeE ρ Δ).set i o := by
  refine List.ext_getElem? fun j => ?_
  by_cases q : j ∈ Δ
  · have ne : i ≠ j := fun e => h (e ▸ q)
    rw [List.getElem?_set_ne ne]
    have hl : (wipeE (ρ.set i o) Δ).length = (wipeE ρ Δ).length := by rw [wipeE_length, wipeE_length, List.length_set]
    cases z : (wipeE ρ Δ)[j]? with
    | none =>
      rw [List.getElem?_eq_none_iff] at z ⊢
      omega
    | some u =>
      cases u with
      | some d => exact absurd z (wipeE_in q)
      | none =>
        cases y : (wipeE (ρ.set i o) Δ)[j]? with
        | none =>
          rw [List.getElem?_eq_none_iff] at y
          have := (List.getElem?_eq_some_iff.1 z).1
          omega
        | some w =>
          cases w with
          | none => rfl
          | some d => exact absurd y (wipeE_in q)
  · rw [wipeE_out q]
    by_cases e : i = j
    · subst e
      rw [List.getElem?_set, List.getElem?_set, wipeE_length, if_pos rfl, if_pos rfl]
    · rw [List.getElem?_set_ne e, List.getElem?_set_ne e, wipeE_out q]
section
variable {K : PySem.W.Frag} {C : Ad} {Δ : List Nat} {β : List (Nat × Nat)} {bs : Nat → List Addr} {hid tm : List Addr} {Γ Γ' : List Nat} {ρ ρ' : Env} {σ σ' : L2.St} {H H' : Hp} {i : Nat} {d : D} {v : V}
theorem DS.put (S : DS K C Δ β bs hid Γ ρ σ H) (hi : i ∉ Γ) (r : RV (gx K C) (mask H (Ms σ (bA Δ bs ++ hid) Γ)) d v) (il : i < ρ.length) : DS K C Δ β bs hid Γ (ρ.set i (some d)) (σ.set i (some v)) H := by
  have iD : i ∉ Δ := fun z => hi (S.rt z).1
  have hx : ∀ x ∈ Δ, sa (σ.set i (some v)) x = sa σ x := fun x hx => sa_set fun z => iD (z ▸ hx)
  have hy : ∀ y ∈ bY β, sa (σ.set i (some v)) y = sa σ y := fun y hy => sa_set fun z => hi (z ▸ S.st.io y (List.mem_append_right _ (List.mem_append_left _ hy)))
  have er : Δ.map (sa (σ.set i (some v))) = Δ.map (sa σ) := List.map_congr_left hx
  refine ⟨?_, fun x xD => ?_, S.nd, by rw [er]; exact S.new, fun y yb => ⟨(S.lent y yb).1, by rw [hy y yb]; exact (S.lent y yb).2⟩, S.dh, S.sub, fun p hp => ⟨(S.pt p hp).1, (hx _ (S.pt p hp).1).trans (S.pt p hp).2⟩⟩
  · rw [Cd_congr hx hy fun _ _ => rfl, wipeE_set iD]
    exact S.st.put hi r (by rw [wipeE_length]; exact il)
  · obtain ⟨d0, e, f⟩ := S.ft x xD
    refine ⟨d0, by rw [List.getElem?_set_ne (show i ≠ x from fun z => iD (z ▸ xD))]; exact e, ?_⟩
    rw [hx x xD, hol_congr hy]
    exact f
end
end Ip
namespace Ip
open PySem L2 PySem.Spec PyProof.Rows
end Ip
namespace Ip
open PySem L2 PySem.Spec PyProof.Rows
end Ip
namespace Ip
open PySem L2 PySem.Spec PyProof.Rows
end Ip
namespace Ip
open PySem L2 PySem.Spec PyProof.Rows
end Ip
namespace Ip
open PySem L2 PySem.Spec PyProof.Rows
end Ip
namespace Ip
open PySem L2 PySem.Spec PyProof.Rows
end Ip
namespace Ip
open PySem L2 PySem.Spec PyProof.Rows
end Ip
namespace Ip
open PySem L2 PySem.Spec PyProof.Rows
end Ip
namespace Ip
open PySem L2 PySem.Spec PyProof.Rows
end Ip
namespace Ip
open PySem L2 PySem.Spec PyProof.Rows
end Ip
namespace Ip
open PySem L2 PySem.Spec PyProof.Rows
end Ip
namespace Ip
open PySem L2 PySem.Spec PyProof.Rows
end Ip
namespace Ip
open PySem L2 PySem.Spec PyProof.Rows
end Ip
namespace Ip
open PySem L2 PySem.Spec PyProof.Rows
end Ip
namespace Ip
open PySem L2 PySem.Spec PyProof.Rows PySem.SeqAt MeetsSeq MeetsSeq2 MeetsSeq3 SeqRoads2
end Ip
set_option maxHeartbeats 4000000
namespace Ip
open PySem L2 PySem.Spec PyProof.Rows PySem.W
inductive OwnB (K : Frag) (ct : Str → Option Addr) (T : String) : List Str → Prop
  | nil : OwnB K ct T []
  | cons {c : Str} {cs : List Str} {Cc : Addr} : ct c = some Cc → InsC K Cc → kitOne K (.ref Cc) (.type T) = some false → OwnB K ct T cs → OwnB K ct T (c :: cs)
theorem OwnB.at {K : Frag} {ct : Str → Option Addr} {T : String} {cs : List Str} (h : OwnB K ct T cs) : ∀ c, cs.contains c = true → ∃ Cc, ct c = some Cc ∧ InsC K Cc ∧ kitOne K (.ref Cc) (.type T) = some false := by
  induction h with
  | nil => intro c e; cases e
  | @cons c' cs Cc h1 h2 h3 _ ih =>
    intro c e
    rw [List.contains_cons, Bool.or_eq_true] at e
    rcases e with e | e
    · rw [beq_iff_eq.mp e]; exact ⟨Cc, h1, h2, h3⟩
    · exact ih c e
end Ip
namespace Ip
open PySem L2
/-- the way through the heap; B: the nodes that it may pass -/
inductive VP (H : Hp) (B : List Addr) : List Nat → V → V → Prop
  | nil {v : V} : VP H B [] v v
  | lst {a : Addr} {us : List V} {n : Nat} {u w : V} {p : List Nat} : a ∈ B → H a = some (.lst us) → us[n]? = some u → VP H B p u w → VP H B (n :: p) (.ref a) w
  | tup {a : Addr} {us : List V} {n : Nat} {u w : V} {p : List Nat} : H a = some (.tup us) → us[n]? = some u → VP H B p u w → VP H B (n :: p) (.ref a) w
  | dK {a : Addr} {ks : List Key} {us : List V} {n : Nat} {u w : V} {p : List Nat} : a ∈ B → H a = some (.dK (ks.zip us)) → ks.length = us.length → us[n]? = some u → VP H B p u w → VP H B (n :: p) (.ref a) w
theorem VP.mono {H H' : Hp} {B B' : List Addr} {p : List Nat} {v w : V} (h : VP H B p v w) (s : ∀ b ∈ B, b ∈ B') (k : ∀ b ∈ B, H' b = H b) (t : TupLe H H') : VP H' B' p v w := by
  induction h with
  | nil => exact .nil
  | lst h1 h2 h3 _ ih => exact .lst (s _ h1) ((k _ h1).trans h2) h3 ih
  | tup h2 h3 _ ih => exact .tup (t _ _ h2) h3 ih
  | dK h1 h2 h4 h3 _ ih => exact .dK (s _ h1) ((k _ h1).trans h2) h4 h3 ih
theorem VP.sub {H : Hp} {B B' : List Addr} {p : List Nat} {v w : V} (h : VP H B p v w) (s : ∀ b ∈ B, b ∈ B') : VP H B' p v w := h.mono s (fun _ _ => rfl) (.refl _)
section
variable {g : Gx} {H : Hp}
/-- an item of a row of trees, and the row with another one there -/
theorem FTs.at {ho : Option Addr} : ∀ {B : List Addr} {ds : List D} {vs : List V} {n : Nat} {d : D}, FTs g H ho B ds vs → ds[n]? = some d → ∃ v Ba Bd Bb, B = Ba ++ (Bd ++ Bb) ∧ vs[n]? = some v ∧ FT g H ho Bd d v ∧
    ∀ (H' : Hp) (Bd' : List Addr) (d' : D), TupLe H H' → (∀ b ∈ Ba ++ Bb, H' b = H b) → FT g H' ho Bd' d' v → FTs g H' ho (Ba ++ (Bd' ++ Bb)) (ds.set n d') vs
  | _, _, _, n, _, .nil, e => by simp at e
  | _, _, _, 0, d, .cons (B := B0) (B' := B2) h r, e => by
    simp at e
    subst e
    exact ⟨_, [], B0, B2, rfl, rfl, h, fun H' Bd' d' t k f => FTs.cons (B := Bd') (B' := B2) f (r.mono t fun b hb => k b hb)⟩
  | _, _, _, n + 1, d, .cons (B := B0) h r, e => by
    obtain ⟨v, Ba, Bd, Bb, rfl, e2, f, w⟩ := FTs.at r (show _ = some d by simpa using e)
    refine ⟨v, B0 ++ Ba, Bd, Bb, by rw [List.append_assoc], by simpa using e2, f, fun H' Bd' d' t k f' => ?_⟩
    rw [List.append_assoc]
    exact .cons (h.mono t fun b hb => k b (by simp [hb])) (w H' Bd' d' t (fun b hb => k b (by
      rcases List.mem_append.1 hb with hb | hb <;> simp [hb])) f')
end
end Ip
namespace Ip
open PySem L2 PySem.Spec PyProof.Rows
end Ip
namespace Ip
open PySem L2 PySem.Spec PyProof.Rows
end Ip
namespace Ip
open PySem L2 PySem.Spec PyProof.Rows
theorem CArgs.pin {K : PySem.W.Frag} {ct : Str → Option Addr} {N : List Str} {io : List Nat} {ds : List D} {vs : List V} {H : Hp} {hid ioA : List Addr} (A : CArgs ⟨K, ct⟩ io ds vs H hid ioA) (v : V) : io.map (sa (L2.start N (vs ++ [v]))) = ioA := by
  refine map_some_inj (f := fun i => match vs[i]? with | some (V.ref a) => some a | _ => none) (fun i hi => ?_) ?_
  · obtain ⟨d, a, _, e2, _⟩ := A.own i hi
    rw [e2]
    have hl := (List.getElem?_eq_some_iff.1 e2).1
    exact congrArg some (sa_eq (start_get (by rw [List.getElem?_append_left hl]; exact e2))).symm
  · have h := congrArg (List.map fun (o : Option V) => match o with | some (V.ref a) => some a | _ => none) A.ioa
    rw [List.map_map, List.map_map] at h
    exact h
end Ip
namespace Ip
open PySem L2 PySem.Spec PyProof.Rows
theorem K1.forget {g : Gx} {H H' : Hp} {M M' M2 tm : List Addr} {a : Addr} {p : Nat} {ds : List D} {vs : List V} (h : K1 g H M tm a p ds vs) (s : ∀ c ∈ M', c ∈ M) (ht : ∀ c ∈ tm, c ∉ M') (e : mask H' M2 = mask H M') : K1 g H' M2 [] a p ds vs := by
  have one : ∀ {d : D} {v : V}, Kept g H M tm d v → Kept g H' M2 [] d v := fun k => .inl (by rw [e]; exact k.rv s ht)
  have many : ∀ {ds : List D} {vs : List V}, Kepts g H M tm ds vs → Kepts g H' M2 [] ds vs := by
    intro ds vs h
    induction h with
    | nil => exact .nil
    | cons k _ ih => exact .cons (one k) ih
  induction h with
  | here k => exact .here (many k)
  | cons k _ ih => exact .cons (one k) ih
end Ip
namespace Ip
open PySem L2 PySem.Spec PyProof.Rows
end Ip
namespace Ip
open PySem L2 PySem.Spec PyProof.Rows
end Ip
set_option maxHeartbeats 4000000
namespace Ip
open PySem L2 PySem.Spec PyProof.Rows
theorem mergeK_new : ∀ (more kvs : List (Key × V)), ((kvs ++ more).map (·.1)).Nodup → mergeK kvs more = kvs ++ more
  | [], kvs, _ => by show kvs = _; rw [List.append_nil]
  | p :: more, kvs, h => by
    have h1 : valV kvs p.1 = none := by
      cases q : valV kvs p.1 with
      | none => rfl
      | some v =>
        exfalso
        unfold valV at q
        cases f : kvs.find? (fun kv => decide (kv.1 = p.1)) with
        | none => rw [f] at q; cases q
        | some kv =>
          have e0 := List.find?_some f
          have e : kv.1 = p.1 := of_decide_eq_true e0
          have m := List.mem_of_find?_eq_some f
          rw [List.map_append, List.nodup_append] at h
          exact h.2.2 kv.1 (List.mem_map_of_mem m) p.1 (by simp) e
    show mergeK (putK kvs p.1 p.2) more = _
    rw [putK_new _ h1, mergeK_new more (kvs ++ [(p.1, p.2)]) (by rw [List.append_assoc]; exact h), List.append_assoc]
    rfl
section
variable {K : PySem.W.Frag} {C : Ac} {W : WX} {Γ Γ1 Γ2 : List Nat} {fr1 : Bool} {f : Env → R D} {g : Env → R (List D)} {σ : L2.St} {H : Hp} {Q : List V → Hp → Prop}
theorem sa_step (p : tAs K C W Γ Γ2 (mCons f g) σ H Q) : tE K C W Γ Γ1 fr1 f σ H fun v H1 => tAs K C W Γ1 Γ2 g σ H1 fun vs H2 => Q (v :: vs) H2 := by
  obtain ⟨hid, ρ, S, p⟩ := p
  refine ⟨hid, ρ, S, ?_⟩
  unfold mCons at p
  cases q : f ρ with
  | bad => rw [q] at p; exact p
  | exn e ρ' => rw [q] at p; exact p
  | ok d ρ1 =>
    rw [q] at p
    dsimp only [R.bind] at p
    intro v H1 tm1 S1 k1 va t1
    refine ⟨tm1 ++ hid, ρ1, S1, ?_⟩
    cases q2 : g ρ1 with
    | bad => rw [q2] at p; exact p
    | exn e ρ' => rw [q2] at p; exact p
    | ok ds ρ2 =>
      rw [q2] at p
      dsimp only at p
      intro vs H2 tm2 S2 k2 t2 ks
      have e : tm2 ++ (tm1 ++ hid) = (tm2 ++ tm1) ++ hid := (List.append_assoc ..).symm
      rw [e] at S2 k2 ks
      have up : ∀ {ds : List D} {vs : List V}, Kepts (gx K C) H2 (Ms σ ((tm2 ++ tm1) ++ hid) Γ2) tm2 ds vs → Kepts (gx K C) H2 (Ms σ ((tm2 ++ tm1) ++ hid) Γ2) (tm2 ++ tm1) ds vs := by
        intro ds vs h
        induction h with
        | nil => exact .nil
        | cons k _ ih =>
          refine .cons ?_ ih
          rcases k with r | ⟨a, ha, r⟩
          · exact .inl r
          · exact .inr ⟨a, List.mem_append_left _ ha, r⟩
      refine p (v :: vs) H2 (tm2 ++ tm1) S2 (k1.trans k2 fun a ha => List.mem_append_right _ ha) (fun a ha z => ?_) (.cons ((Kept.of va).stp k2 fun a ha => List.mem_append_right _ ha) (up ks))
      rcases List.mem_append.mp ha with ha | ha
      · exact t2 a ha (Ms_subH (fun b hb => List.mem_append_right _ hb) a z)
      · rcases mem_Ms.mp z with z | ⟨i, hi, rfl⟩
        · exact t1 a ha (mem_Ms.mpr (.inl z))
        · exact S2.dis i hi (List.mem_append_left _ (List.mem_append_right _ ha))
end
end Ip
set_option maxHeartbeats 4000000
namespace Ip
open PySem L2 PySem.Spec PyProof.Rows PySem.W
abbrev Fd := Option (Str × D)
abbrev CB := Fd → Env → Option Env
/-- the caught error: where it stands, what its field is -/
structure Exc (K : Frag) (C : Ac) (a : Addr) (i : Option Nat) (od : Option Addr) (fld : Fd) (σ : L2.St) (H : Hp) : Prop where
  sl : ∀ k, i = some k → σ[k]? = some (some (.ref a))
  no : fld = none → od = none
  fd : ∀ fn d, fld = some (fn, d) → ∃ dd v, od = some dd ∧ H dd = some (.xd [(fn, v)]) ∧ RV (gx K C) (mask H (Ms σ C.hid C.io)) d v
theorem Exc.same {K : Frag} {C : Ac} {a : Addr} {i : Option Nat} {od : Option Addr} {fld : Fd} {σ : L2.St} {H H' : Hp} (x : Exc K C a i od fld σ H) (s : Same H H') : Exc K C a i od fld σ H' :=
  ⟨x.sl, x.no, fun fn d e => let ⟨dd, v, h1, h2, h3⟩ := x.fd fn d e; ⟨dd, v, h1, s _ _ h2, h3.mono (.of_same (mask_keep fun b o _ z => s b o z))⟩⟩
structure TG where
  cn : Str
  i : Option Nat
  f : CB
  Cc : Addr
inductive TgOk (K : Frag) (ct : Str → Option Addr) (io : List Nat) : List TG → Prop
  | nil : TgOk K ct io []
  | cons {t : TG} {r : List TG} : ct t.cn = some t.Cc → exmOne K (.ref t.Cc) (.ref t.Cc) = some true → (∀ u ∈ r, exmOne K (.ref u.Cc) (.ref t.Cc) = some false) → (∀ k ∈ t.i, k ∉ io) → TgOk K ct io r → TgOk K ct io (t :: r)
theorem TgOk.ct {K : Frag} {ct : Str → Option Addr} {io : List Nat} {l : List TG} (h : TgOk K ct io l) : ∀ t ∈ l, ct t.cn = some t.Cc := by
  induction h with
  | nil => exact fun _ z => nomatch z
  | cons h1 _ _ _ _ ih =>
    intro u hu
    rcases List.mem_cons.mp hu with rfl | hu
    · exact h1
    · exact ih u hu
end Ip
set_option maxHeartbeats 4000000
namespace Ip
open PySem L2 PySem.Spec PyProof.Rows PySem.W
theorem exc_inst {X : Cx} {pins : List (Addr × Obj)} {σ : L2.St} {H : Hp} {s : Shared} {C a : Addr} (I : Inv X pins σ H s) (h : ExcAt H C a) : ∃ ox o2, InstAt s.heap a ox C o2 := by
  rcases h with e | ⟨dx, fs, e1, e2⟩
  · obtain ⟨⟨oe, vs, ho, hz, hd, _⟩, _, _⟩ := I.hok a _ e
    exact ⟨oe, none, ho, hz.1, by unfold notCls; rw [hd], by rw [hz.2]; trivial⟩
  · obtain ⟨t1, ho⟩ := exo_at I.hok e1
    obtain ⟨mA, hns, _⟩ := exd_at I.hok e2
    obtain ⟨od, hod, _⟩ := lookIn_ns hns
    exact ⟨_, some od, ho, rfl, rfl, hod⟩
/-- isinstance of such errors against the class or type vT -/
structure ExcIs (K : Frag) (ct : Str → Option Addr) (vT : Value) (cs : List (Str × Bool)) : Prop where
  ex : ∀ c b, cs.lookup c = some b → ∃ Cc, ct c = some Cc ∧ ExcC K Cc ∧ kitOne K (.ref Cc) vT = some b
def isxD (cs : List (Str × Bool)) : D → Option D
  | .exc c => (cs.lookup c).map .bl
  | _ => none
def rIsX (g : Gx) (t : V) (cs : List (Str × Bool)) : List V → Hp → VK → Prop := fun xs H Q => ∃ (x : V) (d : D) (Hm : Hp) (b : Bool), xs = [x, t] ∧ Shal g H Hm d x ∧ isxD cs d = some (.bl b) ∧ Q (.bl b) H
theorem call_isX {X : Cx} {g : Gx} (hg : g.K = X.K) {t : V} {vT : Value} {cs : List (Str × Bool)} (ht : ∀ u, RelV t u → u = vT) (O : ExcIs X.K g.ct vT cs) : CallR X (.builtin "isinstance") (rIsX g t cs) := by
  intro pins s σ H xs us Q I r h
  obtain ⟨x, d, Hm, b, rfl, sh, ho, q⟩ := h
  obtain ⟨u1, u2, rfl, r1, r2⟩ := vals2 r
  have e2 := ht _ r2
  subst e2
  cases d with
  | exc c =>
    cases sh with
    | @exc a Cc _ h k =>
      cases (show u1 = Value.ref a from r1)
      replace ho : (cs.lookup c).map D.bl = some (.bl b) := ho
      cases hl : cs.lookup c with
      | none => rw [hl] at ho; cases ho
      | some b' =>
        rw [hl] at ho
        cases ho
        obtain ⟨C2, e1, E, kt⟩ := O.ex c _ hl
        have e3 : Cc = C2 := Option.some.inj (h.symm.trans e1)
        subst e3
        obtain ⟨ox, o2, J⟩ := exc_inst I k
        have hcl : (clsIn X.K Cc).isSome = true := by
          obtain ⟨cd, hc, _⟩ := any_some E.hd
          rw [hc]; rfl
        exact kia_one (kitx_exc hcl E.hg E.hk E.hs E.ha E.hn E.ht E.hm) I.kIn J kt (fun z => nomatch z) fun tk => ⟨.bl _, H, I.tok tk, rfl, q⟩
  | _ => cases ho
section
variable {X : Cx} {C : Ac} {W : WX} {Γ Γ' Γ1 : List Nat} {fr fr1 : Bool} {e : Expr} {f : Env → R D} {p pos pos' p2 : Pos}
theorem isxD_bl {cs : List (Str × Bool)} {dx d : D} (ho : isxD cs dx = some d) : ∃ b, d = .bl b := by
  unfold isxD at ho
  split at ho
  · obtain ⟨b, _, rfl⟩ := Option.map_eq_some_iff.1 ho
    exact ⟨b, rfl⟩
  · cases ho
theorem se_isXO {x : Str} {CT : Addr} {cs : List (Str × Bool)} (he : SE X C W Γ e Γ' fr f) (hm : X.mg x = some (.ref CT)) (O : ExcIs X.K C.ct (.ref CT) cs) (hi : X.mg "isinstance" = none) (hgi : Gl X "isinstance" := by rfl) (hg : Gl X x := by rfl) (hvi : bootBuiltins "isinstance" = some (.builtin "isinstance") := by decide +kernel)
    (hdb : (x == ("__debug__" : Str)) = false := by decide)
    (hs : starEach [e, .Name x p2] X.env = (false, eval e X.env) :: starEach [.Name x p2] X.env := by rfl) (hs2 : starEach [.Name x p2] X.env = (false, eval (.Name x p2) X.env) :: starEach [] X.env := by rfl)
    (hpl : (backTo pos (starEach [.Name x p2] X.env)).any (·.1) = false := by rfl) : SE X C W Γ (.Call (.Name "isinstance" p) [e, .Name x p2] [] pos) Γ' false (mUn (isxD cs) f) :=
  ⟨peImp (pe_callB (call_isX (g := ⟨X.K, C.ct⟩) (t := .ref CT) rfl (fun u r => r) O) hgi hi hvi (pa_cons he.pe (pa_cons (pe_glob (v := .ref CT) hg hm rfl hdb) pa_nil hs2) hs) (by decide) (by decide) hs hpl) fun σ H Q q => by
    refine un_tE (r := fun x H1 Q => rIsX ⟨X.K, C.ct⟩ (.ref CT) cs [x, .ref CT] H1 Q) (fun H M x dx d Q tr sh ho q => ?_) q
    obtain ⟨b, rfl⟩ := isxD_bl ho
    exact ⟨x, dx, _, b, rfl, sh, ho, q _ H (.refl _) (.bl _)⟩⟩
theorem se_isXB {T : String} {x : Str} {cs : List (Str × Bool)} (he : SE X C W Γ e Γ' fr f) (O : ExcIs X.K C.ct (.type T) cs) (hi : X.mg "isinstance" = none) (hm : X.mg x = none) (hgi : Gl X "isinstance" := by rfl) (hg : Gl X x := by rfl) (hvi : bootBuiltins "isinstance" = some (.builtin "isinstance") := by decide +kernel)
    (hv : bootBuiltins x = some (.type T) := by decide +kernel) (hn : x ≠ "__name__" := by decide) (hdb : (x == ("__debug__" : Str)) = false := by decide)
    (s1 : starEach [e, .Name x p2] X.env = (false, eval e X.env) :: starEach [.Name x p2] X.env := by rfl) (s2 : starEach [.Name x p2] X.env = (false, eval (.Name x p2) X.env) :: starEach [] X.env := by rfl)
    (hpl : (backTo pos (starEach [.Name x p2] X.env)).any (·.1) = false := by rfl) : SE X C W Γ (.Call (.Name "isinstance" p) [e, .Name x p2] [] pos) Γ' false (mUn (isxD cs) f) := by
  have hb : PE X (.Name x p2) (fun σ H Q => Q (.ty T) H) := pe_bltn hg hm hv (show RelV (.ty T) (Value.type T) from rfl) hn hdb
  refine ⟨peImp (pe_callB (call_isX (g := ⟨X.K, C.ct⟩) (t := .ty T) rfl (fun u r => r) O) hgi hi hvi (pa_cons he.pe (pa_cons hb pa_nil s2) s1) (by decide) (by decide) s1 hpl) fun σ H Q q => ?_⟩
  refine un_tE (r := fun x H1 Q => rIsX ⟨X.K, C.ct⟩ (.ty T) cs [x, .ty T] H1 Q) (fun H M x dx d Q tr sh ho q => ?_) q
  obtain ⟨b, rfl⟩ := isxD_bl ho
  exact ⟨x, dx, _, b, rfl, sh, ho, q _ H (.refl _) (.bl _)⟩
theorem pe_exc0 {Cc : Addr} {bmB : List Value} {B newId initId : String} {x : Str} (F : ExcBaseFacts B newId initId bmB) (q : excIn X.K Cc bmB newId = true) (gC : X.mg x = some (.ref Cc)) (kC : keepIn X.K (.ref Cc) = true) (hg : Gl X x) (hdb : (x == ("__debug__" : Str)) = false) :
    PE X (.Call (.Name x p) [] [] pos) (fun _ H Q => ∀ a, H a = none → Q (.ref a) (upd H a (ExO (.ref Cc) a))) := by
  refine ⟨fun pins s σ H Q I h => ?_⟩
  refine wpAny_Call_Name_kw (ld_glob I hg gC (callWith_K0 (first := []) I.kIn kC ?_) hdb)
  obtain ⟨_, _, _, _, _, _, _, _, _, _, _, _, _, _, _, _, _, hC, hN, hi, T⟩ := exc_obj I.kIn q
  refine wpAny_call_exc_subT F T hC hN hi (fun h' a hm => ?_) (Nat.zero_le _)
  have hn : H a = none := I.hok.gone hm.new
  obtain ⟨t, ht, _, _⟩ := hm.there
  exact ⟨.ref a, upd H a (ExO (.ref Cc) a), I.laidN hm.keeps hm.new hn (exO_ok ht ⟨rfl, rfl⟩ rfl rfl rfl (show 4 < 6 by decide)), rfl, h a hn⟩
def mExc (c : Str) : Env → R D := fun ρ => .ok (.exc c) ρ
theorem se_exc0 {x : Str} (E : Er X.K X.mg C.ct x) (hg : Gl X x := by rfl) (hdb : (x == ("__debug__" : Str)) = false := by decide) : SE X C W Γ (.Call (.Name x p) [] [] pos) Γ false (mExc x) := by
  obtain ⟨Cc, B, newId, initId, bmB, e1, F, q, gC, kC, r1, r2⟩ := E.ex
  refine ⟨peImp (pe_exc0 F q gC kC hg hdb) fun σ H Q ⟨hid, ρ, S, p⟩ a ha => ?_⟩
  have s := same_upd (o := ExO (.ref Cc) a) ha
  refine p (.ref a) _ [] (S.same s) (S.sameStp s) (.fz (.exc e1 (.inl ?_)) fun z => nomatch z) fun _ z => nomatch z
  have hn : a ∉ Ms σ hid Γ := S.none_out ha
  show mask (upd H a (ExO (.ref Cc) a)) (Ms σ hid Γ) a = _
  rw [mask_out hn, upd_same]
theorem pe_oexV {CX : CXT} {x : Str} {Cc fI : Addr} {k : Nat} {fd : FuncData} {ps : List Str} {sp : Sp} {es : List Expr} {ta : TA} (T : OexC X.K Cc) (iC : findIn X.K (.ref Cc) "__init__" = some (some (.ref fI))) (tI : typeIn X.K (.ref fI) = some (.type "function"))
    (F1 : FnOk X.prog X.w X.K X.mg X.base CX k fI fd ps sp) (hr : Room (k + 1) X.A) (hb : Binds X.K fd ps []) (hx : Passes CX X (fun _ _ _ => False)) (hg : Gl X x) (hm : X.mg x = some (.ref Cc)) (ha : PA X (e :: es) ta)
    (hdb : (x == ("__debug__" : Str)) = false) (he : starEach (e :: es) X.env = (false, eval e X.env) :: starEach es X.env) (hpl : (backTo pos (starEach es X.env)).any (·.1) = false) :
    PE X (.Call (.Name x p) (e :: es) [] pos) (fun σ H Q => ta σ H fun vs H1 => vs.length ≤ 1000 ∧ ∀ a, H1 a = none → sp (.ref a :: vs) (upd H1 a (exo a Cc none)) (fun v H2 => v = .non ∧ Q (.ref a) H2) (fun _ _ _ => False)) := by
  refine ⟨fun pins s σ H Q I h => ?_⟩
  obtain ⟨nm, q, N, bs, bm, sn, sub, ab, col, dd, k0, k1, k2, k3, k5, hC, hbm⟩ := T.cls
  refine wpAny_Call_Name_kw (ld_glob I hg hm ?_ hdb)
  refine callWith_K (h₀ := X.base) I.ok.mod.kin T.kC (thn (ha.run pos pins s σ H _ I h) fun us s1 ⟨vs, H1, I1, r1, hz, q1⟩ => ⟨I1.kIn, ?_⟩) he hpl
  show wpAny _ _ (call (.ref Cc) us) _ _ _
  obtain ⟨hp, g, dr, tk, os⟩ := s1
  have hsz : hp.objs.size ≤ hp.objs.size + 1 := Nat.le_succ _
  have hn : H1 (hp.objs.size + 1) = none := I1.hok.fresh hsz
  have hq := q1 (hp.objs.size + 1) hn
  have hget : ((hp.push (kdv_tup us)).push (PySem.HandSPX.excO Cc hp.objs.size)).get? (hp.objs.size + 1) = some (PySem.HandSPX.excO Cc hp.objs.size) := by heap_get
  have I2 : Inv X pins σ (upd H1 (hp.objs.size + 1) (exo (hp.objs.size + 1) Cc none)) ⟨(hp.push (kdv_tup us)).push (PySem.HandSPX.excO Cc hp.objs.size), g, dr, tk, os⟩ :=
    I1.laid (t' := tk) (a := hp.objs.size + 1) (o := exo (hp.objs.size + 1) Cc none) (h' := (hp.push (kdv_tup us)).push (PySem.HandSPX.excO Cc hp.objs.size)) (fun b o z => Heap.get?_push_of_some _ (Heap.get?_push_of_some _ z)) hsz (exo_ok hget)
  have r2 : Vals (V.ref (hp.objs.size + 1) :: vs) (Value.ref (hp.objs.size + 1) :: us) := .cons rfl r1
  have hl : (Value.ref (hp.objs.size + 1) :: us ++ []).length = ps.length := by
    have z := r2.length
    rw [F1.len _ _ _ _ hq] at z
    rw [List.append_nil]
    exact z.symm
  have hus : us.length ≤ sizeLine := by
    rw [← Paired.length r1, sizeLine_eq]
    omega
  have hb2 := hb _ (Value.ref (hp.objs.size + 1) :: us) I2.kIn hl
  rw [List.append_nil] at hb2
  refine wpAny_call (PySem.HandSPX.call_own F.excBase_ValueError (fun Y => PySem.HandSPX.refsVE_contains Y bm hbm) (I1.kIn _ _ hC) (looks_findIn I1.kIn iC) (fun self => bind_fn I1.kIn self tI) hus
    (codeAny_mono (F1.run _ X.stack _ _ ⟨Value.ref (hp.objs.size + 1) :: us, []⟩ (Value.ref (hp.objs.size + 1) :: us) _ _ (fun _ _ _ => False) (hr.make Cc us []) (I2.env0.make Cc us []) hb2 r2 hq) fun r s' hq' => ?_))
  cases r with
  | error er => exact hx pins σ _ _ er s' I2 hq'
  | ok fl =>
    cases fl with
    | ret u =>
      obtain ⟨v, H2, os2, bare2, un2, hok2, rv, ev, q2⟩ := hq'
      subst ev
      exact ⟨rv, .ref _, H2, I2.call' (ch := []) os2 un2 hok2 bare2 (fun b z => nomatch z), rfl, q2⟩
    | next => exact False.elim hq'
    | brk => exact False.elim hq'
    | cont => exact False.elim hq'
/-- the field read of a new error -/
theorem pe_xa {n : Str} {Cc : Addr} {te : TE} (T : XfC X.K Cc) (hno : findIn X.K (.ref Cc) n = some none) (he : PE X e te) (hb : attributeBase e n X.env (eval e X.env) = eval e X.env) :
    PE X (.Attribute e n pos) (fun σ H Q => te σ H fun x H1 => ∃ a dx fs v, x = .ref a ∧ H1 a = some (exo a Cc (some dx)) ∧ H1 dx = some (exd dx fs) ∧ fs.lookup n = some v ∧ Q v H1) := by
  refine ⟨fun pins s σ H Q I h => ?_⟩
  refine attr_of hb (thn (he.run pins s σ H _ I h) fun u s1 hh => ?_)
  obtain ⟨x, H1, I1, rx, a, dx, fs, v, rfl, e1, e2, l, q⟩ := hh
  cases (show u = Value.ref a from rx)
  obtain ⟨t1, ho⟩ := exo_at I1.hok e1
  obtain ⟨mA, hns, hr⟩ := exd_at I1.hok e2
  obtain ⟨od, hod, hl⟩ := lookIn_ns hns
  obtain ⟨u, hu, ru⟩ := RelO.some_of (v := v) (o := mA n) (by rw [← l]; exact hr n)
  have J : InstAt s1.heap a _ Cc (some od) := ⟨ho, rfl, rfl, hod⟩
  exact HandSPX.exc_get I1.kIn J T.ga T.gg T.exC (findObj_own T.hdC hno rfl (by rw [hl, hu])) (handed_of ru) ⟨v, H1, I1.tok _, ru, q⟩
def mExcF (c : Str) (f : Env → R D) : Env → R D := fun ρ => (f ρ).bind fun _ ρ' => .ok (.exc c) ρ'
/-- the heap behind a new error with a field -/
theorem exf_heap {H : Hp} {a dx Cc : Addr} {fs : List (Str × V)} (ha : H a = none) (n : H dx = none) (ne : dx ≠ a) :
    ∃ H', H' = upd (upd (upd H a (exo a Cc none)) dx (exd dx fs)) a (exo a Cc (some dx)) ∧ Same H H' ∧ H' a = some (exo a Cc (some dx)) ∧ H' dx = some (exd dx fs) := by
  refine ⟨_, rfl, fun b u z => ?_, upd_same, by rw [upd_ne ne, upd_same]⟩
  rw [upd_ne (ne_of_none z ha), upd_ne (ne_of_none z n), upd_ne (ne_of_none z ha)]
  exact z
theorem se_excF {x fn : Str} (E : ErF X.prog X.w X.K X.mg X.base C.ct x fn) (hr : Room 2 X.A) (ha : SE X C W Γ e Γ1 fr1 f) (hg : Gl X x := by rfl) (hdb : (x == ("__debug__" : Str)) = false := by decide)
    (he : starEach [e] X.env = (false, eval e X.env) :: starEach [] X.env := by rfl) (hpl : (backTo pos (starEach [] X.env)).any (·.1) = false := by rfl) : SE X C W Γ (.Call (.Name x p) [e] [] pos) Γ1 false (mExcF x f) := by
  obtain ⟨Cc, fI, fd, v, e1, gC, T, hi, ht, hb, F1⟩ := E.ex
  refine ⟨peImp (pe_oexV T.T hi ht F1 (hr.mono (by decide)) hb (fun _ _ _ _ _ _ _ z => z.elim) hg gC (pa_cons ha.pe pa_nil he) hdb he hpl) fun σ H Q ⟨hid, ρ, S, q⟩ => ⟨hid, ρ, S, ?_⟩⟩
  unfold mExcF at q
  cases qf : f ρ with
  | bad => rw [qf] at q; exact q
  | exn e ρ' => rw [qf] at q; exact q
  | ok d ρ1 =>
    rw [qf] at q
    intro y H1 tm S1 k1 va t1
    refine ⟨by show 1 ≤ 1000; decide, fun a ha => ⟨a, y, rfl, upd_same, fun dx n ne => ⟨rfl, ?_⟩⟩⟩
    rw [upd_ne ne] at n
    obtain ⟨H2, rfl, s, z1, z2⟩ := exf_heap (Cc := Cc) (fs := [(fn, y)]) ha n ne
    refine q (.ref a) _ [] (S1.fin S.sub s) (k1.fin s fun a ha => (S1.trk a (List.mem_append_right _ ha)).1) (.fz (.exc e1 (.inr ⟨dx, [(fn, y)], ?_, ?_⟩)) fun z => nomatch z) fun _ z => nomatch z
    · rw [show Ms σ ([] ++ hid) Γ1 = Ms σ hid Γ1 from rfl, mask_out fun z => S1.none_out ha (Ms_subH (fun a ha => List.mem_append_right _ ha) _ z), z1]
    · rw [show Ms σ ([] ++ hid) Γ1 = Ms σ hid Γ1 from rfl, mask_out fun z => S1.none_out n (Ms_subH (fun a ha => List.mem_append_right _ ha) _ z), z2]
theorem se_excA {x fn : Str} (E : ErF X.prog X.w X.K X.mg X.base C.ct x fn) (hf : ∀ Cc, C.ct x = some Cc → XfC X.K Cc) (hr : Room 2 X.A) (ha : SE X C W Γ e Γ1 fr1 f) (hg : Gl X x := by rfl) (hdb : (x == ("__debug__" : Str)) = false := by decide)
    (he : starEach [e] X.env = (false, eval e X.env) :: starEach [] X.env := by rfl) (hpl : (backTo pos (starEach [] X.env)).any (·.1) = false := by rfl)
    (hb : attributeBase (.Call (.Name x p) [e] [] pos) fn X.env (eval (.Call (.Name x p) [e] [] pos) X.env) = eval (.Call (.Name x p) [e] [] pos) X.env := by rfl) :
    SE X C W Γ (.Attribute (.Call (.Name x p) [e] [] pos) fn pos') Γ1 false f := by
  obtain ⟨Cc, fI, fd, v, e1, gC, T, hi, ht, hb', F1⟩ := E.ex
  refine ⟨peImp (pe_xa (hf Cc e1) T.no (pe_oexV T.T hi ht F1 (hr.mono (by decide)) hb' (fun _ _ _ _ _ _ _ z => z.elim) hg gC (pa_cons ha.pe pa_nil he) hdb he hpl) hb) fun σ H Q ⟨hid, ρ, S, q⟩ => ⟨hid, ρ, S, ?_⟩⟩
  cases qf : f ρ with
  | bad => rw [qf] at q; exact q
  | exn e ρ' => rw [qf] at q; exact q
  | ok d ρ1 =>
    rw [qf] at q
    intro y H1 tm S1 k1 va t1
    refine ⟨by show 1 ≤ 1000; decide, fun a ha => ⟨a, y, rfl, upd_same, fun dx n ne => ⟨rfl, ?_⟩⟩⟩
    rw [upd_ne ne] at n
    obtain ⟨H2, rfl, s, z1, z2⟩ := exf_heap (Cc := Cc) (fs := [(fn, y)]) ha n ne
    refine ⟨a, dx, [(fn, y)], y, rfl, z1, z2, by simp, ?_⟩
    exact q y _ [] (S1.fin S.sub s) (k1.fin s fun a ha => (S1.trk a (List.mem_append_right _ ha)).1) (.fz ((va.rv (M' := Ms σ hid Γ1) (Ms_subH fun a ha => List.mem_append_right _ ha) t1).mono (.of_same (mask_keep fun b o _ e => s b o e))) fun z => nomatch z) fun _ z => nomatch z
end
end Ip
set_option maxHeartbeats 4000000
namespace Ip
open PySem L2 PySem.Spec PyProof.Rows PySem.W
mutual
def pdE : D → PyData
  | .bl b => .bool b
  | .int i => .int i
  | .str x => .str x
  | .tup ds => .tuple (pdEL ds)
  | .lst ds => .list (pdEL ds)
  | .dic ks ds => .dict ((pdL ks).zip (pdEL ds))
  | _ => .none
def pdEL : List D → List PyData
  | [] => []
  | d :: ds => pdE d :: pdEL ds
end
mutual
def plnE : D → Bool
  | .non => true
  | .bl _ => true
  | .int _ => true
  | .str _ => true
  | .tup ds => plnEL ds
  | .lst ds => plnEL ds
  | .dic _ ds => plnEL ds
  | _ => false
def plnEL : List D → Bool
  | [] => true
  | d :: ds => plnE d && plnEL ds
end
theorem sys_at {K : Frag} (h : sysB K = true) : ∃ o, K.lookup sysModules = some o ∧ o.cls ≠ .type "list" := by
  unfold sysB at h
  split at h
  · rename_i o e
    refine ⟨o, e, fun z => ?_⟩
    rw [z] at h
    exact absurd h (by decide)
  · cases h
section
variable {X : Cx} {pins : List (Addr × Obj)} {σ : L2.St} {H : Hp} {s : Shared} {g : Gx}
theorem not_sys (I : Inv X pins σ H s) (hs : sysB X.K = true) {a : Addr} {vs : List V} (h : SqL X.K H a vs) : sysModules ≠ a := fun z => by
  obtain ⟨o, e, n⟩ := sys_at hs
  have hb := (I.bs _ _ (I.ok.mod.kin _ _ e)).2
  rw [z] at e hb
  rcases h with (h | ⟨_, h⟩) | ⟨o', _, _, h, c, _⟩
  · rw [hb] at h; cases h
  · rw [hb] at h; cases h
  · rw [e] at h; cases h; exact n c
theorem kD_reads {h : Heap} {k : Key} {v : Value} (e : keyIs k v = true) : Reads h v (pdD (kD k)) [] := by
  rcases keyIs_shape e with ⟨i, t, rfl, rfl⟩ | ⟨x, t, rfl, rfl⟩
  · exact .int i t
  · exact .str x t
mutual
theorem RV.readsE (I : Inv X pins σ H s) (hg : g.K = X.K) (hs : sysB X.K = true) : ∀ {d : D} {v : V}, RV g H d v → ∀ u : Value, RelV v u → plnE d = true → ∃ as, Reads s.heap u (pdE d) as ∧ sysModules ∉ as
  | _, _, .non, u, r, _ => by cases r; exact ⟨_, .none, by simp⟩
  | _, _, .bl b, u, r, _ => by cases r; exact ⟨_, .bool b, by simp⟩
  | _, _, .int i, u, r, _ => by obtain ⟨t, rfl⟩ := r; exact ⟨_, .int i t, by simp⟩
  | _, _, .str x, u, r, _ => by obtain ⟨t, rfl⟩ := r; exact ⟨_, .str x t, by simp⟩
  | _, _, .tup h rs, u, r, p => by
    cases r
    obtain ⟨its, vr, ⟨o, h1, h2, n, h3⟩, _⟩ := I.tuple (SqT.of h)
    obtain ⟨as, e, q⟩ := RVs.readsE I hg hs rs its vr p
    exact ⟨as, .tuple h1 h2 h3 e, q⟩
  | _, _, .lst h rs, u, r, p => by
    cases r
    rw [hg] at h
    obtain ⟨its, vr, hp, _⟩ := I.list h
    obtain ⟨as, e, q⟩ := RVs.readsE I hg hs rs its vr p
    obtain ⟨o, n, h1, h2, _, h3⟩ := hp
    exact ⟨_, .list h1 h2 h3 e, fun z => (List.mem_cons.1 z).elim (not_sys I hs h) q⟩
  | _, _, .dK (ks := ks) h l rs, u, r, p => by
    cases r
    obtain ⟨_, hd, vs', rel, dd⟩ := dk_rd I.hok h
    obtain ⟨Dm, bs, e, z, q⟩ := RVs.readsK I hg hs rs ks l vs' rel p
    refine ⟨_, PyProof.V.reads_dictOf (enc := fun k => pdD (kD k)) (fun k key hk => kD_reads hk) dd (z : PyProof.V.PairsRead s.heap _ vs' Dm bs) |> fun x => (show Reads _ _ (pdE _) _ from by simp only [pdE]; rw [← e]; exact x), fun z => (List.mem_cons.1 z).elim (fun z => by rw [← z] at hd; exact absurd hd (by decide)) q⟩
  | _, _, .dT _ _ _, _, _, p => nomatch p
  | _, _, .obj _ _ _ _, _, _, p => nomatch p
  | _, _, .opq _, _, _, p => nomatch p
  | _, _, .clo _ _ _, _, _, p => nomatch p
  | _, _, .exc _ _, _, _, p => nomatch p
theorem RVs.readsE (I : Inv X pins σ H s) (hg : g.K = X.K) (hs : sysB X.K = true) : ∀ {ds : List D} {vs : List V}, RVs g H ds vs → ∀ us : List Value, Vals vs us → plnEL ds = true → ∃ as, ReadsAll s.heap us (pdEL ds) as ∧ sysModules ∉ as
  | _, _, .nil, us, r, _ => by cases r; exact ⟨_, .nil, by simp⟩
  | _, _, .cons h t, us, r, p => by
    cases r with
    | cons r1 r2 =>
      simp only [plnEL, Bool.and_eq_true] at p
      obtain ⟨as, e, q⟩ := RV.readsE I hg hs h _ r1 p.1
      obtain ⟨bs, e2, q2⟩ := RVs.readsE I hg hs t _ r2 p.2
      exact ⟨_, .cons e e2, fun z => (List.mem_append.1 z).elim q q2⟩
theorem RVs.readsK (I : Inv X pins σ H s) (hg : g.K = X.K) (hs : sysB X.K = true) : ∀ {ds : List D} {vs : List V}, RVs g H ds vs → ∀ (ks : List Key), ks.length = vs.length → ∀ (us : List (Key × Value)), KV (ks.zip vs) us → plnEL ds = true →
    ∃ Dm bs, Dm = (pdL (ks.map kD)).zip (pdEL ds) ∧ PyProof.V.PairsRead s.heap (fun k => pdD (kD k)) us Dm bs ∧ sysModules ∉ bs
  | _, _, .nil, ks, l, us, r, _ => by
    cases ks with
    | nil => cases r; exact ⟨[], [], rfl, .nil, by simp⟩
    | cons _ _ => cases l
  | _, _, .cons h t, ks, l, us, r, p => by
    cases ks with
    | nil => cases l
    | cons k ks =>
      cases r with
      | @cons _ b _ _ r1 r2 =>
        obtain ⟨k', w⟩ := b
        obtain ⟨e1, r1⟩ := r1
        dsimp only at e1 r1
        subst e1
        simp only [plnEL, Bool.and_eq_true] at p
        obtain ⟨as, e, q⟩ := RV.readsE I hg hs h _ r1 p.1
        obtain ⟨Dm, bs, e2, e3, q2⟩ := RVs.readsK I hg hs t ks (by simpa using l) _ r2 p.2
        refine ⟨_, _, ?_, .cons e e3, fun z => (List.mem_append.1 z).elim q q2⟩
        rw [e2]
        simp [pdL, pdEL]
end
end
def rpTE (d : D) : Str := (pdE d).shown
def rpE (d : D) : Bool := plnE d && (pdE d).showable && (pdE d).leavesShort 200 && decide ((pdE d).weight ≤ 80000) && decide ((pdE d).depth ≤ 50)
def rReprE (g : Gx) : List V → Hp → VK → Prop := fun xs H Q => ∃ v d, xs = [v] ∧ RV g H d v ∧ rpE d = true ∧ Q (.str (rpTE d)) H
theorem call_reprE {X : Cx} {g : Gx} (hg : g.K = X.K) (hs : sysB X.K = true) (hG : X.A.guards = some []) (hu : X.A.units + 64 < cLine) : CallR X (.builtin "repr") (rReprE g) := by
  intro pins s σ H xs us Q I r h
  obtain ⟨v, d, rfl, rv, ok, q⟩ := h
  obtain ⟨u, rfl, r1⟩ := vals1 r
  simp only [rpE, Bool.and_eq_true, decide_eq_true_eq] at ok
  obtain ⟨⟨⟨⟨ok1, ok2⟩, ok3⟩, ok4⟩, ok5⟩ := ok
  have le : (pdE d).shown.length ≤ sizeLine := by
    have a := PyData.shown_le 200 (by decide) (pdE d) ok3
    have e : sizeLine = 16777216 := sizeLine_eq
    omega
  obtain ⟨as, rd, nsys⟩ := rv.readsE I hg hs u r1 ok1
  have big : ∀ a, u = .ref a → wpAny (model X.prog X.w) X.A (PySem.call (.builtin "repr") [u]) (EP X pins σ Q) X.xe s := fun a e => by
    subst e
    exact repr_of_reads' rd ok2 (fun _ => nsys) hG (by omega) (fun _ _ e => e) (fun h' u' tk hk => ⟨.str _, H, I.kept hk, ⟨_, rfl⟩, q⟩) le
  cases rv with
  | non => cases r1; exact PySem.P.repr_of_none ⟨.str _, H, I.tok _, ⟨_, rfl⟩, q⟩
  | bl b => cases r1; exact PySem.P.repr_of_bool ⟨.str _, H, I.tok _, ⟨_, rfl⟩, q⟩
  | int i =>
    obtain ⟨t, rfl⟩ := r1
    exact PySem.P.repr_of_int (by simpa [pdE, PyData.showable] using ok2) ⟨.str _, H, I.tok _, ⟨_, rfl⟩, q⟩
  | str x =>
    obtain ⟨t, rfl⟩ := r1
    exact PySem.P.repr_of_str ⟨.str _, H, I.tok _, ⟨_, rfl⟩, q⟩ (by simpa [pdE, PyData.shown] using le)
  | _ => cases r1; exact big _ rfl
def oReprE : List D → Option D
  | [d] => ifO (rpE d = true) (.str (rpTE d))
  | _ => none
theorem cal_reprE {g : Gx} : CalS g (rReprE g) oReprE := fun H M vs ds d Q tr ks ho q => by
  unfold oReprE at ho
  split at ho
  · obtain ⟨c, rfl⟩ := ifO_some ho
    cases ks with
    | cons k1 kn =>
      cases kn
      exact ⟨_, _, rfl, k1.rv, c, q _ H (.refl _) (.str _)⟩
  · cases ho
theorem o_reprE {d : D} {ρ : Env} {P : D → Env → Prop} (e : rpE d = true) (w : P (.str (rpTE d)) ρ) : wo (oReprE [d]) ρ P := o_some (show (if rpE d = true then some (D.str (rpTE d)) else none) = _ from if_pos e) w
end Ip
set_option maxHeartbeats 4000000
namespace Ip
open PySem L2 PySem.Spec PyProof.Rows
section
variable {K : PySem.W.Frag} {X : Cx} {C : Ac} {W : WX} {Γ Γ' Γ1 Γ2 Γ3 : List Nat} {fr fr1 fr2 frk : Bool} {f f1 f2 fk : Env → R D} {σ : L2.St} {H : Hp} {Q Q' : VK}
def mDisp2 (k : Str) (g : Env → R (List D)) : Env → R D := fun ρ => (g ρ).bind fun ds ρ1 => match ds with
  | [d1, .int i, d2] => .ok (.dic [.str k, .int i] [d1, d2]) ρ1
  | _ => .bad
def vv3 (k : Str) : List V → List (V × V)
  | [y1, x2, y2] => [(.str k, y1), (x2, y2)]
  | _ => []
theorem se_disp2 {k : Str} {j : Nat} {kp pos : Pos} {kx v1 v2 : Expr} (h1 : SE X C W Γ v1 Γ1 fr1 f1) (hk : SE X C W Γ1 kx Γ2 frk fk) (h2 : SE X C W Γ2 v2 Γ3 fr2 f2) :
    SE X C W Γ (.Dict [some (.Constant (.str k) j kp), some kx] [v1, v2] pos) Γ3 true (mDisp2 k (mCons f1 (mCons fk (mCons f2 mNil)))) := by
  refine ⟨peImp (pe_disp (pps_cons (pe_str (x := k)) h1.pe (pps_cons hk.pe h2.pe (pps_nil (X := X) (pos := pos)))) rfl rfl (by intro z; cases z) (show 2 ≤ 15 by decide)) fun σ H Q ⟨hid, ρ, S, p⟩ => ?_⟩
  intro D hD
  have kh := S.holdStp (o := HO.dK []) hD
  have S2 := S.hold (o := HO.dK []) hD
  have hDn : D ∉ hid := fun z => (S.trk D z).1 hD
  have A : tAs X.K C W Γ Γ3 (mCons f1 (mCons fk (mCons f2 mNil))) σ (upd H D (.dK [])) fun vs H2 => H2 D = some (.dK []) ∧ ∃ kvs : List (Key × V), vv3 k vs = kvs.map (fun kv => (kV kv.1, kv.2)) ∧ kvs.length ≤ 15 ∧ Q (.ref D) (upd H2 D (.dK (mergeK [] kvs))) := by
    refine ⟨D :: hid, ρ, S2, ?_⟩
    unfold mDisp2 at p
    cases q : mCons f1 (mCons fk (mCons f2 mNil)) ρ with
    | bad => rw [q] at p; exact p
    | exn e ρ' => rw [q] at p; exact p
    | ok ds ρ1 =>
      rw [q] at p
      dsimp only [R.bind] at p
      intro vs H1 tm S1 k1 t1 fs
      split at p
      · rename_i d1 i d2
        have sub1 : ∀ b ∈ Ms σ (D :: hid) Γ3, b ∈ Ms σ (tm ++ (D :: hid)) Γ3 := Ms_subH fun a ha => List.mem_append_right _ ha
        have S8 := S1.forget (hid' := D :: hid) (fun a ha => List.mem_append_right _ ha) S2.sub
        have kA : Stp (Ms σ hid Γ) (Ms σ (D :: hid) Γ3) hid H H1 := ⟨(kh.le.trans k1.le).trans (.of_same (mask_sub sub1)), fun c hc => (k1.fx c (List.mem_cons_of_mem _ hc)).trans (kh.fx c hc)⟩
        have rv : RVs (gx X.K C) (mask H1 (Ms σ (D :: hid) Γ3)) [d1, .int i, d2] vs := fs.rv sub1 t1
        have hDM : D ∈ Ms σ (D :: hid) Γ3 := mem_Ms.mpr (.inl List.mem_cons_self)
        have hl1 : H1 D = some (.dK []) := (k1.fx D List.mem_cons_self).trans upd_same
        cases rv with
        | @cons _ y1 _ _ r1 rr =>
          cases rr with
          | cons r2 rr =>
            cases r2
            cases rr with
            | @cons _ y2 _ _ r3 rr =>
              cases rr
              refine ⟨hl1, [(.inr k, y1), (.inl i, y2)], rfl, (show 2 ≤ 15 by decide), ?_⟩
              have em : mergeK [] [((.inr k : Key), y1), (.inl i, y2)] = [(.inr k, y1), (.inl i, y2)] := mergeK_new _ [] (by simp)
              rw [em]
              refine p (.ref D) _ [D] (S8.tmpSet hDn S.sub) (kA.tmpSet hDM hDn) ?_ fun c hc z => ?_
              · refine .fr (.dK (ks := [.inr k, .inl i]) (vs := [y1, y2]) upd_same rfl ?_)
                show RVs _ (mask (upd H1 D _) (Ms σ (D :: hid) Γ3)) _ _
                rw [mask_updM hDM]
                exact .cons r1 (.cons r3 .nil)
              · rw [List.mem_singleton.mp hc] at z
                rcases mem_Ms.mp z with z | ⟨i, hi, e⟩
                · exact hDn z
                · exact S8.dis i hi (by rw [e]; exact List.mem_cons_self)
      · exact p.elim
  exact tE_imp (sa_step (Γ1 := Γ1) A) fun y1 H2 a2 => tE_imp (sa_step (Γ1 := Γ2) a2) fun x2 H3 a3 => tE_imp (sa_step (Γ1 := Γ3) a3) fun y2 H4 ⟨hid4, ρ4, S4, p4⟩ => p4 [] H4 [] S4 (Stp.refl _ _ _) (fun _ z => nomatch z) .nil
end
def csX (ns : List Str) (T : Str) : List (Str × Bool) := ns.map fun c => (c, isaX T c)
theorem csX_look {ns : List Str} {T c : Str} {b : Bool} (h : (csX ns T).lookup c = some b) : c ∈ ns ∧ b = isaX T c := by
  induction ns with
  | nil => cases h
  | cons n ns ih =>
    unfold csX at h
    rw [List.map_cons, List.lookup_cons] at h
    cases q : c == n with
    | true =>
      rw [q] at h
      have e : c = n := beq_iff_eq.mp q
      subst e
      cases h
      exact ⟨List.mem_cons_self, rfl⟩
    | false =>
      rw [q] at h
      obtain ⟨m, e⟩ := ih h
      exact ⟨List.mem_cons_of_mem _ m, e⟩
structure ExcO (K : PySem.W.Frag) (mg : Str → Option Value) (ct : Str → Option Addr) (T : Str) (cs : List (Str × Bool)) : Prop where
  ex : ∃ CT : Addr, mg T = some (.ref CT) ∧ ExcIs K ct (.ref CT) cs
theorem ct_err {ns : List Str} {K : PySem.W.Frag} (ht : ns.all (fun p => !(tabKs.contains p)) = true) {c : Str} (h : c ∈ ns) : (bif tabKs.contains c then none else some (He.ga K c)) = some (He.ga K c) := by
  have z := List.all_eq_true.1 ht c h
  rw [Bool.not_eq_true'] at z
  simp only [z, cond_false]
theorem tab_no {K : PySem.W.Frag} {P : Addr} (h : TabAt (fun c => bif tabKs.contains c then none else some (He.ga K c)) P) : False := by
  obtain ⟨x, m, e⟩ := h
  have z : tabKs.contains x = true := List.contains_iff_mem.2 m
  simp only [z, cond_true] at e
  cases e
theorem ExcO.of {K : PySem.W.Frag} {mg : Str → Option Value} {ns : List Str} {T : Str} (hm : mg T = some (.ref (He.ga K T))) (h : excT K ns T = true) (ha : excA K ns = true) (ht : ns.all (fun p => !(tabKs.contains p)) = true) :
    ExcO K mg (fun c => bif tabKs.contains c then none else some (He.ga K c)) T (csX ns T) := ⟨_, hm, ⟨fun c b e => by
  obtain ⟨m, rfl⟩ := csX_look e
  exact ⟨_, ct_err ht m, excC_ok (List.all_eq_true.1 ha c m), of_decide_eq_true (List.all_eq_true.1 h c m)⟩⟩⟩
theorem ExcV.of {K : PySem.W.Frag} {ns : List Str} (h : excV K ns = true) (ha : excA K ns = true) (ht : ns.all (fun p => !(tabKs.contains p)) = true) :
    ExcIs K (fun c => bif tabKs.contains c then none else some (He.ga K c)) (.type "ValueError") (csX ns "ValueError") := ⟨fun c b e => by
  obtain ⟨m, rfl⟩ := csX_look e
  refine ⟨_, ct_err ht m, excC_ok (List.all_eq_true.1 ha c m), (of_decide_eq_true (List.all_eq_true.1 h c m)).trans ?_⟩
  unfold isaX
  simp⟩
section
variable {X : Cx} {C : Ac} {W : WX} {Γ Γ' : List Nat} {fr : Bool} {e : Expr} {f : Env → R D} {p pos p2 : Pos}
theorem se_isXC {x : Str} {cs : List (Str × Bool)} (he : SE X C W Γ e Γ' fr f) (O : ExcO X.K X.mg C.ct x cs) (hi : X.mg "isinstance" = none) (hgi : Gl X "isinstance" := by rfl) (hg : Gl X x := by rfl) (hvi : bootBuiltins "isinstance" = some (.builtin "isinstance") := by decide +kernel)
    (hdb : (x == ("__debug__" : Str)) = false := by decide)
    (hs : starEach [e, .Name x p2] X.env = (false, eval e X.env) :: starEach [.Name x p2] X.env := by rfl) (hs2 : starEach [.Name x p2] X.env = (false, eval (.Name x p2) X.env) :: starEach [] X.env := by rfl)
    (hpl : (backTo pos (starEach [.Name x p2] X.env)).any (·.1) = false := by rfl) : SE X C W Γ (.Call (.Name "isinstance" p) [e, .Name x p2] [] pos) Γ' false (mUn (isxD cs) f) := by
  obtain ⟨CT, hm, O⟩ := O.ex
  exact se_isXO he hm O hi hgi hg hvi hdb hs hs2 hpl
theorem se_isXV {cs : List (Str × Bool)} (he : SE X C W Γ e Γ' fr f) (O : ExcIs X.K C.ct (.type "ValueError") cs) (hi : X.mg "isinstance" = none) (hm : X.mg "ValueError" = none) (hgi : Gl X "isinstance" := by rfl) (hg : Gl X "ValueError" := by rfl)
    (s1 : starEach [e, .Name "ValueError" p2] X.env = (false, eval e X.env) :: starEach [.Name "ValueError" p2] X.env := by rfl) (s2 : starEach [.Name "ValueError" p2] X.env = (false, eval (.Name "ValueError" p2) X.env) :: starEach [] X.env := by rfl)
    (hpl : (backTo pos (starEach [.Name "ValueError" p2] X.env)).any (·.1) = false := by rfl) : SE X C W Γ (.Call (.Name "isinstance" p) [e, .Name "ValueError" p2] [] pos) Γ' false (mUn (isxD cs) f) :=
  se_isXB he O hi hm hgi hg (by decide +kernel) (by decide +kernel) (by decide) (by decide) s1 s2 hpl
end
theorem o_isx {cs : List (Str × Bool)} {c : Str} {b : Bool} {ρ : Env} {P : D → Env → Prop} (e : cs.lookup c = some b) (w : P (.bl b) ρ) : wo (isxD cs (.exc c)) ρ P :=
  o_some (show (cs.lookup c).map D.bl = some (.bl b) by rw [e]; rfl) w
theorem w_exc {E : Ex → Env → Prop} {P : D → Env → Prop} {c : Str} {ρ : Env} (w : P (.exc c) ρ) : wpx E (mExc c ρ) P := w
theorem w_excF {E : Ex → Env → Prop} {P : D → Env → Prop} {c : Str} {f : Env → R D} {ρ : Env} (w : wpx E (f ρ) fun _ ρ' => P (.exc c) ρ') : wpx E (mExcF c f ρ) P := wp_bind w
theorem w_disp2 {E : Ex → Env → Prop} {P : D → Env → Prop} {k : Str} {g : Env → R (List D)} {ρ : Env} (w : wpx E (g ρ) fun ds ρ' => ∃ d1 i d2, ds = [d1, .int i, d2] ∧ P (.dic [.str k, .int i] [d1, d2]) ρ') : wpx E (mDisp2 k g ρ) P :=
  wp_bind (wp_imp w fun ds ρ' ⟨d1, i, d2, e, w⟩ => by subst e; exact w)
end Ip
set_option maxHeartbeats 4000000
namespace Wk01
open PySem L2 PySem.Spec PyProof.Rows Ip
structure Blt (mg : Str → Option Value) : Prop where
  n_ValueError : mg "ValueError" = none
  n_abs : mg "abs" = none
  n_int : mg "int" = none
  n_isinstance : mg "isinstance" = none
  n_len : mg "len" = none
  n_range : mg "range" = none
  n_repr : mg "repr" = none
  n_str : mg "str" = none
  n_sum : mg "sum" = none
def m_law_hand : Ip.Env → R Fl := (mSeq (mSetO 1 (mLc (mSeqI (mCutL 63 (mVar 0))) (gNm 2) mYes (mArg oInt (mCons (mVar 2) mNil)) [2])) (mRet (mLst (mCons (mVar 1) (mCons (mC (.int 0)) (mCons (mC (.int 0)) (mCons (mC (.int 0)) (mCons (m2 modD (mPair (mArg oSum (mCons (mSliceL (mVar 1) mONone (mOSome (mC (.int 1)))) mNil)) (mC (.int 1000003)))) (mCons (mC (.int 0)) mNil)))))))))
def F_law_hand : FSem := fnSem 3 [] m_law_hand
def m_law_kinds : Ip.Env → R Fl := (mSeq (mSet 1 (mLst (mCons (mUn (isxD (csX N_errs "NoNumber")) (mVar 0)) (mCons (mUn (isxD (csX N_errs "NoValues")) (mVar 0)) (mCons (mUn (isxD (csX N_errs "NoRow")) (mVar 0)) (mCons (mUn (isxD (csX N_errs "NoSigns")) (mVar 0)) mNil)))))) (mSeq (mSet 2 (mLst (mCons (mUn (isxD (csX N_errs "NoText")) (mVar 0)) (mCons (mUn (isxD (csX N_errs "NoSort")) (mVar 0)) (mCons (mUn (isxD (csX N_errs "NoGuard")) (mVar 0)) (mCons (mUn (isxD (csX N_errs "NoRoom")) (mVar 0)) mNil)))))) (mSeq (mSet 3 (mLst (mCons (mUn (isxD (csX N_errs "NoDegree")) (mVar 0)) (mCons (mUn (isxD (csX N_errs "NoMove")) (mVar 0)) (mCons (mUn (isxD (csX N_errs "NoBack")) (mVar 0)) (mCons (mUn (isxD (csX N_errs "NoOther")) (mVar 0)) mNil)))))) (mSeq (mSet 4 (mLst (mCons (mUn (isxD (csX N_errs "NoMost")) (mVar 0)) (mCons (mUn (isxD (csX N_errs "NoEven")) (mVar 0)) (mCons (mUn (isxD (csX N_errs "NoPolynomial")) (mVar 0)) (mCons (mUn (isxD (csX N_errs "NoList")) (mVar 0)) mNil)))))) (mSeq (mSet 5 (mLst (mCons (mUn (isxD (csX N_errs "NoWriters")) (mVar 0)) (mCons (mUn (isxD (csX N_errs "NoWriter")) (mVar 0)) (mCons (mUn (isxD (csX N_errs "Open")) (mVar 0)) mNil))))) (mRet (m2 catD (mPair (m2 catD (mPair (m2 catD (mPair (m2 catD (mPair (mVar 1) (mVar 2))) (mVar 3))) (mVar 4))) (mVar 5)))))))))
def F_law_kinds : FSem := fnSem 6 [] m_law_kinds
def m_law_right : Ip.Env → R Fl := (mSeq (mIfS (mOr (mNot (mTest (mUn (isxD (csX N_errs "ValueError")) (mVar 0)))) (mNot (mTest (mUn (isxD (csX N_errs "MadeError")) (mVar 0))))) (mRet (mC (.bl false))) mNx) (mRet (m2 eqD (mPair (mCall0 F_law_kinds (mCons (mVar 0) mNil)) (mLc (mArgI asR1 (mCons (mC (.int 19)) mNil)) (gNm 2) mYes (m2 eqD (mPair (mVar 2) (mVar 1))) [2])))))
def F_law_right : FSem := fnSem 3 [] m_law_right
def m_law_plain_error : Ip.Env → R Fl := (mSeq (mIfS (mTest (m2 eqD (mPair (mVar 0) (mC (.int 0))))) (mRet (mExc "NoNumber")) mNx) (mSeq (mIfS (mTest (m2 eqD (mPair (mVar 0) (mC (.int 1))))) (mRet (mExc "NoValues")) mNx) (mSeq (mIfS (mTest (m2 eqD (mPair (mVar 0) (mC (.int 2))))) (mRet (mExc "NoRow")) mNx) (mSeq (mIfS (mTest (m2 eqD (mPair (mVar 0) (mC (.int 3))))) (mRet (mExc "NoSigns")) mNx) (mSeq (mIfS (mTest (m2 eqD (mPair (mVar 0) (mC (.int 4))))) (mRet (mExc "NoText")) mNx) (mSeq (mIfS (mTest (m2 eqD (mPair (mVar 0) (mC (.int 5))))) (mRet (mExc "NoSort")) mNx) (mSeq (mIfS (mTest (m2 eqD (mPair (mVar 0) (mC (.int 6))))) (mRet (mExc "NoGuard")) mNx) (mSeq (mIfS (mTest (m2 eqD (mPair (mVar 0) (mC (.int 7))))) (mRet (mExc "NoRoom")) mNx) (mSeq (mIfS (mTest (m2 eqD (mPair (mVar 0) (mC (.int 8))))) (mRet (mExc "NoDegree")) mNx) (mSeq (mIfS (mTest (m2 eqD (mPair (mVar 0) (mC (.int 9))))) (mRet (mExc "NoMove")) mNx) (mSeq (mIfS (mTest (m2 eqD (mPair (mVar 0) (mC (.int 10))))) (mRet (mExc "NoBack")) mNx) (mSeq (mIfS (mTest (m2 eqD (mPair (mVar 0) (mC (.int 11))))) (mRet (mExc "NoOther")) mNx) (mSeq (mIfS (mTest (m2 eqD (mPair (mVar 0) (mC (.int 12))))) (mRet (mExc "NoMost")) mNx) (mRet (mExc "NoEven")))))))))))))))
def F_law_plain_error : FSem := fnSem 1 [] m_law_plain_error
def m_law_mixed : Ip.Env → R Fl := (mSeq (mSet 2 (m2 modD (mPair (mArg oInt (mCons (m2 powD (mPair (m2 addD (mPair (m2 addD (mPair (m2 modD (mPair (mArg oInt (mCons (mVar 0) mNil)) (mC (.int 2147483647)))) (m2 mulD (mPair (mC (.int 7919)) (mVar 1))))) (mC (.int 1)))) (mC (.int 5)))) mNil)) (mC (.int 2147483647))))) (mRet (m2 modD (mPair (mArg oInt (mCons (m2 addD (mPair (m2 mulD (mPair (mVar 2) (m2 addD (mPair (m2 fdivD (mPair (mVar 2) (mC (.int 1009)))) (mC (.int 69621)))))) (m2 mulD (mPair (mC (.int 40692)) (mVar 1))))) mNil)) (mC (.int 2147483629))))))
def F_law_mixed : FSem := fnSem 3 [] m_law_mixed
def m_law_draw : Ip.Env → R Fl := (mSeq (mAsg (m2 addD (mPair (m2 ixD (mPairO 0 (mC (.int 3)))) (mC (.int 1)))) (gIx 0 (mC (.int 3)))) (mSeq (mIfS (mTest (m2 geD (mPair (m2 ixD (mPairO 0 (mC (.int 1)))) (mArg oLen (mCons (m2 ixD (mPairO 0 (mC (.int 0)))) mNil))))) (mRet (m2 modD (mPair (mCall0 F_law_mixed (mCons (m2 ixD (mPairO 0 (mC (.int 4)))) (mCons (m2 ixD (mPairO 0 (mC (.int 3)))) mNil))) (mVar 1)))) mNx) (mSeq (mSet 2 (m2 ixD (mPair (m2 ixD (mPairO 0 (mC (.int 0)))) (m2 ixD (mPairO 0 (mC (.int 1))))))) (mSeq (mIfS (mTest (m2 ltD (mPair (mArg oAbs (mCons (mVar 2) mNil)) (m2 powD (mPair (mC (.int 10)) (mC (.int 18))))))) (mSeq (mAsg (m2 addD (mPair (m2 ixD (mPairO 0 (mC (.int 2)))) (mC (.int 1)))) (gIx 0 (mC (.int 2)))) (mSeq (mIfS (mTest (m2 geD (mPair (m2 ixD (mPairO 0 (mC (.int 2)))) (mC (.int 5))))) (mSeq (mAsg (m2 addD (mPair (m2 ixD (mPairO 0 (mC (.int 1)))) (mC (.int 1)))) (gIx 0 (mC (.int 1)))) (mAsg (mC (.int 0)) (gIx 0 (mC (.int 2))))) mNx) (mRet (m2 modD (mPair (mCall0 F_law_mixed (mCons (mVar 2) (mCons (m2 ixD (mPairO 0 (mC (.int 3)))) mNil))) (mVar 1)))))) mNx) (mSeq (mIfS (mTest (m2 eqD (mPair (m2 ixD (mPairO 0 (mC (.int 2)))) (mC (.int 0))))) (mSeq (mAsg (mC (.int 1)) (gIx 0 (mC (.int 2)))) (mAsg (mArg oAbs (mCons (mVar 2) mNil)) (gIx 0 (mC (.int 5))))) mNx) (mSeq (mSet 3 (m2 modD (mPair (mArg oInt (mCons (m2 ixD (mPairO 0 (mC (.int 5)))) mNil)) (mVar 1)))) (mSeq (mAsg (m2 fdivD (mPair (m2 ixD (mPairO 0 (mC (.int 5)))) (mVar 1))) (gIx 0 (mC (.int 5)))) (mSeq (mIfS (mTest (m2 eqD (mPair (m2 ixD (mPairO 0 (mC (.int 5)))) (mC (.int 0))))) (mSeq (mAsg (m2 addD (mPair (m2 ixD (mPairO 0 (mC (.int 1)))) (mC (.int 1)))) (gIx 0 (mC (.int 1)))) (mAsg (mC (.int 0)) (gIx 0 (mC (.int 2))))) mNx) (mRet (mVar 3))))))))))
def F_law_draw : FSem := fnSem 4 [0] m_law_draw
def m_law_number : Ip.Env → R Fl := (mSeq (mSet 1 (mCall1 F_law_draw 0 0 (mIo (mCons (mC (.int 4)) mNil)))) (mSeq (mIfS (mTest (m2 ltD (mPair (mVar 1) (mC (.int 2))))) (mRet (m2 subD (mPair (mCall1 F_law_draw 0 0 (mIo (mCons (mC (.int 7)) mNil))) (mC (.int 3))))) mNx) (mSeq (mIfS (mTest (m2 eqD (mPair (mVar 1) (mC (.int 2))))) (mRet (m2 subD (mPair (mCall1 F_law_draw 0 0 (mIo (mCons (mC (.int 2001)) mNil))) (mC (.int 1000))))) mNx) (mSeq (mSet 2 (m2 addD (mPair (m2 mulD (mPair (mCall1 F_law_draw 0 0 (mIo (mCons (m2 powD (mPair (mC (.int 10)) (mC (.int 20)))) mNil))) (m2 powD (mPair (mC (.int 10)) (mC (.int 20)))))) (mCall1 F_law_draw 0 0 (mIo (mCons (m2 powD (mPair (mC (.int 10)) (mC (.int 20)))) mNil)))))) (mRet (m2 subD (mPair (mVar 2) (m2 mulD (mPair (m2 mulD (mPair (mC (.int 2)) (mVar 2))) (mCall1 F_law_draw 0 0 (mIo (mCons (mC (.int 2)) mNil))))))))))))
def F_law_number : FSem := fnSem 3 [0] m_law_number
def m_law_value : Ip.Env → R Fl := (mSeq (mSet 1 (mCall1 F_law_draw 0 0 (mIo (mCons (mC (.int 7)) mNil)))) (mSeq (mSet 2 (mCall1 F_law_number 0 0 (mIo mNil))) (mSeq (mIfS (mTest (m2 eqD (mPair (mVar 1) (mC (.int 0))))) (mRet (mVar 2)) mNx) (mSeq (mIfS (mTest (m2 eqD (mPair (mVar 1) (mC (.int 1))))) (mRet (m2 addD (mPair (mC (.str "part ")) (mArg oStrI (mCons (mVar 2) mNil))))) mNx) (mSeq (mIfS (mTest (m2 eqD (mPair (mVar 1) (mC (.int 2))))) (mRet (mC .non)) mNx) (mSeq (mIfS (mTest (m2 eqD (mPair (mVar 1) (mC (.int 3))))) (mRet (mC (.bl true))) mNx) (mSeq (mIfS (mTest (m2 eqD (mPair (mVar 1) (mC (.int 4))))) (mRet (mLst (mCons (mVar 2) (mCons (mLst (mCons (mVar 2) mNil)) mNil)))) mNx) (mSeq (mIfS (mTest (m2 eqD (mPair (mVar 1) (mC (.int 5))))) (mRet (mTup (mCons (mVar 2) (mCons (mTup mNil) mNil)))) mNx) (mRet (mDisp2 "index" (mCons (mVar 2) (mCons (mVar 2) (mCons (mLst (mCons (mC (.int 1)) (mCons (mC (.int 2)) mNil))) mNil)))))))))))))
def F_law_value : FSem := fnSem 3 [0] m_law_value
def m_law : Ip.Env → R Fl := (mSeq (mSetO 1 (mCall0 F_law_hand (mCons (mVar 0) mNil))) (mSeq (mFor (mArgI asR1 (mCons (mC (.int 14)) mNil)) (gNm 2) (mIfS (mNot (mTest (mCall0 F_law_right (mCons (mCall0 F_law_plain_error (mCons (mVar 2) mNil)) (mCons (mVar 2) mNil))))) (mRet (mC (.bl false))) mNx)) (mSeq (mIfS (mTest (m2 neD (mPair (mCall0 F_law_kinds (mCons (mExc "MadeError") mNil)) (mLc (mArgI asR1 (mCons (mC (.int 19)) mNil)) (gNm 6) mYes (mC (.bl false)) [6])))) (mRet (mC (.bl false))) mNx) (mSeq (mFor (mArgI asR1 (mCons (mC (.int 2)) mNil)) (gNm 3) (mSeq (mSet 4 (mCall1 F_law_value 0 1 (mIo mNil))) (mSeq (mSet 5 (mArg oReprE (mCons (mVar 4) mNil))) (mSeq (mIfS (mOr (mNot (mTest (mCall0 F_law_right (mCons (mExcF "NoPolynomial" (mVar 4)) (mCons (mC (.int 14)) mNil))))) (mTest (m2 neD (mPair (mArg oReprE (mCons (mVar 4) mNil)) (mVar 5))))) (mRet (mC (.bl false))) mNx) (mSeq (mIfS (mOr (mNot (mTest (mCall0 F_law_right (mCons (mExcF "NoList" (mVar 4)) (mCons (mC (.int 15)) mNil))))) (mTest (m2 neD (mPair (mArg oReprE (mCons (mVar 4) mNil)) (mVar 5))))) (mRet (mC (.bl false))) mNx) (mSeq (mIfS (mOr (mNot (mTest (mCall0 F_law_right (mCons (mExcF "NoWriters" (mVar 4)) (mCons (mC (.int 16)) mNil))))) (mTest (m2 neD (mPair (mArg oReprE (mCons (mVar 4) mNil)) (mVar 5))))) (mRet (mC (.bl false))) mNx) (mSeq (mIfS (mOr (mNot (mTest (mCall0 F_law_right (mCons (mExcF "NoWriter" (mVar 4)) (mCons (mC (.int 17)) mNil))))) (mTest (m2 neD (mPair (mArg oReprE (mCons (mVar 4) mNil)) (mVar 5))))) (mRet (mC (.bl false))) mNx) (mSeq (mIfS (mOr (mNot (mTest (mCall0 F_law_right (mCons (mExcF "Open" (mVar 4)) (mCons (mC (.int 18)) mNil))))) (mTest (m2 neD (mPair (mArg oReprE (mCons (mVar 4) mNil)) (mVar 5))))) (mRet (mC (.bl false))) mNx) (mIfS (mTest (m2 neD (mPair (mArg oReprE (mCons (mVar 4) mNil)) (mVar 5)))) (mRet (mC (.bl false))) mNx))))))))) (mRet (mUn (isxD (csX N_errs "ValueError")) (mExc "MadeError")))))))
def F_law : FSem := fnSem 7 [] m_law
end Wk01
set_option maxHeartbeats 4000000
namespace Wk01
open PySem L2 PySem.Spec PyProof.Rows Ip
section
variable {P : Program} {w : World} {K : PySem.W.Frag} {mg : Str → Option Value} {base : Heap} {ct : Str → Option Addr}
theorem sc_law_hand : FnScope N_law_hand P_law_hand (defScope s_law_hand) := ⟨rfl, rfl, rfl, by decide +kernel, rfl, by decide +kernel, by decide +kernel⟩
theorem ok_law_hand {f : Addr} {fd : FuncData} (B : Blt mg)  (F : FunD K "_law_hand" "_law_hand" (defArgs s_law_hand) (defBody s_law_hand) (defScope s_law_hand) [] [] f fd) : FnOk P w K mg base (L2.CX P w) 1 f fd P_law_hand (spF K ct 1 [] true F_law_hand) := def_okD (k := 0) F sc_law_hand rfl fun cdv A outer s H E hid ioA hr =>
  (ss_cons (ss_let (Γ2 := []) (ss_setLc 1 (Γ2 := []) rfl sc_law_hand.nd (blkOk_by (own := [("_law_cell", 2)]) (by show blkC N_law_hand (defScope s_law_hand) _ _ = true; decide +kernel)) (si_seq (se_cutL (se_var 0))) (fun _ _ _ _ _ => (sg_name 2 sc_law_hand.nd)) (fun _ _ _ _ _ => sps_nil) (fun _ _ _ _ _ => (se_calT call_int1 cal_int B.n_int (sv_cons (se_var 2) sv_nil))))) (ss_one (ss_ret (se_lst (sa_cons (se_var 1) (sa_cons (se_int (fr := false)) (sa_cons (se_int (fr := false)) (sa_cons (se_int (fr := false)) (sa_cons (se_bin2 op_mod mod_ok (s2_ee (se_calB (cr_sum rfl) cal_sum B.n_sum (sv_cons (se_sliceL (se_var 1) so_none (so_some (se_int (fr := false)))) sv_nil)) (se_int (fr := false)))) (sa_cons (se_int (fr := false)) sa_nil))))))))))
theorem bi_law_hand {f : Addr} {fd : FuncData} (F : FunD K "_law_hand" "_law_hand" (defArgs s_law_hand) (defBody s_law_hand) (defScope s_law_hand) [] [] f fd) : Binds K fd P_law_hand [] := F.bindsN fun _ _ _ _ _ _ us hl => match us, hl with | [_], _ => rfl
theorem sc_law_mixed : FnScope N_law_mixed P_law_mixed (defScope s_law_mixed) := ⟨rfl, rfl, rfl, by decide +kernel, rfl, by decide +kernel, by decide +kernel⟩
theorem ok_law_mixed {f : Addr} {fd : FuncData} (B : Blt mg)  (F : FunD K "_law_mixed" "_law_mixed" (defArgs s_law_mixed) (defBody s_law_mixed) (defScope s_law_mixed) [] [] f fd) : FnOk P w K mg base (L2.CX P w) 1 f fd P_law_mixed (spF K ct 2 [] false F_law_mixed) := def_okD (k := 0) F sc_law_mixed rfl fun cdv A outer s H E hid ioA hr =>
  (ss_cons (ss_set 2 (Γ2 := []) sc_law_mixed.nd (se_bin2 op_mod mod_ok (s2_ee (se_calT call_int1 cal_int B.n_int (sv_cons (se_bin2 op_pow pow_ok (s2_ee (se_bin2 (or_or op_add op_add_str) add_ok (s2_ee (se_bin2 (or_or op_add op_add_str) add_ok (s2_ee (se_bin2 op_mod mod_ok (s2_ee (se_calT call_int1 cal_int B.n_int (sv_cons (se_var 0) sv_nil)) (se_int (fr := false)))) (se_bin2 (or_or op_mul op_mulW) mul_ok (s2_ee (se_int (fr := false)) (se_var 1))))) (se_int (fr := false)))) (se_int (fr := false)))) sv_nil)) (se_int (fr := false))))) (ss_one (ss_ret (se_bin2 op_mod mod_ok (s2_ee (se_calT call_int1 cal_int B.n_int (sv_cons (se_bin2 (or_or op_add op_add_str) add_ok (s2_ee (se_bin2 (or_or op_mul op_mulW) mul_ok (s2_ee (se_var 2) (se_bin2 (or_or op_add op_add_str) add_ok (s2_ee (se_bin2 op_fdivW fdiv_ok (s2_ee (se_var 2) (se_int (fr := false)))) (se_int (fr := false)))))) (se_bin2 (or_or op_mul op_mulW) mul_ok (s2_ee (se_int (fr := false)) (se_var 1))))) sv_nil)) (se_int (fr := false)))))))
theorem bi_law_mixed {f : Addr} {fd : FuncData} (F : FunD K "_law_mixed" "_law_mixed" (defArgs s_law_mixed) (defBody s_law_mixed) (defScope s_law_mixed) [] [] f fd) : Binds K fd P_law_mixed [] := F.bindsN fun _ _ _ _ _ _ us hl => match us, hl with | [_, _], _ => rfl
theorem sc_law : FnScope N_law P_law (defScope s_law) := ⟨rfl, rfl, rfl, by decide +kernel, rfl, by decide +kernel, by decide +kernel⟩
theorem ok_law {f : Addr} {fd : FuncData} (B : Blt mg) (h_law_hand : Fn P w K mg base ct "_law_hand" 1 1 [] true F_law_hand) (h_law_right : Fn P w K mg base ct "_law_right" 2 2 [] false F_law_right) (h_law_plain_error : Fn P w K mg base ct "_law_plain_error" 1 1 [] false F_law_plain_error) (h_law_kinds : Fn P w K mg base ct "_law_kinds" 1 1 [] false F_law_kinds) (h_law_value : Fn P w K mg base ct "_law_value" 4 1 [0] false F_law_value) (h_er_MadeError : Er K mg ct "MadeError") (h_isx_ValueError : ExcIs K ct (.type "ValueError") (csX N_errs "ValueError")) (h_xfa_NoList : ∀ a, ct "NoList" = some a → XfC K a) (h_xfa_NoPolynomial : ∀ a, ct "NoPolynomial" = some a → XfC K a) (h_xfa_NoWriter : ∀ a, ct "NoWriter" = some a → XfC K a) (h_xfa_NoWriters : ∀ a, ct "NoWriters" = some a → XfC K a) (h_xfa_Open : ∀ a, ct "Open" = some a → XfC K a) (hS : sysB K = true) (h_erf_NoList : ErF P w K mg base ct "NoList" "index") (h_erf_NoPolynomial : ErF P w K mg base ct "NoPolynomial" "index") (h_erf_NoWriter : ErF P w K mg base ct "NoWriter" "part") (h_erf_NoWriters : ErF P w K mg base ct "NoWriters" "index") (h_erf_Open : ErF P w K mg base ct "Open" "most") (F : FunD K "law" "law" (defArgs s_law) (defBody s_law) (defScope s_law) [] [] f fd) : ∀ A : Around, Room 5 A → A.guards = some [] → FnAt P w K mg base (L2.CX P w) A f fd P_law (spF K ct 1 [] false F_law) := fun A hr0 hG => def_at (k := 4) F sc_law rfl hr0 fun cdv outer s H E hid ioA hr =>
  (ss_cons (ss_setO 1 (Γ2 := []) sc_law.nd (se_call0 h_law_hand cx_takes (hr.mono (by decide)) (sa_cons (se_var 0) sa_nil))) (ss_cons (ss_for cx_own rfl (si_range1 (sa_cons (se_int (fr := false)) sa_nil) B.n_range) (sg_name 2 sc_law.nd) (ss_one (ss_if (sp_not (sp_val (se_call0 h_law_right cx_takes (hr.mono (by decide)) (sa_cons (se_call0 h_law_plain_error cx_takes (hr.mono (by decide)) (sa_cons (se_var 2) sa_nil)) (sa_cons (se_var 2) sa_nil))))) (ss_one (ss_ret (se_bl (fr := false)))) ss_nil))) (ss_cons (ss_if (sp_cmp2 (op_neD (room64 hr)) ne_ok (s2_ee (se_call0 h_law_kinds cx_takes (hr.mono (by decide)) (sa_cons (se_exc0 h_er_MadeError) sa_nil)) (se_lc rfl sc_law.nd (blkOk_by (own := [("_law_k", 6)]) (by show blkC N_law (defScope s_law) _ _ = true; decide +kernel)) (si_range1 (sa_cons (se_int (fr := false)) sa_nil) B.n_range) (fun _ _ _ _ _ => (sg_name 6 sc_law.nd)) (fun _ _ _ _ _ => sps_nil) (fun _ _ _ _ _ => (se_bl (fr := false)))))) (ss_one (ss_ret (se_bl (fr := false)))) ss_nil) (ss_cons (ss_for cx_own rfl (si_range1 (sa_cons (se_int (fr := false)) sa_nil) B.n_range) (sg_name 3 sc_law.nd) (ss_cons (ss_set 4 (Γ2 := [1]) sc_law.nd (se_call1 h_law_value cx_takes (hr.mono (by decide)) (sa_io 1 sa_nil))) (ss_cons (ss_set 5 (Γ2 := [1]) sc_law.nd (se_calB (call_reprE rfl hS hG (room64 hr)) cal_reprE B.n_repr (sv_cons (se_var 4) sv_nil))) (ss_cons (ss_if (SW.pt (sw_or (sp_not (sp_val (se_call0 h_law_right cx_takes (hr.mono (by decide)) (sa_cons (se_excF h_erf_NoPolynomial (hr.mono (by decide)) (se_var 4)) (sa_cons (se_int (fr := false)) sa_nil))))) (sw_or1 (sp_cmp2 (op_neD (room64 hr)) ne_ok (s2_ee (se_calB (call_reprE rfl hS hG (room64 hr)) cal_reprE B.n_repr (sv_cons (se_excA h_erf_NoPolynomial h_xfa_NoPolynomial (hr.mono (by decide)) (se_var 4)) sv_nil)) (se_var 5)))))) (ss_one (ss_ret (se_bl (fr := false)))) ss_nil) (ss_cons (ss_if (SW.pt (sw_or (sp_not (sp_val (se_call0 h_law_right cx_takes (hr.mono (by decide)) (sa_cons (se_excF h_erf_NoList (hr.mono (by decide)) (se_var 4)) (sa_cons (se_int (fr := false)) sa_nil))))) (sw_or1 (sp_cmp2 (op_neD (room64 hr)) ne_ok (s2_ee (se_calB (call_reprE rfl hS hG (room64 hr)) cal_reprE B.n_repr (sv_cons (se_excA h_erf_NoList h_xfa_NoList (hr.mono (by decide)) (se_var 4)) sv_nil)) (se_var 5)))))) (ss_one (ss_ret (se_bl (fr := false)))) ss_nil) (ss_cons (ss_if (SW.pt (sw_or (sp_not (sp_val (se_call0 h_law_right cx_takes (hr.mono (by decide)) (sa_cons (se_excF h_erf_NoWriters (hr.mono (by decide)) (se_var 4)) (sa_cons (se_int (fr := false)) sa_nil))))) (sw_or1 (sp_cmp2 (op_neD (room64 hr)) ne_ok (s2_ee (se_calB (call_reprE rfl hS hG (room64 hr)) cal_reprE B.n_repr (sv_cons (se_excA h_erf_NoWriters h_xfa_NoWriters (hr.mono (by decide)) (se_var 4)) sv_nil)) (se_var 5)))))) (ss_one (ss_ret (se_bl (fr := false)))) ss_nil) (ss_cons (ss_if (SW.pt (sw_or (sp_not (sp_val (se_call0 h_law_right cx_takes (hr.mono (by decide)) (sa_cons (se_excF h_erf_NoWriter (hr.mono (by decide)) (se_var 4)) (sa_cons (se_int (fr := false)) sa_nil))))) (sw_or1 (sp_cmp2 (op_neD (room64 hr)) ne_ok (s2_ee (se_calB (call_reprE rfl hS hG (room64 hr)) cal_reprE B.n_repr (sv_cons (se_excA h_erf_NoWriter h_xfa_NoWriter (hr.mono (by decide)) (se_var 4)) sv_nil)) (se_var 5)))))) (ss_one (ss_ret (se_bl (fr := false)))) ss_nil) (ss_cons (ss_if (SW.pt (sw_or (sp_not (sp_val (se_call0 h_law_right cx_takes (hr.mono (by decide)) (sa_cons (se_excF h_erf_Open (hr.mono (by decide)) (se_var 4)) (sa_cons (se_int (fr := false)) sa_nil))))) (sw_or1 (sp_cmp2 (op_neD (room64 hr)) ne_ok (s2_ee (se_calB (call_reprE rfl hS hG (room64 hr)) cal_reprE B.n_repr (sv_cons (se_excA h_erf_Open h_xfa_Open (hr.mono (by decide)) (se_var 4)) sv_nil)) (se_var 5)))))) (ss_one (ss_ret (se_bl (fr := false)))) ss_nil) (ss_one (ss_if (sp_cmp2 (op_neD (room64 hr)) ne_ok (s2_ee (se_calB (call_reprE rfl hS hG (room64 hr)) cal_reprE B.n_repr (sv_cons (se_var 4) sv_nil)) (se_var 5))) (ss_one (ss_ret (se_bl (fr := false)))) ss_nil)))))))))) (ss_one (ss_ret (se_isXV (se_exc0 h_er_MadeError) h_isx_ValueError B.n_isinstance B.n_ValueError)))))))
end
end Wk01
set_option maxHeartbeats 4000000
namespace Wk01
open PySem L2 PySem.Spec PyProof.Rows Ip
section
variable {P : Program} {w : World} {K : PySem.W.Frag} {mg : Str → Option Value} {base : Heap} {ct : Str → Option Addr}
theorem sc_law_kinds : FnScope N_law_kinds P_law_kinds (defScope s_law_kinds) := ⟨rfl, rfl, rfl, by decide +kernel, rfl, by decide +kernel, by decide +kernel⟩
theorem ok_law_kinds {f : Addr} {fd : FuncData} (B : Blt mg) (h_isx_NoBack : ExcO K mg ct "NoBack" (csX N_errs "NoBack")) (h_isx_NoDegree : ExcO K mg ct "NoDegree" (csX N_errs "NoDegree")) (h_isx_NoEven : ExcO K mg ct "NoEven" (csX N_errs "NoEven")) (h_isx_NoGuard : ExcO K mg ct "NoGuard" (csX N_errs "NoGuard")) (h_isx_NoList : ExcO K mg ct "NoList" (csX N_errs "NoList")) (h_isx_NoMost : ExcO K mg ct "NoMost" (csX N_errs "NoMost")) (h_isx_NoMove : ExcO K mg ct "NoMove" (csX N_errs "NoMove")) (h_isx_NoNumber : ExcO K mg ct "NoNumber" (csX N_errs "NoNumber")) (h_isx_NoOther : ExcO K mg ct "NoOther" (csX N_errs "NoOther")) (h_isx_NoPolynomial : ExcO K mg ct "NoPolynomial" (csX N_errs "NoPolynomial")) (h_isx_NoRoom : ExcO K mg ct "NoRoom" (csX N_errs "NoRoom")) (h_isx_NoRow : ExcO K mg ct "NoRow" (csX N_errs "NoRow")) (h_isx_NoSigns : ExcO K mg ct "NoSigns" (csX N_errs "NoSigns")) (h_isx_NoSort : ExcO K mg ct "NoSort" (csX N_errs "NoSort")) (h_isx_NoText : ExcO K mg ct "NoText" (csX N_errs "NoText")) (h_isx_NoValues : ExcO K mg ct "NoValues" (csX N_errs "NoValues")) (h_isx_NoWriter : ExcO K mg ct "NoWriter" (csX N_errs "NoWriter")) (h_isx_NoWriters : ExcO K mg ct "NoWriters" (csX N_errs "NoWriters")) (h_isx_Open : ExcO K mg ct "Open" (csX N_errs "Open")) (F : FunD K "_law_kinds" "_law_kinds" (defArgs s_law_kinds) (defBody s_law_kinds) (defScope s_law_kinds) [] [] f fd) : FnOk P w K mg base (L2.CX P w) 1 f fd P_law_kinds (spF K ct 1 [] false F_law_kinds) := def_okD (k := 0) F sc_law_kinds rfl fun cdv A outer s H E hid ioA hr =>
  (ss_cons (ss_set 1 (Γ2 := []) sc_law_kinds.nd (se_fz (se_lst (sa_cons (se_isXC (se_var 0) h_isx_NoNumber B.n_isinstance) (sa_cons (se_isXC (se_var 0) h_isx_NoValues B.n_isinstance) (sa_cons (se_isXC (se_var 0) h_isx_NoRow B.n_isinstance) (sa_cons (se_isXC (se_var 0) h_isx_NoSigns B.n_isinstance) sa_nil))))))) (ss_cons (ss_set 2 (Γ2 := []) sc_law_kinds.nd (se_fz (se_lst (sa_cons (se_isXC (se_var 0) h_isx_NoText B.n_isinstance) (sa_cons (se_isXC (se_var 0) h_isx_NoSort B.n_isinstance) (sa_cons (se_isXC (se_var 0) h_isx_NoGuard B.n_isinstance) (sa_cons (se_isXC (se_var 0) h_isx_NoRoom B.n_isinstance) sa_nil))))))) (ss_cons (ss_set 3 (Γ2 := []) sc_law_kinds.nd (se_fz (se_lst (sa_cons (se_isXC (se_var 0) h_isx_NoDegree B.n_isinstance) (sa_cons (se_isXC (se_var 0) h_isx_NoMove B.n_isinstance) (sa_cons (se_isXC (se_var 0) h_isx_NoBack B.n_isinstance) (sa_cons (se_isXC (se_var 0) h_isx_NoOther B.n_isinstance) sa_nil))))))) (ss_cons (ss_set 4 (Γ2 := []) sc_law_kinds.nd (se_fz (se_lst (sa_cons (se_isXC (se_var 0) h_isx_NoMost B.n_isinstance) (sa_cons (se_isXC (se_var 0) h_isx_NoEven B.n_isinstance) (sa_cons (se_isXC (se_var 0) h_isx_NoPolynomial B.n_isinstance) (sa_cons (se_isXC (se_var 0) h_isx_NoList B.n_isinstance) sa_nil))))))) (ss_cons (ss_set 5 (Γ2 := []) sc_law_kinds.nd (se_fz (se_lst (sa_cons (se_isXC (se_var 0) h_isx_NoWriters B.n_isinstance) (sa_cons (se_isXC (se_var 0) h_isx_NoWriter B.n_isinstance) (sa_cons (se_isXC (se_var 0) h_isx_Open B.n_isinstance) sa_nil)))))) (ss_one (ss_ret (se_fz (se_binO op_catQ cat_ok (s2_ee (se_binO op_catQ cat_ok (s2_ee (se_binO op_catQ cat_ok (s2_ee (se_binO op_catQ cat_ok (s2_ee (se_var 1) (se_var 2))) (se_var 3))) (se_var 4))) (se_var 5)))))))))))
theorem bi_law_kinds {f : Addr} {fd : FuncData} (F : FunD K "_law_kinds" "_law_kinds" (defArgs s_law_kinds) (defBody s_law_kinds) (defScope s_law_kinds) [] [] f fd) : Binds K fd P_law_kinds [] := F.bindsN fun _ _ _ _ _ _ us hl => match us, hl with | [_], _ => rfl
theorem sc_law_draw : FnScope N_law_draw P_law_draw (defScope s_law_draw) := ⟨rfl, rfl, rfl, by decide +kernel, rfl, by decide +kernel, by decide +kernel⟩
theorem ok_law_draw {f : Addr} {fd : FuncData} (B : Blt mg) (h_law_mixed : Fn P w K mg base ct "_law_mixed" 1 2 [] false F_law_mixed) (F : FunD K "_law_draw" "_law_draw" (defArgs s_law_draw) (defBody s_law_draw) (defScope s_law_draw) [] [] f fd) : FnOk P w K mg base (L2.CX P w) 2 f fd P_law_draw (spF K ct 2 [0] false F_law_draw) := def_okD (k := 1) F sc_law_draw rfl fun cdv A outer s H E hid ioA hr =>
  (ss_cons (ss_asg (se_bin2 (or_or op_add op_add_str) add_ok (s2_ee (se_ix2 ix_seq ix_ok (s2_oe 0 (se_int (fr := false)))) (se_int (fr := false)))) (sg_ix (W := Wn) 0 (se_int (fr := false)))) (ss_cons (ss_if (sp_cmp2 (or_or op_ge op_ge_str) ge_ok (s2_ee (se_ix2 ix_seq ix_ok (s2_oe 0 (se_int (fr := false)))) (se_calB call_len cal_len B.n_len (sv_cons (se_ix2 ix_seq ix_ok (s2_oe 0 (se_int (fr := false)))) sv_nil)))) (ss_one (ss_ret (se_bin2 op_mod mod_ok (s2_ee (se_call0 h_law_mixed cx_takes (hr.mono (by decide)) (sa_cons (se_ix2 ix_seq ix_ok (s2_oe 0 (se_int (fr := false)))) (sa_cons (se_ix2 ix_seq ix_ok (s2_oe 0 (se_int (fr := false)))) sa_nil))) (se_var 1))))) ss_nil) (ss_cons (ss_set 2 (Γ2 := [0]) sc_law_draw.nd (se_ix2 ix_seq ix_ok (s2_ee (se_ix2 ix_seq ix_ok (s2_oe 0 (se_int (fr := false)))) (se_ix2 ix_seq ix_ok (s2_oe 0 (se_int (fr := false))))))) (ss_cons (ss_if (sp_cmp2 (or_or op_lt op_lt_str) lt_ok (s2_ee (se_calB call_abs cal_abs B.n_abs (sv_cons (se_var 2) sv_nil)) (se_bin2 op_pow pow_ok (s2_ee (se_int (fr := false)) (se_int (fr := false)))))) (ss_cons (ss_asg (se_bin2 (or_or op_add op_add_str) add_ok (s2_ee (se_ix2 ix_seq ix_ok (s2_oe 0 (se_int (fr := false)))) (se_int (fr := false)))) (sg_ix (W := Wn) 0 (se_int (fr := false)))) (ss_cons (ss_if (sp_cmp2 (or_or op_ge op_ge_str) ge_ok (s2_ee (se_ix2 ix_seq ix_ok (s2_oe 0 (se_int (fr := false)))) (se_int (fr := false)))) (ss_cons (ss_asg (se_bin2 (or_or op_add op_add_str) add_ok (s2_ee (se_ix2 ix_seq ix_ok (s2_oe 0 (se_int (fr := false)))) (se_int (fr := false)))) (sg_ix (W := Wn) 0 (se_int (fr := false)))) (ss_one (ss_asg (se_int (fr := false)) (sg_ix (W := Wn) 0 (se_int (fr := false)))))) ss_nil) (ss_one (ss_ret (se_bin2 op_mod mod_ok (s2_ee (se_call0 h_law_mixed cx_takes (hr.mono (by decide)) (sa_cons (se_var 2) (sa_cons (se_ix2 ix_seq ix_ok (s2_oe 0 (se_int (fr := false)))) sa_nil))) (se_var 1))))))) ss_nil) (ss_cons (ss_if (sp_cmp2 (op_eqD (room64 hr)) eq_ok (s2_ee (se_ix2 ix_seq ix_ok (s2_oe 0 (se_int (fr := false)))) (se_int (fr := false)))) (ss_cons (ss_asg (se_int (fr := false)) (sg_ix (W := Wn) 0 (se_int (fr := false)))) (ss_one (ss_asg (se_calB call_abs cal_abs B.n_abs (sv_cons (se_var 2) sv_nil)) (sg_ix (W := Wn) 0 (se_int (fr := false)))))) ss_nil) (ss_cons (ss_set 3 (Γ2 := [0]) sc_law_draw.nd (se_bin2 op_mod mod_ok (s2_ee (se_calT call_int1 cal_int B.n_int (sv_cons (se_ix2 ix_seq ix_ok (s2_oe 0 (se_int (fr := false)))) sv_nil)) (se_var 1)))) (ss_cons (ss_asg (se_bin2 op_fdivW fdiv_ok (s2_ee (se_ix2 ix_seq ix_ok (s2_oe 0 (se_int (fr := false)))) (se_var 1))) (sg_ix (W := Wn) 0 (se_int (fr := false)))) (ss_cons (ss_if (sp_cmp2 (op_eqD (room64 hr)) eq_ok (s2_ee (se_ix2 ix_seq ix_ok (s2_oe 0 (se_int (fr := false)))) (se_int (fr := false)))) (ss_cons (ss_asg (se_bin2 (or_or op_add op_add_str) add_ok (s2_ee (se_ix2 ix_seq ix_ok (s2_oe 0 (se_int (fr := false)))) (se_int (fr := false)))) (sg_ix (W := Wn) 0 (se_int (fr := false)))) (ss_one (ss_asg (se_int (fr := false)) (sg_ix (W := Wn) 0 (se_int (fr := false)))))) ss_nil) (ss_one (ss_ret (se_var 3)))))))))))
theorem bi_law_draw {f : Addr} {fd : FuncData} (F : FunD K "_law_draw" "_law_draw" (defArgs s_law_draw) (defBody s_law_draw) (defScope s_law_draw) [] [] f fd) : Binds K fd P_law_draw [] := F.bindsN fun _ _ _ _ _ _ us hl => match us, hl with | [_, _], _ => rfl
end
end Wk01
set_option maxHeartbeats 4000000
namespace Wk01
open PySem L2 PySem.Spec PyProof.Rows Ip
section
variable {P : Program} {w : World} {K : PySem.W.Frag} {mg : Str → Option Value} {base : Heap} {ct : Str → Option Addr}
theorem sc_law_right : FnScope N_law_right P_law_right (defScope s_law_right) := ⟨rfl, rfl, rfl, by decide +kernel, rfl, by decide +kernel, by decide +kernel⟩
theorem ok_law_right {f : Addr} {fd : FuncData} (B : Blt mg) (h_law_kinds : Fn P w K mg base ct "_law_kinds" 1 1 [] false F_law_kinds) (h_isx_MadeError : ExcO K mg ct "MadeError" (csX N_errs "MadeError")) (h_isx_ValueError : ExcIs K ct (.type "ValueError") (csX N_errs "ValueError")) (F : FunD K "_law_right" "_law_right" (defArgs s_law_right) (defBody s_law_right) (defScope s_law_right) [] [] f fd) : FnOk P w K mg base (L2.CX P w) 2 f fd P_law_right (spF K ct 2 [] false F_law_right) := def_okD (k := 1) F sc_law_right rfl fun cdv A outer s H E hid ioA hr =>
  (ss_cons (ss_if (SW.pt (sw_or (sp_not (sp_val (se_isXV (se_var 0) h_isx_ValueError B.n_isinstance B.n_ValueError))) (sw_or1 (sp_not (sp_val (se_isXC (se_var 0) h_isx_MadeError B.n_isinstance)))))) (ss_one (ss_ret (se_bl (fr := false)))) ss_nil) (ss_one (ss_ret (se_cmp2 (op_eqD (room64 hr)) eq_ok (s2_ee (se_call0 h_law_kinds cx_takes (hr.mono (by decide)) (sa_cons (se_var 0) sa_nil)) (se_lc rfl sc_law_right.nd (blkOk_by (own := [("_law_k", 2)]) (by show blkC N_law_right (defScope s_law_right) _ _ = true; decide +kernel)) (si_range1 (sa_cons (se_int (fr := false)) sa_nil) B.n_range) (fun _ _ _ _ _ => (sg_name 2 sc_law_right.nd)) (fun _ _ _ _ _ => sps_nil) (fun _ _ _ _ _ => (se_cmp2 (op_eqD (room64 hr)) eq_ok (s2_ee (se_var 2) (se_var 1))))))))))
theorem bi_law_right {f : Addr} {fd : FuncData} (F : FunD K "_law_right" "_law_right" (defArgs s_law_right) (defBody s_law_right) (defScope s_law_right) [] [] f fd) : Binds K fd P_law_right [] := F.bindsN fun _ _ _ _ _ _ us hl => match us, hl with | [_, _], _ => rfl
theorem sc_law_number : FnScope N_law_number P_law_number (defScope s_law_number) := ⟨rfl, rfl, rfl, by decide +kernel, rfl, by decide +kernel, by decide +kernel⟩
theorem ok_law_number {f : Addr} {fd : FuncData} (B : Blt mg) (h_law_draw : Fn P w K mg base ct "_law_draw" 2 2 [0] false F_law_draw) (F : FunD K "_law_number" "_law_number" (defArgs s_law_number) (defBody s_law_number) (defScope s_law_number) [] [] f fd) : FnOk P w K mg base (L2.CX P w) 3 f fd P_law_number (spF K ct 1 [0] false F_law_number) := def_okD (k := 2) F sc_law_number rfl fun cdv A outer s H E hid ioA hr =>
  (ss_cons (ss_set 1 (Γ2 := [0]) sc_law_number.nd (se_call1 h_law_draw cx_takes (hr.mono (by decide)) (sa_io 0 (sa_cons (se_int (fr := false)) sa_nil)))) (ss_cons (ss_if (sp_cmp2 (or_or op_lt op_lt_str) lt_ok (s2_ee (se_var 1) (se_int (fr := false)))) (ss_one (ss_ret (se_bin2 op_sub sub_ok (s2_ee (se_call1 h_law_draw cx_takes (hr.mono (by decide)) (sa_io 0 (sa_cons (se_int (fr := false)) sa_nil))) (se_int (fr := false)))))) ss_nil) (ss_cons (ss_if (sp_cmp2 (op_eqD (room64 hr)) eq_ok (s2_ee (se_var 1) (se_int (fr := false)))) (ss_one (ss_ret (se_bin2 op_sub sub_ok (s2_ee (se_call1 h_law_draw cx_takes (hr.mono (by decide)) (sa_io 0 (sa_cons (se_int (fr := false)) sa_nil))) (se_int (fr := false)))))) ss_nil) (ss_cons (ss_set 2 (Γ2 := [0]) sc_law_number.nd (se_bin2 (or_or op_add op_add_str) add_ok (s2_ee (se_bin2 (or_or op_mul op_mulW) mul_ok (s2_ee (se_call1 h_law_draw cx_takes (hr.mono (by decide)) (sa_io 0 (sa_cons (se_bin2 op_pow pow_ok (s2_ee (se_int (fr := false)) (se_int (fr := false)))) sa_nil))) (se_bin2 op_pow pow_ok (s2_ee (se_int (fr := false)) (se_int (fr := false)))))) (se_call1 h_law_draw cx_takes (hr.mono (by decide)) (sa_io 0 (sa_cons (se_bin2 op_pow pow_ok (s2_ee (se_int (fr := false)) (se_int (fr := false)))) sa_nil)))))) (ss_one (ss_ret (se_bin2 op_sub sub_ok (s2_ee (se_var 2) (se_bin2 (or_or op_mul op_mulW) mul_ok (s2_ee (se_bin2 (or_or op_mul op_mulW) mul_ok (s2_ee (se_int (fr := false)) (se_var 2))) (se_call1 h_law_draw cx_takes (hr.mono (by decide)) (sa_io 0 (sa_cons (se_int (fr := false)) sa_nil)))))))))))))
theorem bi_law_number {f : Addr} {fd : FuncData} (F : FunD K "_law_number" "_law_number" (defArgs s_law_number) (defBody s_law_number) (defScope s_law_number) [] [] f fd) : Binds K fd P_law_number [] := F.bindsN fun _ _ _ _ _ _ us hl => match us, hl with | [_], _ => rfl
end
end Wk01
set_option maxHeartbeats 4000000
namespace Wk01
open PySem L2 PySem.Spec PyProof.Rows Ip
section
variable {P : Program} {w : World} {K : PySem.W.Frag} {mg : Str → Option Value} {base : Heap} {ct : Str → Option Addr}
theorem sc_law_plain_error : FnScope N_law_plain_error P_law_plain_error (defScope s_law_plain_error) := ⟨rfl, rfl, rfl, by decide +kernel, rfl, by decide +kernel, by decide +kernel⟩
theorem ok_law_plain_error {f : Addr} {fd : FuncData} (B : Blt mg) (h_er_NoBack : Er K mg ct "NoBack") (h_er_NoDegree : Er K mg ct "NoDegree") (h_er_NoEven : Er K mg ct "NoEven") (h_er_NoGuard : Er K mg ct "NoGuard") (h_er_NoMost : Er K mg ct "NoMost") (h_er_NoMove : Er K mg ct "NoMove") (h_er_NoNumber : Er K mg ct "NoNumber") (h_er_NoOther : Er K mg ct "NoOther") (h_er_NoRoom : Er K mg ct "NoRoom") (h_er_NoRow : Er K mg ct "NoRow") (h_er_NoSigns : Er K mg ct "NoSigns") (h_er_NoSort : Er K mg ct "NoSort") (h_er_NoText : Er K mg ct "NoText") (h_er_NoValues : Er K mg ct "NoValues") (F : FunD K "_law_plain_error" "_law_plain_error" (defArgs s_law_plain_error) (defBody s_law_plain_error) (defScope s_law_plain_error) [] [] f fd) : FnOk P w K mg base (L2.CX P w) 1 f fd P_law_plain_error (spF K ct 1 [] false F_law_plain_error) := def_okD (k := 0) F sc_law_plain_error rfl fun cdv A outer s H E hid ioA hr =>
  (ss_cons (ss_if (sp_cmp2 (op_eqD (room64 hr)) eq_ok (s2_ee (se_var 0) (se_int (fr := false)))) (ss_one (ss_ret (se_exc0 h_er_NoNumber))) ss_nil) (ss_cons (ss_if (sp_cmp2 (op_eqD (room64 hr)) eq_ok (s2_ee (se_var 0) (se_int (fr := false)))) (ss_one (ss_ret (se_exc0 h_er_NoValues))) ss_nil) (ss_cons (ss_if (sp_cmp2 (op_eqD (room64 hr)) eq_ok (s2_ee (se_var 0) (se_int (fr := false)))) (ss_one (ss_ret (se_exc0 h_er_NoRow))) ss_nil) (ss_cons (ss_if (sp_cmp2 (op_eqD (room64 hr)) eq_ok (s2_ee (se_var 0) (se_int (fr := false)))) (ss_one (ss_ret (se_exc0 h_er_NoSigns))) ss_nil) (ss_cons (ss_if (sp_cmp2 (op_eqD (room64 hr)) eq_ok (s2_ee (se_var 0) (se_int (fr := false)))) (ss_one (ss_ret (se_exc0 h_er_NoText))) ss_nil) (ss_cons (ss_if (sp_cmp2 (op_eqD (room64 hr)) eq_ok (s2_ee (se_var 0) (se_int (fr := false)))) (ss_one (ss_ret (se_exc0 h_er_NoSort))) ss_nil) (ss_cons (ss_if (sp_cmp2 (op_eqD (room64 hr)) eq_ok (s2_ee (se_var 0) (se_int (fr := false)))) (ss_one (ss_ret (se_exc0 h_er_NoGuard))) ss_nil) (ss_cons (ss_if (sp_cmp2 (op_eqD (room64 hr)) eq_ok (s2_ee (se_var 0) (se_int (fr := false)))) (ss_one (ss_ret (se_exc0 h_er_NoRoom))) ss_nil) (ss_cons (ss_if (sp_cmp2 (op_eqD (room64 hr)) eq_ok (s2_ee (se_var 0) (se_int (fr := false)))) (ss_one (ss_ret (se_exc0 h_er_NoDegree))) ss_nil) (ss_cons (ss_if (sp_cmp2 (op_eqD (room64 hr)) eq_ok (s2_ee (se_var 0) (se_int (fr := false)))) (ss_one (ss_ret (se_exc0 h_er_NoMove))) ss_nil) (ss_cons (ss_if (sp_cmp2 (op_eqD (room64 hr)) eq_ok (s2_ee (se_var 0) (se_int (fr := false)))) (ss_one (ss_ret (se_exc0 h_er_NoBack))) ss_nil) (ss_cons (ss_if (sp_cmp2 (op_eqD (room64 hr)) eq_ok (s2_ee (se_var 0) (se_int (fr := false)))) (ss_one (ss_ret (se_exc0 h_er_NoOther))) ss_nil) (ss_cons (ss_if (sp_cmp2 (op_eqD (room64 hr)) eq_ok (s2_ee (se_var 0) (se_int (fr := false)))) (ss_one (ss_ret (se_exc0 h_er_NoMost))) ss_nil) (ss_one (ss_ret (se_exc0 h_er_NoEven))))))))))))))))
theorem bi_law_plain_error {f : Addr} {fd : FuncData} (F : FunD K "_law_plain_error" "_law_plain_error" (defArgs s_law_plain_error) (defBody s_law_plain_error) (defScope s_law_plain_error) [] [] f fd) : Binds K fd P_law_plain_error [] := F.bindsN fun _ _ _ _ _ _ us hl => match us, hl with | [_], _ => rfl
theorem sc_law_value : FnScope N_law_value P_law_value (defScope s_law_value) := ⟨rfl, rfl, rfl, by decide +kernel, rfl, by decide +kernel, by decide +kernel⟩
theorem ok_law_value {f : Addr} {fd : FuncData} (B : Blt mg) (h_law_draw : Fn P w K mg base ct "_law_draw" 2 2 [0] false F_law_draw) (h_law_number : Fn P w K mg base ct "_law_number" 3 1 [0] false F_law_number) (F : FunD K "_law_value" "_law_value" (defArgs s_law_value) (defBody s_law_value) (defScope s_law_value) [] [] f fd) : FnOk P w K mg base (L2.CX P w) 4 f fd P_law_value (spF K ct 1 [0] false F_law_value) := def_okD (k := 3) F sc_law_value rfl fun cdv A outer s H E hid ioA hr =>
  (ss_cons (ss_set 1 (Γ2 := [0]) sc_law_value.nd (se_call1 h_law_draw cx_takes (hr.mono (by decide)) (sa_io 0 (sa_cons (se_int (fr := false)) sa_nil)))) (ss_cons (ss_set 2 (Γ2 := [0]) sc_law_value.nd (se_call1 h_law_number cx_takes (hr.mono (by decide)) (sa_io 0 sa_nil))) (ss_cons (ss_if (sp_cmp2 (op_eqD (room64 hr)) eq_ok (s2_ee (se_var 1) (se_int (fr := false)))) (ss_one (ss_ret (se_var 2))) ss_nil) (ss_cons (ss_if (sp_cmp2 (op_eqD (room64 hr)) eq_ok (s2_ee (se_var 1) (se_int (fr := false)))) (ss_one (ss_ret (se_bin2 (or_or op_add op_add_str) add_ok (s2_ee (se_str (fr := false)) (se_calT call_str_int cal_strI B.n_str (sv_cons (se_var 2) sv_nil)))))) ss_nil) (ss_cons (ss_if (sp_cmp2 (op_eqD (room64 hr)) eq_ok (s2_ee (se_var 1) (se_int (fr := false)))) (ss_one (ss_ret (se_non (fr := false)))) ss_nil) (ss_cons (ss_if (sp_cmp2 (op_eqD (room64 hr)) eq_ok (s2_ee (se_var 1) (se_int (fr := false)))) (ss_one (ss_ret (se_bl (fr := false)))) ss_nil) (ss_cons (ss_if (sp_cmp2 (op_eqD (room64 hr)) eq_ok (s2_ee (se_var 1) (se_int (fr := false)))) (ss_one (ss_ret (se_fz (se_lst (sa_cons (se_var 2) (sa_cons (se_lst (sa_cons (se_var 2) sa_nil)) sa_nil)))))) ss_nil) (ss_cons (ss_if (sp_cmp2 (op_eqD (room64 hr)) eq_ok (s2_ee (se_var 1) (se_int (fr := false)))) (ss_one (ss_ret (se_tup (sa_cons (se_var 2) (sa_cons (se_tup sa_nil) sa_nil))))) ss_nil) (ss_one (ss_ret (se_fz (se_disp2 (se_var 2) (se_var 2) (se_lst (sa_cons (se_int (fr := false)) (sa_cons (se_int (fr := false)) sa_nil)))))))))))))))
theorem bi_law_value {f : Addr} {fd : FuncData} (F : FunD K "_law_value" "_law_value" (defArgs s_law_value) (defBody s_law_value) (defScope s_law_value) [] [] f fd) : Binds K fd P_law_value [] := F.bindsN fun _ _ _ _ _ _ us hl => match us, hl with | [_], _ => rfl
end
end Wk01
set_option maxHeartbeats 0
namespace Wk01
open PySem L2 PySem.Spec PyProof.Rows Ip
abbrev ctK (K : PySem.W.Frag) : Str → Option Addr := fun c => bif tabKs.contains c then none else some (He.ga K c)
theorem facts {P : Program} {w : World} {K : PySem.W.Frag} {h : Heap} {mg : Str → Option Value} {f : Addr} (X : K.In h) (G : h.Ns mainGlobals mg) (hfa : mg ("law" : Str) = some (.ref f)) (c : SaysX fas fns xss K) (hfile : P.main.file = FILE) (htop : (P.main.scope.names.lookup ("super" : Str)).isSome = false) :
    ∃ fd : FuncData, (∀ (s : Shared) (v : Value), BindsTo s fd ⟨[v], []⟩ [("_law_script", v)]) ∧ ∀ base : Heap, FnAt P w K mg base (L2.CX P w) callerA f fd P_law (spF K (ctK K) 1 [] false F_law) := by
  have cd := c.d
  have B : Blt mg := ⟨He.free_ok X G (cd.fact 29 (f := .free "ValueError") rfl), He.free_ok X G (cd.fact 30 (f := .free "abs") rfl), He.free_ok X G (cd.fact 31 (f := .free "int") rfl), He.free_ok X G (cd.fact 32 (f := .free "isinstance") rfl), He.free_ok X G (cd.fact 33 (f := .free "len") rfl), He.free_ok X G (cd.fact 34 (f := .free "range") rfl), He.free_ok X G (cd.fact 35 (f := .free "repr") rfl), He.free_ok X G (cd.fact 36 (f := .free "str") rfl), He.free_ok X G (cd.fact 37 (f := .free "sum") rfl)⟩
  have g_law_hand := He.glo_ok X G (cd.fact 0 (f := .glo "_law_hand") rfl)
  have g_law_kinds := He.glo_ok X G (cd.fact 1 (f := .glo "_law_kinds") rfl)
  have g_law_right := He.glo_ok X G (cd.fact 2 (f := .glo "_law_right") rfl)
  have g_law_plain_error := He.glo_ok X G (cd.fact 3 (f := .glo "_law_plain_error") rfl)
  have g_law_mixed := He.glo_ok X G (cd.fact 4 (f := .glo "_law_mixed") rfl)
  have g_law_draw := He.glo_ok X G (cd.fact 5 (f := .glo "_law_draw") rfl)
  have g_law_number := He.glo_ok X G (cd.fact 6 (f := .glo "_law_number") rfl)
  have g_law_value := He.glo_ok X G (cd.fact 7 (f := .glo "_law_value") rfl)
  have g_law := He.glo_ok X G (cd.fact 8 (f := .glo "law") rfl)
  have g_MadeError := He.glo_ok X G (cd.fact 9 (f := .glo "MadeError") rfl)
  have g_NoBack := He.glo_ok X G (cd.fact 10 (f := .glo "NoBack") rfl)
  have g_NoDegree := He.glo_ok X G (cd.fact 11 (f := .glo "NoDegree") rfl)
  have g_NoEven := He.glo_ok X G (cd.fact 12 (f := .glo "NoEven") rfl)
  have g_NoGuard := He.glo_ok X G (cd.fact 13 (f := .glo "NoGuard") rfl)
  have g_NoList := He.glo_ok X G (cd.fact 14 (f := .glo "NoList") rfl)
  have g_NoMost := He.glo_ok X G (cd.fact 15 (f := .glo "NoMost") rfl)
  have g_NoMove := He.glo_ok X G (cd.fact 16 (f := .glo "NoMove") rfl)
  have g_NoNumber := He.glo_ok X G (cd.fact 17 (f := .glo "NoNumber") rfl)
  have g_NoOther := He.glo_ok X G (cd.fact 18 (f := .glo "NoOther") rfl)
  have g_NoPolynomial := He.glo_ok X G (cd.fact 19 (f := .glo "NoPolynomial") rfl)
  have g_NoRoom := He.glo_ok X G (cd.fact 20 (f := .glo "NoRoom") rfl)
  have g_NoRow := He.glo_ok X G (cd.fact 21 (f := .glo "NoRow") rfl)
  have g_NoSigns := He.glo_ok X G (cd.fact 22 (f := .glo "NoSigns") rfl)
  have g_NoSort := He.glo_ok X G (cd.fact 23 (f := .glo "NoSort") rfl)
  have g_NoText := He.glo_ok X G (cd.fact 24 (f := .glo "NoText") rfl)
  have g_NoValues := He.glo_ok X G (cd.fact 25 (f := .glo "NoValues") rfl)
  have g_NoWriter := He.glo_ok X G (cd.fact 26 (f := .glo "NoWriter") rfl)
  have g_NoWriters := He.glo_ok X G (cd.fact 27 (f := .glo "NoWriters") rfl)
  have g_Open := He.glo_ok X G (cd.fact 28 (f := .glo "Open") rfl)
  obtain ⟨fd_law_hand, t_law_hand⟩ := cd.def_ 0 (d := d_law_hand) rfl
  obtain ⟨fd_law_kinds, t_law_kinds⟩ := cd.def_ 1 (d := d_law_kinds) rfl
  obtain ⟨fd_law_right, t_law_right⟩ := cd.def_ 2 (d := d_law_right) rfl
  obtain ⟨fd_law_plain_error, t_law_plain_error⟩ := cd.def_ 3 (d := d_law_plain_error) rfl
  obtain ⟨fd_law_mixed, t_law_mixed⟩ := cd.def_ 4 (d := d_law_mixed) rfl
  obtain ⟨fd_law_draw, t_law_draw⟩ := cd.def_ 5 (d := d_law_draw) rfl
  obtain ⟨fd_law_number, t_law_number⟩ := cd.def_ 6 (d := d_law_number) rfl
  obtain ⟨fd_law_value, t_law_value⟩ := cd.def_ 7 (d := d_law_value) rfl
  obtain ⟨fd_law, t_law⟩ := cd.def_ 8 (d := d_law) rfl
  have h_isx_MadeError : ExcO K mg (ctK K) "MadeError" (csX N_errs "MadeError") := ExcO.of g_MadeError (c.x 6 (x := fun K => excT K N_errs "MadeError") rfl) (c.x 5 (x := fun K => excA K N_errs) rfl) (by decide +kernel)
  have h_isx_NoBack : ExcO K mg (ctK K) "NoBack" (csX N_errs "NoBack") := ExcO.of g_NoBack (c.x 7 (x := fun K => excT K N_errs "NoBack") rfl) (c.x 5 (x := fun K => excA K N_errs) rfl) (by decide +kernel)
  have h_isx_NoDegree : ExcO K mg (ctK K) "NoDegree" (csX N_errs "NoDegree") := ExcO.of g_NoDegree (c.x 8 (x := fun K => excT K N_errs "NoDegree") rfl) (c.x 5 (x := fun K => excA K N_errs) rfl) (by decide +kernel)
  have h_isx_NoEven : ExcO K mg (ctK K) "NoEven" (csX N_errs "NoEven") := ExcO.of g_NoEven (c.x 9 (x := fun K => excT K N_errs "NoEven") rfl) (c.x 5 (x := fun K => excA K N_errs) rfl) (by decide +kernel)
  have h_isx_NoGuard : ExcO K mg (ctK K) "NoGuard" (csX N_errs "NoGuard") := ExcO.of g_NoGuard (c.x 10 (x := fun K => excT K N_errs "NoGuard") rfl) (c.x 5 (x := fun K => excA K N_errs) rfl) (by decide +kernel)
  have h_isx_NoList : ExcO K mg (ctK K) "NoList" (csX N_errs "NoList") := ExcO.of g_NoList (c.x 11 (x := fun K => excT K N_errs "NoList") rfl) (c.x 5 (x := fun K => excA K N_errs) rfl) (by decide +kernel)
  have h_isx_NoMost : ExcO K mg (ctK K) "NoMost" (csX N_errs "NoMost") := ExcO.of g_NoMost (c.x 12 (x := fun K => excT K N_errs "NoMost") rfl) (c.x 5 (x := fun K => excA K N_errs) rfl) (by decide +kernel)
  have h_isx_NoMove : ExcO K mg (ctK K) "NoMove" (csX N_errs "NoMove") := ExcO.of g_NoMove (c.x 13 (x := fun K => excT K N_errs "NoMove") rfl) (c.x 5 (x := fun K => excA K N_errs) rfl) (by decide +kernel)
  have h_isx_NoNumber : ExcO K mg (ctK K) "NoNumber" (csX N_errs "NoNumber") := ExcO.of g_NoNumber (c.x 14 (x := fun K => excT K N_errs "NoNumber") rfl) (c.x 5 (x := fun K => excA K N_errs) rfl) (by decide +kernel)
  have h_isx_NoOther : ExcO K mg (ctK K) "NoOther" (csX N_errs "NoOther") := ExcO.of g_NoOther (c.x 15 (x := fun K => excT K N_errs "NoOther") rfl) (c.x 5 (x := fun K => excA K N_errs) rfl) (by decide +kernel)
  have h_isx_NoPolynomial : ExcO K mg (ctK K) "NoPolynomial" (csX N_errs "NoPolynomial") := ExcO.of g_NoPolynomial (c.x 16 (x := fun K => excT K N_errs "NoPolynomial") rfl) (c.x 5 (x := fun K => excA K N_errs) rfl) (by decide +kernel)
  have h_isx_NoRoom : ExcO K mg (ctK K) "NoRoom" (csX N_errs "NoRoom") := ExcO.of g_NoRoom (c.x 17 (x := fun K => excT K N_errs "NoRoom") rfl) (c.x 5 (x := fun K => excA K N_errs) rfl) (by decide +kernel)
  have h_isx_NoRow : ExcO K mg (ctK K) "NoRow" (csX N_errs "NoRow") := ExcO.of g_NoRow (c.x 18 (x := fun K => excT K N_errs "NoRow") rfl) (c.x 5 (x := fun K => excA K N_errs) rfl) (by decide +kernel)
  have h_isx_NoSigns : ExcO K mg (ctK K) "NoSigns" (csX N_errs "NoSigns") := ExcO.of g_NoSigns (c.x 19 (x := fun K => excT K N_errs "NoSigns") rfl) (c.x 5 (x := fun K => excA K N_errs) rfl) (by decide +kernel)
  have h_isx_NoSort : ExcO K mg (ctK K) "NoSort" (csX N_errs "NoSort") := ExcO.of g_NoSort (c.x 20 (x := fun K => excT K N_errs "NoSort") rfl) (c.x 5 (x := fun K => excA K N_errs) rfl) (by decide +kernel)
  have h_isx_NoText : ExcO K mg (ctK K) "NoText" (csX N_errs "NoText") := ExcO.of g_NoText (c.x 21 (x := fun K => excT K N_errs "NoText") rfl) (c.x 5 (x := fun K => excA K N_errs) rfl) (by decide +kernel)
  have h_isx_NoValues : ExcO K mg (ctK K) "NoValues" (csX N_errs "NoValues") := ExcO.of g_NoValues (c.x 22 (x := fun K => excT K N_errs "NoValues") rfl) (c.x 5 (x := fun K => excA K N_errs) rfl) (by decide +kernel)
  have h_isx_NoWriter : ExcO K mg (ctK K) "NoWriter" (csX N_errs "NoWriter") := ExcO.of g_NoWriter (c.x 23 (x := fun K => excT K N_errs "NoWriter") rfl) (c.x 5 (x := fun K => excA K N_errs) rfl) (by decide +kernel)
  have h_isx_NoWriters : ExcO K mg (ctK K) "NoWriters" (csX N_errs "NoWriters") := ExcO.of g_NoWriters (c.x 24 (x := fun K => excT K N_errs "NoWriters") rfl) (c.x 5 (x := fun K => excA K N_errs) rfl) (by decide +kernel)
  have h_isx_Open : ExcO K mg (ctK K) "Open" (csX N_errs "Open") := ExcO.of g_Open (c.x 25 (x := fun K => excT K N_errs "Open") rfl) (c.x 5 (x := fun K => excA K N_errs) rfl) (by decide +kernel)
  have h_isx_ValueError : ExcIs K (ctK K) (.type "ValueError") (csX N_errs "ValueError") := ExcV.of (c.x 26 (x := fun K => excV K N_errs) rfl) (c.x 5 (x := fun K => excA K N_errs) rfl) (by decide +kernel)
  have ec_MadeError := He.exc_ok (cd.fact 38 (f := .exc "MadeError") rfl)
  have h_er_MadeError : Er K mg (ctK K) "MadeError" := ⟨_, "ValueError", "ValueError.__new__", _, He.veBase, rfl, PySem.F.excBase_ValueError, ec_MadeError.1, g_MadeError, ec_MadeError.2.1, ec_MadeError.2.2.1, ec_MadeError.2.2.2⟩
  have ec_NoBack := He.exc_ok (cd.fact 40 (f := .exc "NoBack") rfl)
  have h_er_NoBack : Er K mg (ctK K) "NoBack" := ⟨_, "ValueError", "ValueError.__new__", _, He.veBase, rfl, PySem.F.excBase_ValueError, ec_NoBack.1, g_NoBack, ec_NoBack.2.1, ec_NoBack.2.2.1, ec_NoBack.2.2.2⟩
  have ec_NoDegree := He.exc_ok (cd.fact 42 (f := .exc "NoDegree") rfl)
  have h_er_NoDegree : Er K mg (ctK K) "NoDegree" := ⟨_, "ValueError", "ValueError.__new__", _, He.veBase, rfl, PySem.F.excBase_ValueError, ec_NoDegree.1, g_NoDegree, ec_NoDegree.2.1, ec_NoDegree.2.2.1, ec_NoDegree.2.2.2⟩
  have ec_NoEven := He.exc_ok (cd.fact 44 (f := .exc "NoEven") rfl)
  have h_er_NoEven : Er K mg (ctK K) "NoEven" := ⟨_, "ValueError", "ValueError.__new__", _, He.veBase, rfl, PySem.F.excBase_ValueError, ec_NoEven.1, g_NoEven, ec_NoEven.2.1, ec_NoEven.2.2.1, ec_NoEven.2.2.2⟩
  have ec_NoGuard := He.exc_ok (cd.fact 46 (f := .exc "NoGuard") rfl)
  have h_er_NoGuard : Er K mg (ctK K) "NoGuard" := ⟨_, "ValueError", "ValueError.__new__", _, He.veBase, rfl, PySem.F.excBase_ValueError, ec_NoGuard.1, g_NoGuard, ec_NoGuard.2.1, ec_NoGuard.2.2.1, ec_NoGuard.2.2.2⟩
  have ec_NoMost := He.exc_ok (cd.fact 48 (f := .exc "NoMost") rfl)
  have h_er_NoMost : Er K mg (ctK K) "NoMost" := ⟨_, "ValueError", "ValueError.__new__", _, He.veBase, rfl, PySem.F.excBase_ValueError, ec_NoMost.1, g_NoMost, ec_NoMost.2.1, ec_NoMost.2.2.1, ec_NoMost.2.2.2⟩
  have ec_NoMove := He.exc_ok (cd.fact 50 (f := .exc "NoMove") rfl)
  have h_er_NoMove : Er K mg (ctK K) "NoMove" := ⟨_, "ValueError", "ValueError.__new__", _, He.veBase, rfl, PySem.F.excBase_ValueError, ec_NoMove.1, g_NoMove, ec_NoMove.2.1, ec_NoMove.2.2.1, ec_NoMove.2.2.2⟩
  have ec_NoNumber := He.exc_ok (cd.fact 52 (f := .exc "NoNumber") rfl)
  have h_er_NoNumber : Er K mg (ctK K) "NoNumber" := ⟨_, "ValueError", "ValueError.__new__", _, He.veBase, rfl, PySem.F.excBase_ValueError, ec_NoNumber.1, g_NoNumber, ec_NoNumber.2.1, ec_NoNumber.2.2.1, ec_NoNumber.2.2.2⟩
  have ec_NoOther := He.exc_ok (cd.fact 54 (f := .exc "NoOther") rfl)
  have h_er_NoOther : Er K mg (ctK K) "NoOther" := ⟨_, "ValueError", "ValueError.__new__", _, He.veBase, rfl, PySem.F.excBase_ValueError, ec_NoOther.1, g_NoOther, ec_NoOther.2.1, ec_NoOther.2.2.1, ec_NoOther.2.2.2⟩
  have ec_NoRoom := He.exc_ok (cd.fact 56 (f := .exc "NoRoom") rfl)
  have h_er_NoRoom : Er K mg (ctK K) "NoRoom" := ⟨_, "ValueError", "ValueError.__new__", _, He.veBase, rfl, PySem.F.excBase_ValueError, ec_NoRoom.1, g_NoRoom, ec_NoRoom.2.1, ec_NoRoom.2.2.1, ec_NoRoom.2.2.2⟩
  have ec_NoRow := He.exc_ok (cd.fact 58 (f := .exc "NoRow") rfl)
  have h_er_NoRow : Er K mg (ctK K) "NoRow" := ⟨_, "ValueError", "ValueError.__new__", _, He.veBase, rfl, PySem.F.excBase_ValueError, ec_NoRow.1, g_NoRow, ec_NoRow.2.1, ec_NoRow.2.2.1, ec_NoRow.2.2.2⟩
  have ec_NoSigns := He.exc_ok (cd.fact 60 (f := .exc "NoSigns") rfl)
  have h_er_NoSigns : Er K mg (ctK K) "NoSigns" := ⟨_, "ValueError", "ValueError.__new__", _, He.veBase, rfl, PySem.F.excBase_ValueError, ec_NoSigns.1, g_NoSigns, ec_NoSigns.2.1, ec_NoSigns.2.2.1, ec_NoSigns.2.2.2⟩
  have ec_NoSort := He.exc_ok (cd.fact 62 (f := .exc "NoSort") rfl)
  have h_er_NoSort : Er K mg (ctK K) "NoSort" := ⟨_, "ValueError", "ValueError.__new__", _, He.veBase, rfl, PySem.F.excBase_ValueError, ec_NoSort.1, g_NoSort, ec_NoSort.2.1, ec_NoSort.2.2.1, ec_NoSort.2.2.2⟩
  have ec_NoText := He.exc_ok (cd.fact 64 (f := .exc "NoText") rfl)
  have h_er_NoText : Er K mg (ctK K) "NoText" := ⟨_, "ValueError", "ValueError.__new__", _, He.veBase, rfl, PySem.F.excBase_ValueError, ec_NoText.1, g_NoText, ec_NoText.2.1, ec_NoText.2.2.1, ec_NoText.2.2.2⟩
  have ec_NoValues := He.exc_ok (cd.fact 66 (f := .exc "NoValues") rfl)
  have h_er_NoValues : Er K mg (ctK K) "NoValues" := ⟨_, "ValueError", "ValueError.__new__", _, He.veBase, rfl, PySem.F.excBase_ValueError, ec_NoValues.1, g_NoValues, ec_NoValues.2.1, ec_NoValues.2.2.1, ec_NoValues.2.2.2⟩
  have e := hfa.symm.trans g_law
  cases e
  refine ⟨fd_law, fun s v => FunD.bindsA (ps := P_law) t_law (fun _ _ _ _ _ _ us hl => match us, hl with | [_], _ => rfl) s [v] rfl, fun base => ?_⟩
  have h_erf_NoList : ∀ base : Heap, ErF P w K mg base (ctK K) "NoList" "index" := fun base => ⟨(erF_of (P := P) (w := w) (mg := mg) (base := base) (v := "index") (by rw [hfile]; exact c.x 0 (x := supK FILE "NoList" "index" "index") rfl) htop g_NoList).ex⟩
  have h_erf_NoPolynomial : ∀ base : Heap, ErF P w K mg base (ctK K) "NoPolynomial" "index" := fun base => ⟨(erF_of (P := P) (w := w) (mg := mg) (base := base) (v := "index") (by rw [hfile]; exact c.x 1 (x := supK FILE "NoPolynomial" "index" "index") rfl) htop g_NoPolynomial).ex⟩
  have h_erf_NoWriter : ∀ base : Heap, ErF P w K mg base (ctK K) "NoWriter" "part" := fun base => ⟨(erF_of (P := P) (w := w) (mg := mg) (base := base) (v := "part") (by rw [hfile]; exact c.x 2 (x := supK FILE "NoWriter" "part" "part") rfl) htop g_NoWriter).ex⟩
  have h_erf_NoWriters : ∀ base : Heap, ErF P w K mg base (ctK K) "NoWriters" "index" := fun base => ⟨(erF_of (P := P) (w := w) (mg := mg) (base := base) (v := "index") (by rw [hfile]; exact c.x 3 (x := supK FILE "NoWriters" "index" "index") rfl) htop g_NoWriters).ex⟩
  have h_erf_Open : ∀ base : Heap, ErF P w K mg base (ctK K) "Open" "most" := fun base => ⟨(erF_of (P := P) (w := w) (mg := mg) (base := base) (v := "most") (by rw [hfile]; exact c.x 4 (x := supK FILE "Open" "most" "most") rfl) htop g_Open).ex⟩
  have h_law_hand : Fn P w K mg base (ctK K) "_law_hand" 1 1 [] true F_law_hand := ⟨_, _, _, ok_law_hand (w := w) (base := base) (ct := ctK K) B  t_law_hand, g_law_hand, t_law_hand.kp, bi_law_hand t_law_hand⟩
  have h_law_kinds : Fn P w K mg base (ctK K) "_law_kinds" 1 1 [] false F_law_kinds := ⟨_, _, _, ok_law_kinds (w := w) (base := base) (ct := ctK K) B h_isx_NoBack h_isx_NoDegree h_isx_NoEven h_isx_NoGuard h_isx_NoList h_isx_NoMost h_isx_NoMove h_isx_NoNumber h_isx_NoOther h_isx_NoPolynomial h_isx_NoRoom h_isx_NoRow h_isx_NoSigns h_isx_NoSort h_isx_NoText h_isx_NoValues h_isx_NoWriter h_isx_NoWriters h_isx_Open t_law_kinds, g_law_kinds, t_law_kinds.kp, bi_law_kinds t_law_kinds⟩
  have h_law_right : Fn P w K mg base (ctK K) "_law_right" 2 2 [] false F_law_right := ⟨_, _, _, ok_law_right (w := w) (base := base) (ct := ctK K) B h_law_kinds h_isx_MadeError h_isx_ValueError t_law_right, g_law_right, t_law_right.kp, bi_law_right t_law_right⟩
  have h_law_plain_error : Fn P w K mg base (ctK K) "_law_plain_error" 1 1 [] false F_law_plain_error := ⟨_, _, _, ok_law_plain_error (w := w) (base := base) (ct := ctK K) B h_er_NoBack h_er_NoDegree h_er_NoEven h_er_NoGuard h_er_NoMost h_er_NoMove h_er_NoNumber h_er_NoOther h_er_NoRoom h_er_NoRow h_er_NoSigns h_er_NoSort h_er_NoText h_er_NoValues t_law_plain_error, g_law_plain_error, t_law_plain_error.kp, bi_law_plain_error t_law_plain_error⟩
  have h_law_mixed : Fn P w K mg base (ctK K) "_law_mixed" 1 2 [] false F_law_mixed := ⟨_, _, _, ok_law_mixed (w := w) (base := base) (ct := ctK K) B  t_law_mixed, g_law_mixed, t_law_mixed.kp, bi_law_mixed t_law_mixed⟩
  have h_law_draw : Fn P w K mg base (ctK K) "_law_draw" 2 2 [0] false F_law_draw := ⟨_, _, _, ok_law_draw (w := w) (base := base) (ct := ctK K) B h_law_mixed t_law_draw, g_law_draw, t_law_draw.kp, bi_law_draw t_law_draw⟩
  have h_law_number : Fn P w K mg base (ctK K) "_law_number" 3 1 [0] false F_law_number := ⟨_, _, _, ok_law_number (w := w) (base := base) (ct := ctK K) B h_law_draw t_law_number, g_law_number, t_law_number.kp, bi_law_number t_law_number⟩
  have h_law_value : Fn P w K mg base (ctK K) "_law_value" 4 1 [0] false F_law_value := ⟨_, _, _, ok_law_value (w := w) (base := base) (ct := ctK K) B h_law_draw h_law_number t_law_value, g_law_value, t_law_value.kp, bi_law_value t_law_value⟩
  exact ok_law (w := w) (base := base) (ct := ctK K) B h_law_hand h_law_right h_law_plain_error h_law_kinds h_law_value h_er_MadeError h_isx_ValueError (fun a e => by cases (show some (He.ga K "NoList") = some a from e); exact xfC_of (c.x 28 (x := fun K => excC K "NoList") rfl)) (fun a e => by cases (show some (He.ga K "NoPolynomial") = some a from e); exact xfC_of (c.x 29 (x := fun K => excC K "NoPolynomial") rfl)) (fun a e => by cases (show some (He.ga K "NoWriter") = some a from e); exact xfC_of (c.x 30 (x := fun K => excC K "NoWriter") rfl)) (fun a e => by cases (show some (He.ga K "NoWriters") = some a from e); exact xfC_of (c.x 31 (x := fun K => excC K "NoWriters") rfl)) (fun a e => by cases (show some (He.ga K "Open") = some a from e); exact xfC_of (c.x 32 (x := fun K => excC K "Open") rfl)) (c.x 27 (x := sysB) rfl) (h_erf_NoList base) (h_erf_NoPolynomial base) (h_erf_NoWriter base) (h_erf_NoWriters base) (h_erf_Open base) t_law callerA ⟨rfl, by decide, by decide⟩ rfl
end Wk01
section
open PySem PySem.W PySem.Calls PyProof.Rows
set_option maxHeartbeats 0 in
theorem Wk01.end_of (LH : ∀ ns : List Int, ns.length ≤ 63 → ∃ outs, Wk01.F_law [.lst (ns.map Ip.D.int)] = .ok (.bl true) outs) : PySem.Challenge.rw_madeanew_k01_errors_of_the_package.Holds := by
  w_on; o_law
  refine HandSHeadRun.head_any (r := OpenLaw.row PySem.Challenge.rw_madeanew_k01_errors_of_the_package) (q := view (OpenLaw.row PySem.Challenge.rw_madeanew_k01_errors_of_the_package).prog [31]) (H := @Wk01.hk) (ob := @Wk01.ob) (M := 8000) (loose := @Wk01.loose) (d := HandSHeadRun.topDef (OpenLaw.row PySem.Challenge.rw_madeanew_k01_errors_of_the_package).prog 31) (kwd := []) @Wk01.ob_eq
    (by kernel_rfl) (fun s => by kernel_rfl) @Wk01.run (by kernel_rfl) (by kernel_rfl) (by kernel_rfl) (by rfl) (by first | assumption | decide +kernel) (by decide +kernel) ⟨rfl, rfl, rfl, rfl, rfl, by decide +kernel⟩ ?hw ?hc
  case hw => w_witness2
  case hc =>
    refine Ip.law_endA (lw := PySem.Challenge.rw_madeanew_k01_errors_of_the_package) (nn := 63) (xx := "_law_script") rfl (by decide) (by kernel_rfl) ?F
    intro w mg fa h Y G hmg0
    obtain ⟨K, KX, c⟩ := Y
    have hmg : mg ("law" : PySem.Str) = some (.ref fa) := by
      have e : (HandSHeadRun.topDef (OpenLaw.row PySem.Challenge.rw_madeanew_k01_errors_of_the_package).prog 31).name = ("law" : PySem.Str) := by kernel_rfl
      rw [← e]
      exact hmg0
    obtain ⟨fd, hb, hF⟩ := Wk01.facts (P := PySem.Challenge.rw_madeanew_k01_errors_of_the_package.prog) (w := w) KX G hmg c (by kernel_rfl) (by kernel_rfl)
    exact ⟨K, fd, _, KX, hb, fun H a ns hl _ hS => Ip.law_sp (LH ns hl) (by intro P hP; exact (Ip.tab_no hP).elim) hS, fun base _ _ => hF base⟩
end
set_option maxHeartbeats 2000000
namespace Np
open PySem L2 Ip
open PySem.W (dataLe dataLt keyToks keyToksAll)
abbrev Tm := Int × List Nat
def zI (e : List Nat) : List Int := e.map fun (n : Nat) => (n : Int)
def eD (e : List Nat) : D := .tup ((zI e).map D.int)
def tD (t : Tm) : D := .tup [.int t.1, eD t.2]
def pD (p : List Tm) : D := .tup (p.map tD)
def sm (e : List Nat) : Int := ((e.sum : Nat) : Int)
/-- the key of a term: its degree, then its exponents -/
def kyD (e : List Nat) : D := .tup [.int (sm e), eD e]
def kP (e : List Nat) : PyData := .tuple [.int (sm e), .tuple ((zI e).map PyData.int)]
theorem toPys_ints : ∀ e : List Int, toPys (e.map D.int) = some (e.map PyData.int)
  | [] => rfl
  | n :: e => by rw [List.map_cons, toPys, toPys_ints e]; rfl
theorem toPy_eD (e : List Nat) : toPy (eD e) = some (.tuple ((zI e).map PyData.int)) := by unfold eD; rw [toPy, toPys_ints]; rfl
theorem toPy_kyD (e : List Nat) : toPy (kyD e) = some (kP e) := by
  unfold kyD kP
  rw [toPy, toPys, toPys, toPy_eD]
  rfl
theorem toPys_kyD : ∀ es : List (List Nat), toPys (es.map kyD) = some (es.map kP)
  | [] => rfl
  | e :: es => by rw [List.map_cons, toPys, toPy_kyD, toPys_kyD es]; rfl
def klt (a b : List Nat) : Bool := dataLt (kP a) (kP b)
theorem alike_ints : ∀ a b : List Int, PySem.W.alikeAll (a.map PyData.int) (b.map PyData.int) = true
  | [], b => by rw [List.map_nil, PySem.W.alikeAll]
  | x :: a, [] => by rw [List.map_nil, List.map_cons, PySem.W.alikeAll]
  | x :: a, y :: b => by rw [List.map_cons, List.map_cons, PySem.W.alikeAll, PySem.W.alike, alike_ints a b]; rfl
theorem alike_kP (a b : List Nat) : PySem.W.alike (kP a) (kP b) = true := by
  unfold kP
  rw [PySem.W.alike, PySem.W.alikeAll, PySem.W.alikeAll, PySem.W.alikeAll, PySem.W.alike, PySem.W.alike, alike_ints]
  rfl
theorem depth_ints : ∀ a : List Int, PyData.depthAll (a.map PyData.int) = PyData.depthAll [] ∨ PyData.depthAll (a.map PyData.int) = PyData.depthAll [.int 0]
  | [] => .inl rfl
  | x :: a => by
    right
    rcases depth_ints a with h | h <;> simp only [List.map_cons, PyData.depthAll, PyData.depth] at h ⊢ <;> omega
theorem depth_kP (a : List Nat) : (kP a).depth ≤ 60 := by
  unfold kP
  rcases depth_ints (zI a) with h | h <;> simp only [PyData.depthAll, PyData.depth] at h ⊢ <;> omega
theorem okSort_kP (es : List (List Nat)) : okSort (es.map kP) = true := by
  unfold okSort
  simp only [Bool.and_eq_true, List.all_eq_true, decide_eq_true_eq]
  refine ⟨fun d hd d' hd' => ?_, fun d hd => ?_, fun d hd => ?_⟩
  · obtain ⟨a, _, rfl⟩ := List.mem_map.1 hd
    obtain ⟨b, _, rfl⟩ := List.mem_map.1 hd'
    exact alike_kP a b
  · obtain ⟨a, _, rfl⟩ := List.mem_map.1 hd
    rfl
  · obtain ⟨a, _, rfl⟩ := List.mem_map.1 hd
    exact depth_kP a
def srt (es : List (List Nat)) : List (List Nat) := es.mergeSort fun a b => !klt a b
theorem sortL_kP (f : List Nat → D) (es : List (List Nat)) : sortL true ((es.map f).zip (es.map kP)) = (srt es).map f := by
  have e1 : (es.map f).zip (es.map kP) = es.map fun e => (f e, kP e) := by
    induction es with
    | nil => rfl
    | cons e es ih => rw [List.map_cons, List.map_cons, List.map_cons, List.zip_cons_cons, ih]
  rw [e1]
  unfold sortL srt
  have k := map_ms (le := dataLe true (fun p : D × PyData => p.2)) (fun e : List Nat => (f e, kP e)) es
  rw [← k, List.map_map]
  rfl
end Np
set_option maxHeartbeats 2000000
namespace Np
open PySem L2 Ip
def lin (φ : List Nat → Int) : List Tm → Int
  | [] => 0
  | t :: p => t.1 * φ t.2 + lin φ p
def look : List Tm → List Nat → Option Int
  | [], _ => none
  | t :: m, e => if t.2 = e then some t.1 else look m e
def get (m : List Tm) (e : List Nat) : Int := (look m e).getD 0
def has (m : List Tm) (e : List Nat) : Bool := m.any fun t => decide (t.2 = e)
def put (m : List Tm) (e : List Nat) (c : Int) : List Tm := if has m e = true then m.map fun t => if t.2 = e then (c, t.2) else t else m ++ [(c, e)]
end Np
set_option maxHeartbeats 2000000
namespace Np
open PySem L2 Ip
def mono : List Int → List Nat → Int
  | v :: vs, k :: e => v ^ k * mono vs e
  | _, _ => 1
def val (vs : List Int) (p : List Tm) : Int := lin (mono vs) p
def Bt (b : Nat) (x : Int) : Prop := x.natAbs < 2 ^ b
theorem Bt.log {b : Nat} {x : Int} (h : Bt b x) : x.natAbs.log2 ≤ b := by
  by_cases z : x.natAbs = 0
  · rw [z]; simp
  · exact Nat.le_of_lt ((Nat.log2_lt z).2 h)
theorem Bt.mono {a b : Nat} {x : Int} (h : Bt a x) (l : a ≤ b) : Bt b x := Nat.lt_of_lt_of_le h (Nat.pow_le_pow_right (by decide) l)
theorem Bt.one : Bt 1 1 := by unfold Bt; decide
end Np
set_option maxHeartbeats 2000000
namespace Ip
open PySem L2
theorem cutD_first (ds : List D) (n : Nat) : cutD ds none (some (n : Int)) = ds.take n := by
  unfold cutD
  rw [HT.sIx_none, HT.sIx_nat, List.drop_zero, Nat.sub_zero]
  rcases Nat.le_total n ds.length with h | h
  · rw [Nat.min_eq_left h]
  · rw [Nat.min_eq_right h, List.take_length, List.take_of_length_le h]
end Ip
namespace Np
open PySem L2 Ip
section
variable {ρ : Ip.Env} {P : D → Ip.Env → Prop} {e : List Nat} {p : List Tm} {t : Tm}
theorem zI_sum : ∀ e : List Nat, (zI e).sum = sm e
  | [] => rfl
  | n :: e => by
    have := zI_sum e
    unfold zI sm at *
    rw [List.map_cons, List.sum_cons, List.sum_cons, this]
    push_cast; rfl
theorem o_sumE (w : P (.int (sm e)) ρ) : wo (oSumT [eD e]) ρ P := o_sumT (ns := zI e) (by rw [zI_sum]; exact w)
theorem zI_len (e : List Nat) : (zI e).length = e.length := by unfold zI; rw [List.length_map]
theorem o_lenE (w : P (.int (e.length : Nat)) ρ) : wo (oLen [eD e]) ρ P := by
  have : ((zI e).map D.int).length = e.length := by rw [List.length_map, zI_len]
  exact o_lenT (by rw [this]; exact w)
theorem x_sqP {Q : List D → Prop} (w : Q (p.map tD)) : ∃ es, asSeq (pD p) = some es ∧ Q es := ⟨_, rfl, w⟩
theorem x_sqE {Q : List D → Prop} (w : Q ((zI e).map D.int)) : ∃ es, asSeq (eD e) = some es ∧ Q es := ⟨_, rfl, w⟩
theorem o_ix0 (w : P (.int t.1) ρ) : wo (ixD (tD t) (.int 0)) ρ P := w
theorem o_ix1 (w : P (eD t.2) ρ) : wo (ixD (tD t) (.int 1)) ρ P := w
theorem o_ixKy (w : P (eD e) ρ) : wo (ixD (kyD e) (.int 1)) ρ P := w
theorem o_mulD {a b : Nat} {x y : Int} (h : Bt a x) (k : Bt b y) (l : a + b < 1000000) (w : P (.int (x * y)) ρ) : wo (mulD (.int x) (.int y)) ρ P := o_mulW (by have := h.log; have := k.log; omega) w
theorem o_sortM {es : List (List Nat)} (w : P (.lst ((srt es).map kyD)) ρ) : wo (oSortD true [.lst (es.map kyD)]) ρ P := o_some (d := .lst ((srt es).map kyD)) (by
  unfold oSortD
  dsimp only
  rw [toPys_kyD]
  dsimp only
  rw [if_pos (okSort_kP es), sortL_kP]) w
theorem o_ltKy {a b : List Nat} (w : P (.bl (klt a b)) ρ) : wo (ltXD (kyD a) (kyD b)) ρ P := o_some (d := .bl (klt a b)) (by
  unfold ltXD
  rw [toPy_kyD, toPy_kyD]
  show ifO _ _ = _
  unfold ifO
  rw [if_pos ⟨alike_kP a b, depth_kP a⟩]; rfl) w
end
end Np
set_option maxHeartbeats 4000000
namespace Wk01
open PySem L2 Ip
local macro_rules | `(tactic| and_intros) => `(tactic| repeat (first | (with_reducible first | refine w_c ?_ | refine w_nil ?_ | refine w_nx ?_ | refine w_yes ?_ | refine w_pair ?_ | refine w_pairO ?_ | refine w_pairR ?_ | refine w_m2 ?_ | refine w_un ?_ | refine w_cons ?_ | refine w_own ?_ | refine w_io ?_ | refine w_arg ?_ | refine w_argI ?_ | refine w_seqI ?_ | refine w_tup ?_ | refine w_lst ?_ | refine w_and ?_ | refine w_or ?_ | refine w_notV ?_ | refine w_ite ?_ | refine w_test ?_ | refine w_not ?_ | refine w_tand ?_ | refine w_tor ?_ | refine w_chain ?_ | refine w_call0 ?_ | refine w_call1 ?_ | refine w_lstM ?_ | refine w_strM ?_ | refine w_slice ?_ | refine w_oN ?_ | refine w_oS ?_ | refine w_seq ?_ | refine w_if ?_ | refine w_ret ?_ | refine w_drop ?_ | refine w_set ?_ | refine w_setO ?_ | refine w_asg ?_ | refine w_gIx ?_ | refine w_for ?_ | refine w_fn ?_ | refine w_cutL ?_ | refine w_enumS ?_ | refine w_fld1 ?_ | refine w_fldS ?_ | refine w_make ?_ | refine w_meth ?_ | refine w_raise ?_ | refine w_try ?_ | refine w_tryC ?_ | refine w_joinRev ?_ | refine w_while ?_ | refine t_nx ?_ | refine t_ct ?_ | refine t_bk ?_ | refine t_rt ?_ | refine q_nx ?_ | refine q_rt ?_ | refine q_bk ?_ | refine q_ct ?_ | refine e_rt ?_ | refine e_nx ?_ | refine i_t ?_ | refine i_f ?_ | refine i_nt ?_ | refine i_nf ?_ | refine o_add ?_ | refine o_sub ?_ | refine o_lt ?_ | refine o_le ?_ | refine o_gt ?_ | refine o_ge ?_ | refine o_int ?_ | refine o_abs ?_ | refine o_lenL ?_ | refine o_lenT ?_ | refine o_inS ?_ | refine o_notInS ?_ | refine o_listL ?_ | refine o_listT ?_ | refine o_tupL ?_ | refine o_tupT ?_ | refine o_eqI ?_ | refine o_neI ?_ | refine o_isN ?_ | refine o_notN ?_ | refine o_rev ?_ | refine o_max ?_ | refine o_min ?_ | refine o_lenCh ?_ | refine o_notInCh ?_ | refine o_listCh ?_ | refine o_inI ?_ | refine x_bl ?_ | refine x_int ?_ | refine x_str ?_ | refine x_sqL ?_ | refine x_sqT ?_ | refine x_sqS ?_ | refine x_isL ?_ | refine x_out ?_ | refine x_some ?_ | refine x_objL ?_ | refine x_objI ?_ | refine x_objD ?_ | refine x_cls ?_ | refine fl_nx ?_ | refine fl_ct ?_ | refine w_zip ?_ | refine w_zipT ?_ | refine w_sliceL ?_ | refine w_raise1 ?_ | refine w_tryF ?_ | refine o_and ?_ | refine o_shr ?_ | refine o_negI ?_ | refine o_listDT ?_ | refine w_enumT ?_ | refine w_sliceT ?_ | refine w_revT ?_ | refine w_eqO ?_ | refine w_callT ?_ | refine o_isB ?_ | refine o_notB ?_ | refine Np.o_sumE ?_ | refine Np.o_lenE ?_ | refine Np.x_sqP ?_ | refine Np.x_sqE ?_ | refine Np.o_ix0 ?_ | refine Np.o_ix1 ?_ | refine Np.o_ixKy ?_ | refine Np.o_ltKy ?_ | refine Np.o_sortM ?_ | refine ⟨_, _, rfl, ?_⟩ | refine x_r1 (by with_unfolding_all omega) ?_ | refine x_r2 (by with_unfolding_all omega) ?_ | refine w_var (by with_unfolding_all exact rfl) ?_ | refine x_env (by with_unfolding_all exact rfl) ?_ | refine x_lst (by with_unfolding_all exact rfl) ?_ | refine x_slot (by with_unfolding_all exact of_decide_eq_true rfl) ?_ | refine x_nm (by with_unfolding_all exact of_decide_eq_true rfl) ?_ | refine o_ixL (by with_unfolding_all exact rfl) ?_ | refine o_ixT (by with_unfolding_all exact rfl) ?_ | refine o_isiB (b := true) (by with_unfolding_all exact rfl) ?_ | refine o_isiB (b := false) (by with_unfolding_all exact rfl) ?_ | refine o_lenS' (by first | with_unfolding_all omega | assumption) ?_ | refine x_tp (by with_unfolding_all exact rfl) ?_ | refine x_rv (by first | with_unfolding_all omega | assumption) ?_ | refine o_isO (b := true) (by with_unfolding_all exact rfl) ?_ | refine o_isO (b := false) (by with_unfolding_all exact rfl) ?_ | refine x_fld (by with_unfolding_all exact rfl) (by with_unfolding_all exact rfl) ?_ | refine x_meth (by with_unfolding_all exact rfl) ⟨(by with_unfolding_all exact rfl), (by with_unfolding_all exact rfl)⟩ ?_ | refine o_pow (by with_unfolding_all decide) ?_ | refine o_mulR (by with_unfolding_all decide) ?_ | refine o_mulL (by with_unfolding_all decide) ?_ | refine o_mulL (by with_unfolding_all omega) ?_ | refine o_mod (by first | assumption | with_unfolding_all decide) ?_ | refine o_div (by first | assumption | with_unfolding_all decide) (by first | assumption | with_unfolding_all decide) ?_)))
open Np (eD tD pD kyD)
def hd (cs : List Int) (i d c s r : Int) : D := .lst [.lst (cs.map D.int), .int i, .int d, .int c, .int s, .int r]
def HOk (c : Nat) (h : D) : Prop := ∃ (cs : List Int) (i d k s r : Int), h = hd cs i d k s r ∧ 0 ≤ i ∧ 0 ≤ k ∧ k ≤ c ∧ cs.length ≤ 63
theorem mixed_ok (n c : Int) (h0 : 0 ≤ c) (h1 : c < 2 ^ 45) : wf (F_law_mixed [.int n, .int c]) fun d outs => (∃ m, d = .int m) ∧ outs = [] := by
  unfold F_law_mixed
  with_reducible refine w_fn ?_
  unfold m_law_mixed
  and_intros
  refine o_pow ⟨by decide, by decide, ?_⟩ ?_
  · have h2 := Int.emod_nonneg n (show (2147483647 : Int) ≠ 0 by decide)
    have h3 := Int.emod_lt_of_pos n (show (0 : Int) < 2147483647 by decide)
    omega
  and_intros
  have h4 := Int.emod_nonneg ((n % 2147483647 + 7919 * c + 1) ^ Int.toNat 5) (show (2147483647 : Int) ≠ 0 by decide)
  have h5 := Int.emod_lt_of_pos ((n % 2147483647 + 7919 * c + 1) ^ Int.toNat 5) (show (0 : Int) < 2147483647 by decide)
  generalize (n % 2147483647 + 7919 * c + 1) ^ Int.toNat 5 % 2147483647 = y at *
  and_intros
  exact ⟨⟨_, rfl⟩, rfl⟩
theorem draw_ok {c : Nat} {h : D} {many : Int} (H : HOk c h) (hc : c < 2 ^ 40) (h1 : 1 ≤ many) (h2 : many < 10 ^ 60) : wf (F_law_draw [h, .int many]) fun d outs => ∃ r h', d = .int r ∧ outs = [h'] ∧ 0 ≤ r ∧ r < many ∧ HOk (c + 1) h' := by
  obtain ⟨cs, i, d, k, s, r, rfl, hi, hk0, hk, hl⟩ := H
  have hlog := log_small (j := many) (by omega) h2
  have hm : (0 : Int) < many := by omega
  unfold F_law_draw hd
  with_reducible refine w_fn ?_
  unfold m_law_draw
  repeat (first | (with_reducible first | refine w_c ?_ | refine w_nil ?_ | refine w_nx ?_ | refine w_yes ?_ | refine w_pair ?_ | refine w_pairO ?_ | refine w_pairR ?_ | refine w_m2 ?_ | refine w_un ?_ | refine w_cons ?_ | refine w_own ?_ | refine w_io ?_ | refine w_arg ?_ | refine w_argI ?_ | refine w_seqI ?_ | refine w_tup ?_ | refine w_lst ?_ | refine w_and ?_ | refine w_or ?_ | refine w_notV ?_ | refine w_ite ?_ | refine w_test ?_ | refine w_not ?_ | refine w_tand ?_ | refine w_tor ?_ | refine w_chain ?_ | refine w_call0 ?_ | refine w_call1 ?_ | refine w_lstM ?_ | refine w_strM ?_ | refine w_slice ?_ | refine w_oN ?_ | refine w_oS ?_ | refine w_seq ?_ | refine w_if ?_ | refine w_ret ?_ | refine w_drop ?_ | refine w_set ?_ | refine w_setO ?_ | refine w_asg ?_ | refine w_gIx ?_ | refine w_for ?_ | refine w_fn ?_ | refine w_cutL ?_ | refine w_enumS ?_ | refine w_fld1 ?_ | refine w_fldS ?_ | refine w_make ?_ | refine w_meth ?_ | refine w_raise ?_ | refine w_try ?_ | refine w_tryC ?_ | refine w_joinRev ?_ | refine w_while ?_ | refine t_nx ?_ | refine t_ct ?_ | refine t_bk ?_ | refine t_rt ?_ | refine q_nx ?_ | refine q_rt ?_ | refine q_bk ?_ | refine q_ct ?_ | refine e_rt ?_ | refine e_nx ?_ | refine i_t ?_ | refine i_f ?_ | refine i_nt ?_ | refine i_nf ?_ | refine o_add ?_ | refine o_sub ?_ | refine o_lt ?_ | refine o_le ?_ | refine o_gt ?_ | refine o_ge ?_ | refine o_int ?_ | refine o_abs ?_ | refine o_lenL ?_ | refine o_lenT ?_ | refine o_inS ?_ | refine o_notInS ?_ | refine o_listL ?_ | refine o_listT ?_ | refine o_tupL ?_ | refine o_tupT ?_ | refine o_eqI ?_ | refine o_neI ?_ | refine o_isN ?_ | refine o_notN ?_ | refine o_rev ?_ | refine o_max ?_ | refine o_min ?_ | refine o_lenCh ?_ | refine o_notInCh ?_ | refine o_listCh ?_ | refine o_inI ?_ | refine x_bl ?_ | refine x_int ?_ | refine x_str ?_ | refine x_sqL ?_ | refine x_sqT ?_ | refine x_sqS ?_ | refine x_isL ?_ | refine x_out ?_ | refine x_some ?_ | refine x_objL ?_ | refine x_objI ?_ | refine x_objD ?_ | refine x_cls ?_ | refine fl_nx ?_ | refine fl_ct ?_ | refine w_zip ?_ | refine w_zipT ?_ | refine w_sliceL ?_ | refine w_raise1 ?_ | refine w_tryF ?_ | refine o_and ?_ | refine o_shr ?_ | refine o_negI ?_ | refine o_listDT ?_ | refine w_enumT ?_ | refine w_sliceT ?_ | refine w_revT ?_ | refine w_eqO ?_ | refine w_callT ?_ | refine o_isB ?_ | refine o_notB ?_ | refine Np.o_sumE ?_ | refine Np.o_lenE ?_ | refine Np.x_sqP ?_ | refine Np.x_sqE ?_ | refine Np.o_ix0 ?_ | refine Np.o_ix1 ?_ | refine Np.o_ixKy ?_ | refine Np.o_ltKy ?_ | refine Np.o_sortM ?_ | refine ⟨_, _, rfl, ?_⟩ | refine x_r1 (by with_unfolding_all omega) ?_ | refine x_r2 (by with_unfolding_all omega) ?_ | refine w_var (by with_unfolding_all exact rfl) ?_ | refine x_env (by with_unfolding_all exact rfl) ?_ | refine x_lst (by with_unfolding_all exact rfl) ?_ | refine x_slot (by with_unfolding_all exact of_decide_eq_true rfl) ?_ | refine x_nm (by with_unfolding_all exact of_decide_eq_true rfl) ?_ | refine o_ixL (by with_unfolding_all exact rfl) ?_ | refine o_ixT (by with_unfolding_all exact rfl) ?_ | refine o_isiB (b := true) (by with_unfolding_all exact rfl) ?_ | refine o_isiB (b := false) (by with_unfolding_all exact rfl) ?_ | refine o_lenS' (by first | with_unfolding_all omega | assumption) ?_ | refine x_tp (by with_unfolding_all exact rfl) ?_ | refine x_rv (by first | with_unfolding_all omega | assumption) ?_ | refine o_isO (b := true) (by with_unfolding_all exact rfl) ?_ | refine o_isO (b := false) (by with_unfolding_all exact rfl) ?_ | refine x_fld (by with_unfolding_all exact rfl) (by with_unfolding_all exact rfl) ?_ | refine x_meth (by with_unfolding_all exact rfl) ⟨(by with_unfolding_all exact rfl), (by with_unfolding_all exact rfl)⟩ ?_ | refine o_pow (by with_unfolding_all decide) ?_ | refine o_mulR (by with_unfolding_all decide) ?_ | refine o_mulL (by with_unfolding_all decide) ?_ | refine o_mulL (by with_unfolding_all omega) ?_ | refine o_mod (by first | assumption | with_unfolding_all decide) ?_ | refine o_div (by first | assumption | with_unfolding_all decide) (by first | assumption | with_unfolding_all decide) ?_ | refine ⟨(by with_unfolding_all rfl), ?_⟩ | refine ⟨_, (by with_unfolding_all rfl), ?_⟩ | refine ⟨_, _, _, (by with_unfolding_all rfl), (by with_unfolding_all rfl), (by with_unfolding_all rfl), ?_⟩))
  rw [List.length_map]
  by_cases hp : ((cs.length : Nat) : Int) ≤ i
  · rw [decide_eq_true hp]
    repeat (first | (with_reducible first | refine w_c ?_ | refine w_nil ?_ | refine w_nx ?_ | refine w_yes ?_ | refine w_pair ?_ | refine w_pairO ?_ | refine w_pairR ?_ | refine w_m2 ?_ | refine w_un ?_ | refine w_cons ?_ | refine w_own ?_ | refine w_io ?_ | refine w_arg ?_ | refine w_argI ?_ | refine w_seqI ?_ | refine w_tup ?_ | refine w_lst ?_ | refine w_and ?_ | refine w_or ?_ | refine w_notV ?_ | refine w_ite ?_ | refine w_test ?_ | refine w_not ?_ | refine w_tand ?_ | refine w_tor ?_ | refine w_chain ?_ | refine w_call0 ?_ | refine w_call1 ?_ | refine w_lstM ?_ | refine w_strM ?_ | refine w_slice ?_ | refine w_oN ?_ | refine w_oS ?_ | refine w_seq ?_ | refine w_if ?_ | refine w_ret ?_ | refine w_drop ?_ | refine w_set ?_ | refine w_setO ?_ | refine w_asg ?_ | refine w_gIx ?_ | refine w_for ?_ | refine w_fn ?_ | refine w_cutL ?_ | refine w_enumS ?_ | refine w_fld1 ?_ | refine w_fldS ?_ | refine w_make ?_ | refine w_meth ?_ | refine w_raise ?_ | refine w_try ?_ | refine w_tryC ?_ | refine w_joinRev ?_ | refine w_while ?_ | refine t_nx ?_ | refine t_ct ?_ | refine t_bk ?_ | refine t_rt ?_ | refine q_nx ?_ | refine q_rt ?_ | refine q_bk ?_ | refine q_ct ?_ | refine e_rt ?_ | refine e_nx ?_ | refine i_t ?_ | refine i_f ?_ | refine i_nt ?_ | refine i_nf ?_ | refine o_add ?_ | refine o_sub ?_ | refine o_lt ?_ | refine o_le ?_ | refine o_gt ?_ | refine o_ge ?_ | refine o_int ?_ | refine o_abs ?_ | refine o_lenL ?_ | refine o_lenT ?_ | refine o_inS ?_ | refine o_notInS ?_ | refine o_listL ?_ | refine o_listT ?_ | refine o_tupL ?_ | refine o_tupT ?_ | refine o_eqI ?_ | refine o_neI ?_ | refine o_isN ?_ | refine o_notN ?_ | refine o_rev ?_ | refine o_max ?_ | refine o_min ?_ | refine o_lenCh ?_ | refine o_notInCh ?_ | refine o_listCh ?_ | refine o_inI ?_ | refine x_bl ?_ | refine x_int ?_ | refine x_str ?_ | refine x_sqL ?_ | refine x_sqT ?_ | refine x_sqS ?_ | refine x_isL ?_ | refine x_out ?_ | refine x_some ?_ | refine x_objL ?_ | refine x_objI ?_ | refine x_objD ?_ | refine x_cls ?_ | refine fl_nx ?_ | refine fl_ct ?_ | refine w_zip ?_ | refine w_zipT ?_ | refine w_sliceL ?_ | refine w_raise1 ?_ | refine w_tryF ?_ | refine o_and ?_ | refine o_shr ?_ | refine o_negI ?_ | refine o_listDT ?_ | refine w_enumT ?_ | refine w_sliceT ?_ | refine w_revT ?_ | refine w_eqO ?_ | refine w_callT ?_ | refine o_isB ?_ | refine o_notB ?_ | refine Np.o_sumE ?_ | refine Np.o_lenE ?_ | refine Np.x_sqP ?_ | refine Np.x_sqE ?_ | refine Np.o_ix0 ?_ | refine Np.o_ix1 ?_ | refine Np.o_ixKy ?_ | refine Np.o_ltKy ?_ | refine Np.o_sortM ?_ | refine ⟨_, _, rfl, ?_⟩ | refine x_r1 (by with_unfolding_all omega) ?_ | refine x_r2 (by with_unfolding_all omega) ?_ | refine w_var (by with_unfolding_all exact rfl) ?_ | refine x_env (by with_unfolding_all exact rfl) ?_ | refine x_lst (by with_unfolding_all exact rfl) ?_ | refine x_slot (by with_unfolding_all exact of_decide_eq_true rfl) ?_ | refine x_nm (by with_unfolding_all exact of_decide_eq_true rfl) ?_ | refine o_ixL (by with_unfolding_all exact rfl) ?_ | refine o_ixT (by with_unfolding_all exact rfl) ?_ | refine o_isiB (b := true) (by with_unfolding_all exact rfl) ?_ | refine o_isiB (b := false) (by with_unfolding_all exact rfl) ?_ | refine o_lenS' (by first | with_unfolding_all omega | assumption) ?_ | refine x_tp (by with_unfolding_all exact rfl) ?_ | refine x_rv (by first | with_unfolding_all omega | assumption) ?_ | refine o_isO (b := true) (by with_unfolding_all exact rfl) ?_ | refine o_isO (b := false) (by with_unfolding_all exact rfl) ?_ | refine x_fld (by with_unfolding_all exact rfl) (by with_unfolding_all exact rfl) ?_ | refine x_meth (by with_unfolding_all exact rfl) ⟨(by with_unfolding_all exact rfl), (by with_unfolding_all exact rfl)⟩ ?_ | refine o_pow (by with_unfolding_all decide) ?_ | refine o_mulR (by with_unfolding_all decide) ?_ | refine o_mulL (by with_unfolding_all decide) ?_ | refine o_mulL (by with_unfolding_all omega) ?_ | refine o_mod (by first | assumption | with_unfolding_all decide) ?_ | refine o_div (by first | assumption | with_unfolding_all decide) (by first | assumption | with_unfolding_all decide) ?_ | refine ⟨(by with_unfolding_all rfl), ?_⟩ | refine ⟨_, (by with_unfolding_all rfl), ?_⟩ | refine ⟨_, _, _, (by with_unfolding_all rfl), (by with_unfolding_all rfl), (by with_unfolding_all rfl), ?_⟩))
    refine wf_imp (mixed_ok s (k + 1) (by omega) (by omega)) ?_
    rintro d1 outs ⟨⟨m, rfl⟩, rfl⟩
    repeat (first | (with_reducible first | refine w_c ?_ | refine w_nil ?_ | refine w_nx ?_ | refine w_yes ?_ | refine w_pair ?_ | refine w_pairO ?_ | refine w_pairR ?_ | refine w_m2 ?_ | refine w_un ?_ | refine w_cons ?_ | refine w_own ?_ | refine w_io ?_ | refine w_arg ?_ | refine w_argI ?_ | refine w_seqI ?_ | refine w_tup ?_ | refine w_lst ?_ | refine w_and ?_ | refine w_or ?_ | refine w_notV ?_ | refine w_ite ?_ | refine w_test ?_ | refine w_not ?_ | refine w_tand ?_ | refine w_tor ?_ | refine w_chain ?_ | refine w_call0 ?_ | refine w_call1 ?_ | refine w_lstM ?_ | refine w_strM ?_ | refine w_slice ?_ | refine w_oN ?_ | refine w_oS ?_ | refine w_seq ?_ | refine w_if ?_ | refine w_ret ?_ | refine w_drop ?_ | refine w_set ?_ | refine w_setO ?_ | refine w_asg ?_ | refine w_gIx ?_ | refine w_for ?_ | refine w_fn ?_ | refine w_cutL ?_ | refine w_enumS ?_ | refine w_fld1 ?_ | refine w_fldS ?_ | refine w_make ?_ | refine w_meth ?_ | refine w_raise ?_ | refine w_try ?_ | refine w_tryC ?_ | refine w_joinRev ?_ | refine w_while ?_ | refine t_nx ?_ | refine t_ct ?_ | refine t_bk ?_ | refine t_rt ?_ | refine q_nx ?_ | refine q_rt ?_ | refine q_bk ?_ | refine q_ct ?_ | refine e_rt ?_ | refine e_nx ?_ | refine i_t ?_ | refine i_f ?_ | refine i_nt ?_ | refine i_nf ?_ | refine o_add ?_ | refine o_sub ?_ | refine o_lt ?_ | refine o_le ?_ | refine o_gt ?_ | refine o_ge ?_ | refine o_int ?_ | refine o_abs ?_ | refine o_lenL ?_ | refine o_lenT ?_ | refine o_inS ?_ | refine o_notInS ?_ | refine o_listL ?_ | refine o_listT ?_ | refine o_tupL ?_ | refine o_tupT ?_ | refine o_eqI ?_ | refine o_neI ?_ | refine o_isN ?_ | refine o_notN ?_ | refine o_rev ?_ | refine o_max ?_ | refine o_min ?_ | refine o_lenCh ?_ | refine o_notInCh ?_ | refine o_listCh ?_ | refine o_inI ?_ | refine x_bl ?_ | refine x_int ?_ | refine x_str ?_ | refine x_sqL ?_ | refine x_sqT ?_ | refine x_sqS ?_ | refine x_isL ?_ | refine x_out ?_ | refine x_some ?_ | refine x_objL ?_ | refine x_objI ?_ | refine x_objD ?_ | refine x_cls ?_ | refine fl_nx ?_ | refine fl_ct ?_ | refine w_zip ?_ | refine w_zipT ?_ | refine w_sliceL ?_ | refine w_raise1 ?_ | refine w_tryF ?_ | refine o_and ?_ | refine o_shr ?_ | refine o_negI ?_ | refine o_listDT ?_ | refine w_enumT ?_ | refine w_sliceT ?_ | refine w_revT ?_ | refine w_eqO ?_ | refine w_callT ?_ | refine o_isB ?_ | refine o_notB ?_ | refine Np.o_sumE ?_ | refine Np.o_lenE ?_ | refine Np.x_sqP ?_ | refine Np.x_sqE ?_ | refine Np.o_ix0 ?_ | refine Np.o_ix1 ?_ | refine Np.o_ixKy ?_ | refine Np.o_ltKy ?_ | refine Np.o_sortM ?_ | refine ⟨_, _, rfl, ?_⟩ | refine x_r1 (by with_unfolding_all omega) ?_ | refine x_r2 (by with_unfolding_all omega) ?_ | refine w_var (by with_unfolding_all exact rfl) ?_ | refine x_env (by with_unfolding_all exact rfl) ?_ | refine x_lst (by with_unfolding_all exact rfl) ?_ | refine x_slot (by with_unfolding_all exact of_decide_eq_true rfl) ?_ | refine x_nm (by with_unfolding_all exact of_decide_eq_true rfl) ?_ | refine o_ixL (by with_unfolding_all exact rfl) ?_ | refine o_ixT (by with_unfolding_all exact rfl) ?_ | refine o_isiB (b := true) (by with_unfolding_all exact rfl) ?_ | refine o_isiB (b := false) (by with_unfolding_all exact rfl) ?_ | refine o_lenS' (by first | with_unfolding_all omega | assumption) ?_ | refine x_tp (by with_unfolding_all exact rfl) ?_ | refine x_rv (by first | with_unfolding_all omega | assumption) ?_ | refine o_isO (b := true) (by with_unfolding_all exact rfl) ?_ | refine o_isO (b := false) (by with_unfolding_all exact rfl) ?_ | refine x_fld (by with_unfolding_all exact rfl) (by with_unfolding_all exact rfl) ?_ | refine x_meth (by with_unfolding_all exact rfl) ⟨(by with_unfolding_all exact rfl), (by with_unfolding_all exact rfl)⟩ ?_ | refine o_pow (by with_unfolding_all decide) ?_ | refine o_mulR (by with_unfolding_all decide) ?_ | refine o_mulL (by with_unfolding_all decide) ?_ | refine o_mulL (by with_unfolding_all omega) ?_ | refine o_mod (by first | assumption | with_unfolding_all decide) ?_ | refine o_div (by first | assumption | with_unfolding_all decide) (by first | assumption | with_unfolding_all decide) ?_ | refine ⟨(by with_unfolding_all rfl), ?_⟩ | refine ⟨_, (by with_unfolding_all rfl), ?_⟩ | refine ⟨_, _, _, (by with_unfolding_all rfl), (by with_unfolding_all rfl), (by with_unfolding_all rfl), ?_⟩))
    exact ⟨_, _, rfl, rfl, Int.emod_nonneg _ (by omega), Int.emod_lt_of_pos _ hm, cs, i, d, k + 1, s, r, rfl, hi, by omega, by omega, hl⟩
  · rw [decide_eq_false hp]
    repeat (first | (with_reducible first | refine w_c ?_ | refine w_nil ?_ | refine w_nx ?_ | refine w_yes ?_ | refine w_pair ?_ | refine w_pairO ?_ | refine w_pairR ?_ | refine w_m2 ?_ | refine w_un ?_ | refine w_cons ?_ | refine w_own ?_ | refine w_io ?_ | refine w_arg ?_ | refine w_argI ?_ | refine w_seqI ?_ | refine w_tup ?_ | refine w_lst ?_ | refine w_and ?_ | refine w_or ?_ | refine w_notV ?_ | refine w_ite ?_ | refine w_test ?_ | refine w_not ?_ | refine w_tand ?_ | refine w_tor ?_ | refine w_chain ?_ | refine w_call0 ?_ | refine w_call1 ?_ | refine w_lstM ?_ | refine w_strM ?_ | refine w_slice ?_ | refine w_oN ?_ | refine w_oS ?_ | refine w_seq ?_ | refine w_if ?_ | refine w_ret ?_ | refine w_drop ?_ | refine w_set ?_ | refine w_setO ?_ | refine w_asg ?_ | refine w_gIx ?_ | refine w_for ?_ | refine w_fn ?_ | refine w_cutL ?_ | refine w_enumS ?_ | refine w_fld1 ?_ | refine w_fldS ?_ | refine w_make ?_ | refine w_meth ?_ | refine w_raise ?_ | refine w_try ?_ | refine w_tryC ?_ | refine w_joinRev ?_ | refine w_while ?_ | refine t_nx ?_ | refine t_ct ?_ | refine t_bk ?_ | refine t_rt ?_ | refine q_nx ?_ | refine q_rt ?_ | refine q_bk ?_ | refine q_ct ?_ | refine e_rt ?_ | refine e_nx ?_ | refine i_t ?_ | refine i_f ?_ | refine i_nt ?_ | refine i_nf ?_ | refine o_add ?_ | refine o_sub ?_ | refine o_lt ?_ | refine o_le ?_ | refine o_gt ?_ | refine o_ge ?_ | refine o_int ?_ | refine o_abs ?_ | refine o_lenL ?_ | refine o_lenT ?_ | refine o_inS ?_ | refine o_notInS ?_ | refine o_listL ?_ | refine o_listT ?_ | refine o_tupL ?_ | refine o_tupT ?_ | refine o_eqI ?_ | refine o_neI ?_ | refine o_isN ?_ | refine o_notN ?_ | refine o_rev ?_ | refine o_max ?_ | refine o_min ?_ | refine o_lenCh ?_ | refine o_notInCh ?_ | refine o_listCh ?_ | refine o_inI ?_ | refine x_bl ?_ | refine x_int ?_ | refine x_str ?_ | refine x_sqL ?_ | refine x_sqT ?_ | refine x_sqS ?_ | refine x_isL ?_ | refine x_out ?_ | refine x_some ?_ | refine x_objL ?_ | refine x_objI ?_ | refine x_objD ?_ | refine x_cls ?_ | refine fl_nx ?_ | refine fl_ct ?_ | refine w_zip ?_ | refine w_zipT ?_ | refine w_sliceL ?_ | refine w_raise1 ?_ | refine w_tryF ?_ | refine o_and ?_ | refine o_shr ?_ | refine o_negI ?_ | refine o_listDT ?_ | refine w_enumT ?_ | refine w_sliceT ?_ | refine w_revT ?_ | refine w_eqO ?_ | refine w_callT ?_ | refine o_isB ?_ | refine o_notB ?_ | refine Np.o_sumE ?_ | refine Np.o_lenE ?_ | refine Np.x_sqP ?_ | refine Np.x_sqE ?_ | refine Np.o_ix0 ?_ | refine Np.o_ix1 ?_ | refine Np.o_ixKy ?_ | refine Np.o_ltKy ?_ | refine Np.o_sortM ?_ | refine ⟨_, _, rfl, ?_⟩ | refine x_r1 (by with_unfolding_all omega) ?_ | refine x_r2 (by with_unfolding_all omega) ?_ | refine w_var (by with_unfolding_all exact rfl) ?_ | refine x_env (by with_unfolding_all exact rfl) ?_ | refine x_lst (by with_unfolding_all exact rfl) ?_ | refine x_slot (by with_unfolding_all exact of_decide_eq_true rfl) ?_ | refine x_nm (by with_unfolding_all exact of_decide_eq_true rfl) ?_ | refine o_ixL (by with_unfolding_all exact rfl) ?_ | refine o_ixT (by with_unfolding_all exact rfl) ?_ | refine o_isiB (b := true) (by with_unfolding_all exact rfl) ?_ | refine o_isiB (b := false) (by with_unfolding_all exact rfl) ?_ | refine o_lenS' (by first | with_unfolding_all omega | assumption) ?_ | refine x_tp (by with_unfolding_all exact rfl) ?_ | refine x_rv (by first | with_unfolding_all omega | assumption) ?_ | refine o_isO (b := true) (by with_unfolding_all exact rfl) ?_ | refine o_isO (b := false) (by with_unfolding_all exact rfl) ?_ | refine x_fld (by with_unfolding_all exact rfl) (by with_unfolding_all exact rfl) ?_ | refine x_meth (by with_unfolding_all exact rfl) ⟨(by with_unfolding_all exact rfl), (by with_unfolding_all exact rfl)⟩ ?_ | refine o_pow (by with_unfolding_all decide) ?_ | refine o_mulR (by with_unfolding_all decide) ?_ | refine o_mulL (by with_unfolding_all decide) ?_ | refine o_mulL (by with_unfolding_all omega) ?_ | refine o_mod (by first | assumption | with_unfolding_all decide) ?_ | refine o_div (by first | assumption | with_unfolding_all decide) (by first | assumption | with_unfolding_all decide) ?_ | refine ⟨(by with_unfolding_all rfl), ?_⟩ | refine ⟨_, (by with_unfolding_all rfl), ?_⟩ | refine ⟨_, _, _, (by with_unfolding_all rfl), (by with_unfolding_all rfl), (by with_unfolding_all rfl), ?_⟩))
    obtain ⟨w, e1, e2⟩ := at_in (l := cs.map D.int) hi (by rw [List.length_map]; omega)
    rw [List.getElem?_map, Option.map_eq_some_iff] at e2
    obtain ⟨y, hy, rfl⟩ := e2
    refine o_ixL e1 ?_
    repeat (first | (with_reducible first | refine w_c ?_ | refine w_nil ?_ | refine w_nx ?_ | refine w_yes ?_ | refine w_pair ?_ | refine w_pairO ?_ | refine w_pairR ?_ | refine w_m2 ?_ | refine w_un ?_ | refine w_cons ?_ | refine w_own ?_ | refine w_io ?_ | refine w_arg ?_ | refine w_argI ?_ | refine w_seqI ?_ | refine w_tup ?_ | refine w_lst ?_ | refine w_and ?_ | refine w_or ?_ | refine w_notV ?_ | refine w_ite ?_ | refine w_test ?_ | refine w_not ?_ | refine w_tand ?_ | refine w_tor ?_ | refine w_chain ?_ | refine w_call0 ?_ | refine w_call1 ?_ | refine w_lstM ?_ | refine w_strM ?_ | refine w_slice ?_ | refine w_oN ?_ | refine w_oS ?_ | refine w_seq ?_ | refine w_if ?_ | refine w_ret ?_ | refine w_drop ?_ | refine w_set ?_ | refine w_setO ?_ | refine w_asg ?_ | refine w_gIx ?_ | refine w_for ?_ | refine w_fn ?_ | refine w_cutL ?_ | refine w_enumS ?_ | refine w_fld1 ?_ | refine w_fldS ?_ | refine w_make ?_ | refine w_meth ?_ | refine w_raise ?_ | refine w_try ?_ | refine w_tryC ?_ | refine w_joinRev ?_ | refine w_while ?_ | refine t_nx ?_ | refine t_ct ?_ | refine t_bk ?_ | refine t_rt ?_ | refine q_nx ?_ | refine q_rt ?_ | refine q_bk ?_ | refine q_ct ?_ | refine e_rt ?_ | refine e_nx ?_ | refine i_t ?_ | refine i_f ?_ | refine i_nt ?_ | refine i_nf ?_ | refine o_add ?_ | refine o_sub ?_ | refine o_lt ?_ | refine o_le ?_ | refine o_gt ?_ | refine o_ge ?_ | refine o_int ?_ | refine o_abs ?_ | refine o_lenL ?_ | refine o_lenT ?_ | refine o_inS ?_ | refine o_notInS ?_ | refine o_listL ?_ | refine o_listT ?_ | refine o_tupL ?_ | refine o_tupT ?_ | refine o_eqI ?_ | refine o_neI ?_ | refine o_isN ?_ | refine o_notN ?_ | refine o_rev ?_ | refine o_max ?_ | refine o_min ?_ | refine o_lenCh ?_ | refine o_notInCh ?_ | refine o_listCh ?_ | refine o_inI ?_ | refine x_bl ?_ | refine x_int ?_ | refine x_str ?_ | refine x_sqL ?_ | refine x_sqT ?_ | refine x_sqS ?_ | refine x_isL ?_ | refine x_out ?_ | refine x_some ?_ | refine x_objL ?_ | refine x_objI ?_ | refine x_objD ?_ | refine x_cls ?_ | refine fl_nx ?_ | refine fl_ct ?_ | refine w_zip ?_ | refine w_zipT ?_ | refine w_sliceL ?_ | refine w_raise1 ?_ | refine w_tryF ?_ | refine o_and ?_ | refine o_shr ?_ | refine o_negI ?_ | refine o_listDT ?_ | refine w_enumT ?_ | refine w_sliceT ?_ | refine w_revT ?_ | refine w_eqO ?_ | refine w_callT ?_ | refine o_isB ?_ | refine o_notB ?_ | refine Np.o_sumE ?_ | refine Np.o_lenE ?_ | refine Np.x_sqP ?_ | refine Np.x_sqE ?_ | refine Np.o_ix0 ?_ | refine Np.o_ix1 ?_ | refine Np.o_ixKy ?_ | refine Np.o_ltKy ?_ | refine Np.o_sortM ?_ | refine ⟨_, _, rfl, ?_⟩ | refine x_r1 (by with_unfolding_all omega) ?_ | refine x_r2 (by with_unfolding_all omega) ?_ | refine w_var (by with_unfolding_all exact rfl) ?_ | refine x_env (by with_unfolding_all exact rfl) ?_ | refine x_lst (by with_unfolding_all exact rfl) ?_ | refine x_slot (by with_unfolding_all exact of_decide_eq_true rfl) ?_ | refine x_nm (by with_unfolding_all exact of_decide_eq_true rfl) ?_ | refine o_ixL (by with_unfolding_all exact rfl) ?_ | refine o_ixT (by with_unfolding_all exact rfl) ?_ | refine o_isiB (b := true) (by with_unfolding_all exact rfl) ?_ | refine o_isiB (b := false) (by with_unfolding_all exact rfl) ?_ | refine o_lenS' (by first | with_unfolding_all omega | assumption) ?_ | refine x_tp (by with_unfolding_all exact rfl) ?_ | refine x_rv (by first | with_unfolding_all omega | assumption) ?_ | refine o_isO (b := true) (by with_unfolding_all exact rfl) ?_ | refine o_isO (b := false) (by with_unfolding_all exact rfl) ?_ | refine x_fld (by with_unfolding_all exact rfl) (by with_unfolding_all exact rfl) ?_ | refine x_meth (by with_unfolding_all exact rfl) ⟨(by with_unfolding_all exact rfl), (by with_unfolding_all exact rfl)⟩ ?_ | refine o_pow (by with_unfolding_all decide) ?_ | refine o_mulR (by with_unfolding_all decide) ?_ | refine o_mulL (by with_unfolding_all decide) ?_ | refine o_mulL (by with_unfolding_all omega) ?_ | refine o_mod (by first | assumption | with_unfolding_all decide) ?_ | refine o_div (by first | assumption | with_unfolding_all decide) (by first | assumption | with_unfolding_all decide) ?_ | refine ⟨(by with_unfolding_all rfl), ?_⟩ | refine ⟨_, (by with_unfolding_all rfl), ?_⟩ | refine ⟨_, _, _, (by with_unfolding_all rfl), (by with_unfolding_all rfl), (by with_unfolding_all rfl), ?_⟩))
    by_cases ha : (if y < 0 then -y else y) < (10 : Int) ^ Int.toNat 18
    · rw [decide_eq_true ha]
      repeat (first | (with_reducible first | refine w_c ?_ | refine w_nil ?_ | refine w_nx ?_ | refine w_yes ?_ | refine w_pair ?_ | refine w_pairO ?_ | refine w_pairR ?_ | refine w_m2 ?_ | refine w_un ?_ | refine w_cons ?_ | refine w_own ?_ | refine w_io ?_ | refine w_arg ?_ | refine w_argI ?_ | refine w_seqI ?_ | refine w_tup ?_ | refine w_lst ?_ | refine w_and ?_ | refine w_or ?_ | refine w_notV ?_ | refine w_ite ?_ | refine w_test ?_ | refine w_not ?_ | refine w_tand ?_ | refine w_tor ?_ | refine w_chain ?_ | refine w_call0 ?_ | refine w_call1 ?_ | refine w_lstM ?_ | refine w_strM ?_ | refine w_slice ?_ | refine w_oN ?_ | refine w_oS ?_ | refine w_seq ?_ | refine w_if ?_ | refine w_ret ?_ | refine w_drop ?_ | refine w_set ?_ | refine w_setO ?_ | refine w_asg ?_ | refine w_gIx ?_ | refine w_for ?_ | refine w_fn ?_ | refine w_cutL ?_ | refine w_enumS ?_ | refine w_fld1 ?_ | refine w_fldS ?_ | refine w_make ?_ | refine w_meth ?_ | refine w_raise ?_ | refine w_try ?_ | refine w_tryC ?_ | refine w_joinRev ?_ | refine w_while ?_ | refine t_nx ?_ | refine t_ct ?_ | refine t_bk ?_ | refine t_rt ?_ | refine q_nx ?_ | refine q_rt ?_ | refine q_bk ?_ | refine q_ct ?_ | refine e_rt ?_ | refine e_nx ?_ | refine i_t ?_ | refine i_f ?_ | refine i_nt ?_ | refine i_nf ?_ | refine o_add ?_ | refine o_sub ?_ | refine o_lt ?_ | refine o_le ?_ | refine o_gt ?_ | refine o_ge ?_ | refine o_int ?_ | refine o_abs ?_ | refine o_lenL ?_ | refine o_lenT ?_ | refine o_inS ?_ | refine o_notInS ?_ | refine o_listL ?_ | refine o_listT ?_ | refine o_tupL ?_ | refine o_tupT ?_ | refine o_eqI ?_ | refine o_neI ?_ | refine o_isN ?_ | refine o_notN ?_ | refine o_rev ?_ | refine o_max ?_ | refine o_min ?_ | refine o_lenCh ?_ | refine o_notInCh ?_ | refine o_listCh ?_ | refine o_inI ?_ | refine x_bl ?_ | refine x_int ?_ | refine x_str ?_ | refine x_sqL ?_ | refine x_sqT ?_ | refine x_sqS ?_ | refine x_isL ?_ | refine x_out ?_ | refine x_some ?_ | refine x_objL ?_ | refine x_objI ?_ | refine x_objD ?_ | refine x_cls ?_ | refine fl_nx ?_ | refine fl_ct ?_ | refine w_zip ?_ | refine w_zipT ?_ | refine w_sliceL ?_ | refine w_raise1 ?_ | refine w_tryF ?_ | refine o_and ?_ | refine o_shr ?_ | refine o_negI ?_ | refine o_listDT ?_ | refine w_enumT ?_ | refine w_sliceT ?_ | refine w_revT ?_ | refine w_eqO ?_ | refine w_callT ?_ | refine o_isB ?_ | refine o_notB ?_ | refine Np.o_sumE ?_ | refine Np.o_lenE ?_ | refine Np.x_sqP ?_ | refine Np.x_sqE ?_ | refine Np.o_ix0 ?_ | refine Np.o_ix1 ?_ | refine Np.o_ixKy ?_ | refine Np.o_ltKy ?_ | refine Np.o_sortM ?_ | refine ⟨_, _, rfl, ?_⟩ | refine x_r1 (by with_unfolding_all omega) ?_ | refine x_r2 (by with_unfolding_all omega) ?_ | refine w_var (by with_unfolding_all exact rfl) ?_ | refine x_env (by with_unfolding_all exact rfl) ?_ | refine x_lst (by with_unfolding_all exact rfl) ?_ | refine x_slot (by with_unfolding_all exact of_decide_eq_true rfl) ?_ | refine x_nm (by with_unfolding_all exact of_decide_eq_true rfl) ?_ | refine o_ixL (by with_unfolding_all exact rfl) ?_ | refine o_ixT (by with_unfolding_all exact rfl) ?_ | refine o_isiB (b := true) (by with_unfolding_all exact rfl) ?_ | refine o_isiB (b := false) (by with_unfolding_all exact rfl) ?_ | refine o_lenS' (by first | with_unfolding_all omega | assumption) ?_ | refine x_tp (by with_unfolding_all exact rfl) ?_ | refine x_rv (by first | with_unfolding_all omega | assumption) ?_ | refine o_isO (b := true) (by with_unfolding_all exact rfl) ?_ | refine o_isO (b := false) (by with_unfolding_all exact rfl) ?_ | refine x_fld (by with_unfolding_all exact rfl) (by with_unfolding_all exact rfl) ?_ | refine x_meth (by with_unfolding_all exact rfl) ⟨(by with_unfolding_all exact rfl), (by with_unfolding_all exact rfl)⟩ ?_ | refine o_pow (by with_unfolding_all decide) ?_ | refine o_mulR (by with_unfolding_all decide) ?_ | refine o_mulL (by with_unfolding_all decide) ?_ | refine o_mulL (by with_unfolding_all omega) ?_ | refine o_mod (by first | assumption | with_unfolding_all decide) ?_ | refine o_div (by first | assumption | with_unfolding_all decide) (by first | assumption | with_unfolding_all decide) ?_ | refine ⟨(by with_unfolding_all rfl), ?_⟩ | refine ⟨_, (by with_unfolding_all rfl), ?_⟩ | refine ⟨_, _, _, (by with_unfolding_all rfl), (by with_unfolding_all rfl), (by with_unfolding_all rfl), ?_⟩))
      by_cases h5 : (5 : Int) ≤ d + 1
      · rw [decide_eq_true h5]
        repeat (first | (with_reducible first | refine w_c ?_ | refine w_nil ?_ | refine w_nx ?_ | refine w_yes ?_ | refine w_pair ?_ | refine w_pairO ?_ | refine w_pairR ?_ | refine w_m2 ?_ | refine w_un ?_ | refine w_cons ?_ | refine w_own ?_ | refine w_io ?_ | refine w_arg ?_ | refine w_argI ?_ | refine w_seqI ?_ | refine w_tup ?_ | refine w_lst ?_ | refine w_and ?_ | refine w_or ?_ | refine w_notV ?_ | refine w_ite ?_ | refine w_test ?_ | refine w_not ?_ | refine w_tand ?_ | refine w_tor ?_ | refine w_chain ?_ | refine w_call0 ?_ | refine w_call1 ?_ | refine w_lstM ?_ | refine w_strM ?_ | refine w_slice ?_ | refine w_oN ?_ | refine w_oS ?_ | refine w_seq ?_ | refine w_if ?_ | refine w_ret ?_ | refine w_drop ?_ | refine w_set ?_ | refine w_setO ?_ | refine w_asg ?_ | refine w_gIx ?_ | refine w_for ?_ | refine w_fn ?_ | refine w_cutL ?_ | refine w_enumS ?_ | refine w_fld1 ?_ | refine w_fldS ?_ | refine w_make ?_ | refine w_meth ?_ | refine w_raise ?_ | refine w_try ?_ | refine w_tryC ?_ | refine w_joinRev ?_ | refine w_while ?_ | refine t_nx ?_ | refine t_ct ?_ | refine t_bk ?_ | refine t_rt ?_ | refine q_nx ?_ | refine q_rt ?_ | refine q_bk ?_ | refine q_ct ?_ | refine e_rt ?_ | refine e_nx ?_ | refine i_t ?_ | refine i_f ?_ | refine i_nt ?_ | refine i_nf ?_ | refine o_add ?_ | refine o_sub ?_ | refine o_lt ?_ | refine o_le ?_ | refine o_gt ?_ | refine o_ge ?_ | refine o_int ?_ | refine o_abs ?_ | refine o_lenL ?_ | refine o_lenT ?_ | refine o_inS ?_ | refine o_notInS ?_ | refine o_listL ?_ | refine o_listT ?_ | refine o_tupL ?_ | refine o_tupT ?_ | refine o_eqI ?_ | refine o_neI ?_ | refine o_isN ?_ | refine o_notN ?_ | refine o_rev ?_ | refine o_max ?_ | refine o_min ?_ | refine o_lenCh ?_ | refine o_notInCh ?_ | refine o_listCh ?_ | refine o_inI ?_ | refine x_bl ?_ | refine x_int ?_ | refine x_str ?_ | refine x_sqL ?_ | refine x_sqT ?_ | refine x_sqS ?_ | refine x_isL ?_ | refine x_out ?_ | refine x_some ?_ | refine x_objL ?_ | refine x_objI ?_ | refine x_objD ?_ | refine x_cls ?_ | refine fl_nx ?_ | refine fl_ct ?_ | refine w_zip ?_ | refine w_zipT ?_ | refine w_sliceL ?_ | refine w_raise1 ?_ | refine w_tryF ?_ | refine o_and ?_ | refine o_shr ?_ | refine o_negI ?_ | refine o_listDT ?_ | refine w_enumT ?_ | refine w_sliceT ?_ | refine w_revT ?_ | refine w_eqO ?_ | refine w_callT ?_ | refine o_isB ?_ | refine o_notB ?_ | refine Np.o_sumE ?_ | refine Np.o_lenE ?_ | refine Np.x_sqP ?_ | refine Np.x_sqE ?_ | refine Np.o_ix0 ?_ | refine Np.o_ix1 ?_ | refine Np.o_ixKy ?_ | refine Np.o_ltKy ?_ | refine Np.o_sortM ?_ | refine ⟨_, _, rfl, ?_⟩ | refine x_r1 (by with_unfolding_all omega) ?_ | refine x_r2 (by with_unfolding_all omega) ?_ | refine w_var (by with_unfolding_all exact rfl) ?_ | refine x_env (by with_unfolding_all exact rfl) ?_ | refine x_lst (by with_unfolding_all exact rfl) ?_ | refine x_slot (by with_unfolding_all exact of_decide_eq_true rfl) ?_ | refine x_nm (by with_unfolding_all exact of_decide_eq_true rfl) ?_ | refine o_ixL (by with_unfolding_all exact rfl) ?_ | refine o_ixT (by with_unfolding_all exact rfl) ?_ | refine o_isiB (b := true) (by with_unfolding_all exact rfl) ?_ | refine o_isiB (b := false) (by with_unfolding_all exact rfl) ?_ | refine o_lenS' (by first | with_unfolding_all omega | assumption) ?_ | refine x_tp (by with_unfolding_all exact rfl) ?_ | refine x_rv (by first | with_unfolding_all omega | assumption) ?_ | refine o_isO (b := true) (by with_unfolding_all exact rfl) ?_ | refine o_isO (b := false) (by with_unfolding_all exact rfl) ?_ | refine x_fld (by with_unfolding_all exact rfl) (by with_unfolding_all exact rfl) ?_ | refine x_meth (by with_unfolding_all exact rfl) ⟨(by with_unfolding_all exact rfl), (by with_unfolding_all exact rfl)⟩ ?_ | refine o_pow (by with_unfolding_all decide) ?_ | refine o_mulR (by with_unfolding_all decide) ?_ | refine o_mulL (by with_unfolding_all decide) ?_ | refine o_mulL (by with_unfolding_all omega) ?_ | refine o_mod (by first | assumption | with_unfolding_all decide) ?_ | refine o_div (by first | assumption | with_unfolding_all decide) (by first | assumption | with_unfolding_all decide) ?_ | refine ⟨(by with_unfolding_all rfl), ?_⟩ | refine ⟨_, (by with_unfolding_all rfl), ?_⟩ | refine ⟨_, _, _, (by with_unfolding_all rfl), (by with_unfolding_all rfl), (by with_unfolding_all rfl), ?_⟩))
        refine wf_imp (mixed_ok y (k + 1) (by omega) (by omega)) ?_
        rintro d1 outs ⟨⟨m, rfl⟩, rfl⟩
        repeat (first | (with_reducible first | refine w_c ?_ | refine w_nil ?_ | refine w_nx ?_ | refine w_yes ?_ | refine w_pair ?_ | refine w_pairO ?_ | refine w_pairR ?_ | refine w_m2 ?_ | refine w_un ?_ | refine w_cons ?_ | refine w_own ?_ | refine w_io ?_ | refine w_arg ?_ | refine w_argI ?_ | refine w_seqI ?_ | refine w_tup ?_ | refine w_lst ?_ | refine w_and ?_ | refine w_or ?_ | refine w_notV ?_ | refine w_ite ?_ | refine w_test ?_ | refine w_not ?_ | refine w_tand ?_ | refine w_tor ?_ | refine w_chain ?_ | refine w_call0 ?_ | refine w_call1 ?_ | refine w_lstM ?_ | refine w_strM ?_ | refine w_slice ?_ | refine w_oN ?_ | refine w_oS ?_ | refine w_seq ?_ | refine w_if ?_ | refine w_ret ?_ | refine w_drop ?_ | refine w_set ?_ | refine w_setO ?_ | refine w_asg ?_ | refine w_gIx ?_ | refine w_for ?_ | refine w_fn ?_ | refine w_cutL ?_ | refine w_enumS ?_ | refine w_fld1 ?_ | refine w_fldS ?_ | refine w_make ?_ | refine w_meth ?_ | refine w_raise ?_ | refine w_try ?_ | refine w_tryC ?_ | refine w_joinRev ?_ | refine w_while ?_ | refine t_nx ?_ | refine t_ct ?_ | refine t_bk ?_ | refine t_rt ?_ | refine q_nx ?_ | refine q_rt ?_ | refine q_bk ?_ | refine q_ct ?_ | refine e_rt ?_ | refine e_nx ?_ | refine i_t ?_ | refine i_f ?_ | refine i_nt ?_ | refine i_nf ?_ | refine o_add ?_ | refine o_sub ?_ | refine o_lt ?_ | refine o_le ?_ | refine o_gt ?_ | refine o_ge ?_ | refine o_int ?_ | refine o_abs ?_ | refine o_lenL ?_ | refine o_lenT ?_ | refine o_inS ?_ | refine o_notInS ?_ | refine o_listL ?_ | refine o_listT ?_ | refine o_tupL ?_ | refine o_tupT ?_ | refine o_eqI ?_ | refine o_neI ?_ | refine o_isN ?_ | refine o_notN ?_ | refine o_rev ?_ | refine o_max ?_ | refine o_min ?_ | refine o_lenCh ?_ | refine o_notInCh ?_ | refine o_listCh ?_ | refine o_inI ?_ | refine x_bl ?_ | refine x_int ?_ | refine x_str ?_ | refine x_sqL ?_ | refine x_sqT ?_ | refine x_sqS ?_ | refine x_isL ?_ | refine x_out ?_ | refine x_some ?_ | refine x_objL ?_ | refine x_objI ?_ | refine x_objD ?_ | refine x_cls ?_ | refine fl_nx ?_ | refine fl_ct ?_ | refine w_zip ?_ | refine w_zipT ?_ | refine w_sliceL ?_ | refine w_raise1 ?_ | refine w_tryF ?_ | refine o_and ?_ | refine o_shr ?_ | refine o_negI ?_ | refine o_listDT ?_ | refine w_enumT ?_ | refine w_sliceT ?_ | refine w_revT ?_ | refine w_eqO ?_ | refine w_callT ?_ | refine o_isB ?_ | refine o_notB ?_ | refine Np.o_sumE ?_ | refine Np.o_lenE ?_ | refine Np.x_sqP ?_ | refine Np.x_sqE ?_ | refine Np.o_ix0 ?_ | refine Np.o_ix1 ?_ | refine Np.o_ixKy ?_ | refine Np.o_ltKy ?_ | refine Np.o_sortM ?_ | refine ⟨_, _, rfl, ?_⟩ | refine x_r1 (by with_unfolding_all omega) ?_ | refine x_r2 (by with_unfolding_all omega) ?_ | refine w_var (by with_unfolding_all exact rfl) ?_ | refine x_env (by with_unfolding_all exact rfl) ?_ | refine x_lst (by with_unfolding_all exact rfl) ?_ | refine x_slot (by with_unfolding_all exact of_decide_eq_true rfl) ?_ | refine x_nm (by with_unfolding_all exact of_decide_eq_true rfl) ?_ | refine o_ixL (by with_unfolding_all exact rfl) ?_ | refine o_ixT (by with_unfolding_all exact rfl) ?_ | refine o_isiB (b := true) (by with_unfolding_all exact rfl) ?_ | refine o_isiB (b := false) (by with_unfolding_all exact rfl) ?_ | refine o_lenS' (by first | with_unfolding_all omega | assumption) ?_ | refine x_tp (by with_unfolding_all exact rfl) ?_ | refine x_rv (by first | with_unfolding_all omega | assumption) ?_ | refine o_isO (b := true) (by with_unfolding_all exact rfl) ?_ | refine o_isO (b := false) (by with_unfolding_all exact rfl) ?_ | refine x_fld (by with_unfolding_all exact rfl) (by with_unfolding_all exact rfl) ?_ | refine x_meth (by with_unfolding_all exact rfl) ⟨(by with_unfolding_all exact rfl), (by with_unfolding_all exact rfl)⟩ ?_ | refine o_pow (by with_unfolding_all decide) ?_ | refine o_mulR (by with_unfolding_all decide) ?_ | refine o_mulL (by with_unfolding_all decide) ?_ | refine o_mulL (by with_unfolding_all omega) ?_ | refine o_mod (by first | assumption | with_unfolding_all decide) ?_ | refine o_div (by first | assumption | with_unfolding_all decide) (by first | assumption | with_unfolding_all decide) ?_ | refine ⟨(by with_unfolding_all rfl), ?_⟩ | refine ⟨_, (by with_unfolding_all rfl), ?_⟩ | refine ⟨_, _, _, (by with_unfolding_all rfl), (by with_unfolding_all rfl), (by with_unfolding_all rfl), ?_⟩))
        exact ⟨_, _, rfl, rfl, Int.emod_nonneg _ (by omega), Int.emod_lt_of_pos _ hm, cs, i + 1, 0, k + 1, s, r, rfl, by omega, by omega, by omega, hl⟩
      · rw [decide_eq_false h5]
        repeat (first | (with_reducible first | refine w_c ?_ | refine w_nil ?_ | refine w_nx ?_ | refine w_yes ?_ | refine w_pair ?_ | refine w_pairO ?_ | refine w_pairR ?_ | refine w_m2 ?_ | refine w_un ?_ | refine w_cons ?_ | refine w_own ?_ | refine w_io ?_ | refine w_arg ?_ | refine w_argI ?_ | refine w_seqI ?_ | refine w_tup ?_ | refine w_lst ?_ | refine w_and ?_ | refine w_or ?_ | refine w_notV ?_ | refine w_ite ?_ | refine w_test ?_ | refine w_not ?_ | refine w_tand ?_ | refine w_tor ?_ | refine w_chain ?_ | refine w_call0 ?_ | refine w_call1 ?_ | refine w_lstM ?_ | refine w_strM ?_ | refine w_slice ?_ | refine w_oN ?_ | refine w_oS ?_ | refine w_seq ?_ | refine w_if ?_ | refine w_ret ?_ | refine w_drop ?_ | refine w_set ?_ | refine w_setO ?_ | refine w_asg ?_ | refine w_gIx ?_ | refine w_for ?_ | refine w_fn ?_ | refine w_cutL ?_ | refine w_enumS ?_ | refine w_fld1 ?_ | refine w_fldS ?_ | refine w_make ?_ | refine w_meth ?_ | refine w_raise ?_ | refine w_try ?_ | refine w_tryC ?_ | refine w_joinRev ?_ | refine w_while ?_ | refine t_nx ?_ | refine t_ct ?_ | refine t_bk ?_ | refine t_rt ?_ | refine q_nx ?_ | refine q_rt ?_ | refine q_bk ?_ | refine q_ct ?_ | refine e_rt ?_ | refine e_nx ?_ | refine i_t ?_ | refine i_f ?_ | refine i_nt ?_ | refine i_nf ?_ | refine o_add ?_ | refine o_sub ?_ | refine o_lt ?_ | refine o_le ?_ | refine o_gt ?_ | refine o_ge ?_ | refine o_int ?_ | refine o_abs ?_ | refine o_lenL ?_ | refine o_lenT ?_ | refine o_inS ?_ | refine o_notInS ?_ | refine o_listL ?_ | refine o_listT ?_ | refine o_tupL ?_ | refine o_tupT ?_ | refine o_eqI ?_ | refine o_neI ?_ | refine o_isN ?_ | refine o_notN ?_ | refine o_rev ?_ | refine o_max ?_ | refine o_min ?_ | refine o_lenCh ?_ | refine o_notInCh ?_ | refine o_listCh ?_ | refine o_inI ?_ | refine x_bl ?_ | refine x_int ?_ | refine x_str ?_ | refine x_sqL ?_ | refine x_sqT ?_ | refine x_sqS ?_ | refine x_isL ?_ | refine x_out ?_ | refine x_some ?_ | refine x_objL ?_ | refine x_objI ?_ | refine x_objD ?_ | refine x_cls ?_ | refine fl_nx ?_ | refine fl_ct ?_ | refine w_zip ?_ | refine w_zipT ?_ | refine w_sliceL ?_ | refine w_raise1 ?_ | refine w_tryF ?_ | refine o_and ?_ | refine o_shr ?_ | refine o_negI ?_ | refine o_listDT ?_ | refine w_enumT ?_ | refine w_sliceT ?_ | refine w_revT ?_ | refine w_eqO ?_ | refine w_callT ?_ | refine o_isB ?_ | refine o_notB ?_ | refine Np.o_sumE ?_ | refine Np.o_lenE ?_ | refine Np.x_sqP ?_ | refine Np.x_sqE ?_ | refine Np.o_ix0 ?_ | refine Np.o_ix1 ?_ | refine Np.o_ixKy ?_ | refine Np.o_ltKy ?_ | refine Np.o_sortM ?_ | refine ⟨_, _, rfl, ?_⟩ | refine x_r1 (by with_unfolding_all omega) ?_ | refine x_r2 (by with_unfolding_all omega) ?_ | refine w_var (by with_unfolding_all exact rfl) ?_ | refine x_env (by with_unfolding_all exact rfl) ?_ | refine x_lst (by with_unfolding_all exact rfl) ?_ | refine x_slot (by with_unfolding_all exact of_decide_eq_true rfl) ?_ | refine x_nm (by with_unfolding_all exact of_decide_eq_true rfl) ?_ | refine o_ixL (by with_unfolding_all exact rfl) ?_ | refine o_ixT (by with_unfolding_all exact rfl) ?_ | refine o_isiB (b := true) (by with_unfolding_all exact rfl) ?_ | refine o_isiB (b := false) (by with_unfolding_all exact rfl) ?_ | refine o_lenS' (by first | with_unfolding_all omega | assumption) ?_ | refine x_tp (by with_unfolding_all exact rfl) ?_ | refine x_rv (by first | with_unfolding_all omega | assumption) ?_ | refine o_isO (b := true) (by with_unfolding_all exact rfl) ?_ | refine o_isO (b := false) (by with_unfolding_all exact rfl) ?_ | refine x_fld (by with_unfolding_all exact rfl) (by with_unfolding_all exact rfl) ?_ | refine x_meth (by with_unfolding_all exact rfl) ⟨(by with_unfolding_all exact rfl), (by with_unfolding_all exact rfl)⟩ ?_ | refine o_pow (by with_unfolding_all decide) ?_ | refine o_mulR (by with_unfolding_all decide) ?_ | refine o_mulL (by with_unfolding_all decide) ?_ | refine o_mulL (by with_unfolding_all omega) ?_ | refine o_mod (by first | assumption | with_unfolding_all decide) ?_ | refine o_div (by first | assumption | with_unfolding_all decide) (by first | assumption | with_unfolding_all decide) ?_ | refine ⟨(by with_unfolding_all rfl), ?_⟩ | refine ⟨_, (by with_unfolding_all rfl), ?_⟩ | refine ⟨_, _, _, (by with_unfolding_all rfl), (by with_unfolding_all rfl), (by with_unfolding_all rfl), ?_⟩))
        refine wf_imp (mixed_ok y (k + 1) (by omega) (by omega)) ?_
        rintro d1 outs ⟨⟨m, rfl⟩, rfl⟩
        repeat (first | (with_reducible first | refine w_c ?_ | refine w_nil ?_ | refine w_nx ?_ | refine w_yes ?_ | refine w_pair ?_ | refine w_pairO ?_ | refine w_pairR ?_ | refine w_m2 ?_ | refine w_un ?_ | refine w_cons ?_ | refine w_own ?_ | refine w_io ?_ | refine w_arg ?_ | refine w_argI ?_ | refine w_seqI ?_ | refine w_tup ?_ | refine w_lst ?_ | refine w_and ?_ | refine w_or ?_ | refine w_notV ?_ | refine w_ite ?_ | refine w_test ?_ | refine w_not ?_ | refine w_tand ?_ | refine w_tor ?_ | refine w_chain ?_ | refine w_call0 ?_ | refine w_call1 ?_ | refine w_lstM ?_ | refine w_strM ?_ | refine w_slice ?_ | refine w_oN ?_ | refine w_oS ?_ | refine w_seq ?_ | refine w_if ?_ | refine w_ret ?_ | refine w_drop ?_ | refine w_set ?_ | refine w_setO ?_ | refine w_asg ?_ | refine w_gIx ?_ | refine w_for ?_ | refine w_fn ?_ | refine w_cutL ?_ | refine w_enumS ?_ | refine w_fld1 ?_ | refine w_fldS ?_ | refine w_make ?_ | refine w_meth ?_ | refine w_raise ?_ | refine w_try ?_ | refine w_tryC ?_ | refine w_joinRev ?_ | refine w_while ?_ | refine t_nx ?_ | refine t_ct ?_ | refine t_bk ?_ | refine t_rt ?_ | refine q_nx ?_ | refine q_rt ?_ | refine q_bk ?_ | refine q_ct ?_ | refine e_rt ?_ | refine e_nx ?_ | refine i_t ?_ | refine i_f ?_ | refine i_nt ?_ | refine i_nf ?_ | refine o_add ?_ | refine o_sub ?_ | refine o_lt ?_ | refine o_le ?_ | refine o_gt ?_ | refine o_ge ?_ | refine o_int ?_ | refine o_abs ?_ | refine o_lenL ?_ | refine o_lenT ?_ | refine o_inS ?_ | refine o_notInS ?_ | refine o_listL ?_ | refine o_listT ?_ | refine o_tupL ?_ | refine o_tupT ?_ | refine o_eqI ?_ | refine o_neI ?_ | refine o_isN ?_ | refine o_notN ?_ | refine o_rev ?_ | refine o_max ?_ | refine o_min ?_ | refine o_lenCh ?_ | refine o_notInCh ?_ | refine o_listCh ?_ | refine o_inI ?_ | refine x_bl ?_ | refine x_int ?_ | refine x_str ?_ | refine x_sqL ?_ | refine x_sqT ?_ | refine x_sqS ?_ | refine x_isL ?_ | refine x_out ?_ | refine x_some ?_ | refine x_objL ?_ | refine x_objI ?_ | refine x_objD ?_ | refine x_cls ?_ | refine fl_nx ?_ | refine fl_ct ?_ | refine w_zip ?_ | refine w_zipT ?_ | refine w_sliceL ?_ | refine w_raise1 ?_ | refine w_tryF ?_ | refine o_and ?_ | refine o_shr ?_ | refine o_negI ?_ | refine o_listDT ?_ | refine w_enumT ?_ | refine w_sliceT ?_ | refine w_revT ?_ | refine w_eqO ?_ | refine w_callT ?_ | refine o_isB ?_ | refine o_notB ?_ | refine Np.o_sumE ?_ | refine Np.o_lenE ?_ | refine Np.x_sqP ?_ | refine Np.x_sqE ?_ | refine Np.o_ix0 ?_ | refine Np.o_ix1 ?_ | refine Np.o_ixKy ?_ | refine Np.o_ltKy ?_ | refine Np.o_sortM ?_ | refine ⟨_, _, rfl, ?_⟩ | refine x_r1 (by with_unfolding_all omega) ?_ | refine x_r2 (by with_unfolding_all omega) ?_ | refine w_var (by with_unfolding_all exact rfl) ?_ | refine x_env (by with_unfolding_all exact rfl) ?_ | refine x_lst (by with_unfolding_all exact rfl) ?_ | refine x_slot (by with_unfolding_all exact of_decide_eq_true rfl) ?_ | refine x_nm (by with_unfolding_all exact of_decide_eq_true rfl) ?_ | refine o_ixL (by with_unfolding_all exact rfl) ?_ | refine o_ixT (by with_unfolding_all exact rfl) ?_ | refine o_isiB (b := true) (by with_unfolding_all exact rfl) ?_ | refine o_isiB (b := false) (by with_unfolding_all exact rfl) ?_ | refine o_lenS' (by first | with_unfolding_all omega | assumption) ?_ | refine x_tp (by with_unfolding_all exact rfl) ?_ | refine x_rv (by first | with_unfolding_all omega | assumption) ?_ | refine o_isO (b := true) (by with_unfolding_all exact rfl) ?_ | refine o_isO (b := false) (by with_unfolding_all exact rfl) ?_ | refine x_fld (by with_unfolding_all exact rfl) (by with_unfolding_all exact rfl) ?_ | refine x_meth (by with_unfolding_all exact rfl) ⟨(by with_unfolding_all exact rfl), (by with_unfolding_all exact rfl)⟩ ?_ | refine o_pow (by with_unfolding_all decide) ?_ | refine o_mulR (by with_unfolding_all decide) ?_ | refine o_mulL (by with_unfolding_all decide) ?_ | refine o_mulL (by with_unfolding_all omega) ?_ | refine o_mod (by first | assumption | with_unfolding_all decide) ?_ | refine o_div (by first | assumption | with_unfolding_all decide) (by first | assumption | with_unfolding_all decide) ?_ | refine ⟨(by with_unfolding_all rfl), ?_⟩ | refine ⟨_, (by with_unfolding_all rfl), ?_⟩ | refine ⟨_, _, _, (by with_unfolding_all rfl), (by with_unfolding_all rfl), (by with_unfolding_all rfl), ?_⟩))
        exact ⟨_, _, rfl, rfl, Int.emod_nonneg _ (by omega), Int.emod_lt_of_pos _ hm, cs, i, d + 1, k + 1, s, r, rfl, by omega, by omega, by omega, hl⟩
    · rw [decide_eq_false ha]
      repeat (first | (with_reducible first | refine w_c ?_ | refine w_nil ?_ | refine w_nx ?_ | refine w_yes ?_ | refine w_pair ?_ | refine w_pairO ?_ | refine w_pairR ?_ | refine w_m2 ?_ | refine w_un ?_ | refine w_cons ?_ | refine w_own ?_ | refine w_io ?_ | refine w_arg ?_ | refine w_argI ?_ | refine w_seqI ?_ | refine w_tup ?_ | refine w_lst ?_ | refine w_and ?_ | refine w_or ?_ | refine w_notV ?_ | refine w_ite ?_ | refine w_test ?_ | refine w_not ?_ | refine w_tand ?_ | refine w_tor ?_ | refine w_chain ?_ | refine w_call0 ?_ | refine w_call1 ?_ | refine w_lstM ?_ | refine w_strM ?_ | refine w_slice ?_ | refine w_oN ?_ | refine w_oS ?_ | refine w_seq ?_ | refine w_if ?_ | refine w_ret ?_ | refine w_drop ?_ | refine w_set ?_ | refine w_setO ?_ | refine w_asg ?_ | refine w_gIx ?_ | refine w_for ?_ | refine w_fn ?_ | refine w_cutL ?_ | refine w_enumS ?_ | refine w_fld1 ?_ | refine w_fldS ?_ | refine w_make ?_ | refine w_meth ?_ | refine w_raise ?_ | refine w_try ?_ | refine w_tryC ?_ | refine w_joinRev ?_ | refine w_while ?_ | refine t_nx ?_ | refine t_ct ?_ | refine t_bk ?_ | refine t_rt ?_ | refine q_nx ?_ | refine q_rt ?_ | refine q_bk ?_ | refine q_ct ?_ | refine e_rt ?_ | refine e_nx ?_ | refine i_t ?_ | refine i_f ?_ | refine i_nt ?_ | refine i_nf ?_ | refine o_add ?_ | refine o_sub ?_ | refine o_lt ?_ | refine o_le ?_ | refine o_gt ?_ | refine o_ge ?_ | refine o_int ?_ | refine o_abs ?_ | refine o_lenL ?_ | refine o_lenT ?_ | refine o_inS ?_ | refine o_notInS ?_ | refine o_listL ?_ | refine o_listT ?_ | refine o_tupL ?_ | refine o_tupT ?_ | refine o_eqI ?_ | refine o_neI ?_ | refine o_isN ?_ | refine o_notN ?_ | refine o_rev ?_ | refine o_max ?_ | refine o_min ?_ | refine o_lenCh ?_ | refine o_notInCh ?_ | refine o_listCh ?_ | refine o_inI ?_ | refine x_bl ?_ | refine x_int ?_ | refine x_str ?_ | refine x_sqL ?_ | refine x_sqT ?_ | refine x_sqS ?_ | refine x_isL ?_ | refine x_out ?_ | refine x_some ?_ | refine x_objL ?_ | refine x_objI ?_ | refine x_objD ?_ | refine x_cls ?_ | refine fl_nx ?_ | refine fl_ct ?_ | refine w_zip ?_ | refine w_zipT ?_ | refine w_sliceL ?_ | refine w_raise1 ?_ | refine w_tryF ?_ | refine o_and ?_ | refine o_shr ?_ | refine o_negI ?_ | refine o_listDT ?_ | refine w_enumT ?_ | refine w_sliceT ?_ | refine w_revT ?_ | refine w_eqO ?_ | refine w_callT ?_ | refine o_isB ?_ | refine o_notB ?_ | refine Np.o_sumE ?_ | refine Np.o_lenE ?_ | refine Np.x_sqP ?_ | refine Np.x_sqE ?_ | refine Np.o_ix0 ?_ | refine Np.o_ix1 ?_ | refine Np.o_ixKy ?_ | refine Np.o_ltKy ?_ | refine Np.o_sortM ?_ | refine ⟨_, _, rfl, ?_⟩ | refine x_r1 (by with_unfolding_all omega) ?_ | refine x_r2 (by with_unfolding_all omega) ?_ | refine w_var (by with_unfolding_all exact rfl) ?_ | refine x_env (by with_unfolding_all exact rfl) ?_ | refine x_lst (by with_unfolding_all exact rfl) ?_ | refine x_slot (by with_unfolding_all exact of_decide_eq_true rfl) ?_ | refine x_nm (by with_unfolding_all exact of_decide_eq_true rfl) ?_ | refine o_ixL (by with_unfolding_all exact rfl) ?_ | refine o_ixT (by with_unfolding_all exact rfl) ?_ | refine o_isiB (b := true) (by with_unfolding_all exact rfl) ?_ | refine o_isiB (b := false) (by with_unfolding_all exact rfl) ?_ | refine o_lenS' (by first | with_unfolding_all omega | assumption) ?_ | refine x_tp (by with_unfolding_all exact rfl) ?_ | refine x_rv (by first | with_unfolding_all omega | assumption) ?_ | refine o_isO (b := true) (by with_unfolding_all exact rfl) ?_ | refine o_isO (b := false) (by with_unfolding_all exact rfl) ?_ | refine x_fld (by with_unfolding_all exact rfl) (by with_unfolding_all exact rfl) ?_ | refine x_meth (by with_unfolding_all exact rfl) ⟨(by with_unfolding_all exact rfl), (by with_unfolding_all exact rfl)⟩ ?_ | refine o_pow (by with_unfolding_all decide) ?_ | refine o_mulR (by with_unfolding_all decide) ?_ | refine o_mulL (by with_unfolding_all decide) ?_ | refine o_mulL (by with_unfolding_all omega) ?_ | refine o_mod (by first | assumption | with_unfolding_all decide) ?_ | refine o_div (by first | assumption | with_unfolding_all decide) (by first | assumption | with_unfolding_all decide) ?_ | refine ⟨(by with_unfolding_all rfl), ?_⟩ | refine ⟨_, (by with_unfolding_all rfl), ?_⟩ | refine ⟨_, _, _, (by with_unfolding_all rfl), (by with_unfolding_all rfl), (by with_unfolding_all rfl), ?_⟩))
      by_cases hd0 : d = 0
      · rw [decide_eq_true hd0]
        repeat (first | (with_reducible first | refine w_c ?_ | refine w_nil ?_ | refine w_nx ?_ | refine w_yes ?_ | refine w_pair ?_ | refine w_pairO ?_ | refine w_pairR ?_ | refine w_m2 ?_ | refine w_un ?_ | refine w_cons ?_ | refine w_own ?_ | refine w_io ?_ | refine w_arg ?_ | refine w_argI ?_ | refine w_seqI ?_ | refine w_tup ?_ | refine w_lst ?_ | refine w_and ?_ | refine w_or ?_ | refine w_notV ?_ | refine w_ite ?_ | refine w_test ?_ | refine w_not ?_ | refine w_tand ?_ | refine w_tor ?_ | refine w_chain ?_ | refine w_call0 ?_ | refine w_call1 ?_ | refine w_lstM ?_ | refine w_strM ?_ | refine w_slice ?_ | refine w_oN ?_ | refine w_oS ?_ | refine w_seq ?_ | refine w_if ?_ | refine w_ret ?_ | refine w_drop ?_ | refine w_set ?_ | refine w_setO ?_ | refine w_asg ?_ | refine w_gIx ?_ | refine w_for ?_ | refine w_fn ?_ | refine w_cutL ?_ | refine w_enumS ?_ | refine w_fld1 ?_ | refine w_fldS ?_ | refine w_make ?_ | refine w_meth ?_ | refine w_raise ?_ | refine w_try ?_ | refine w_tryC ?_ | refine w_joinRev ?_ | refine w_while ?_ | refine t_nx ?_ | refine t_ct ?_ | refine t_bk ?_ | refine t_rt ?_ | refine q_nx ?_ | refine q_rt ?_ | refine q_bk ?_ | refine q_ct ?_ | refine e_rt ?_ | refine e_nx ?_ | refine i_t ?_ | refine i_f ?_ | refine i_nt ?_ | refine i_nf ?_ | refine o_add ?_ | refine o_sub ?_ | refine o_lt ?_ | refine o_le ?_ | refine o_gt ?_ | refine o_ge ?_ | refine o_int ?_ | refine o_abs ?_ | refine o_lenL ?_ | refine o_lenT ?_ | refine o_inS ?_ | refine o_notInS ?_ | refine o_listL ?_ | refine o_listT ?_ | refine o_tupL ?_ | refine o_tupT ?_ | refine o_eqI ?_ | refine o_neI ?_ | refine o_isN ?_ | refine o_notN ?_ | refine o_rev ?_ | refine o_max ?_ | refine o_min ?_ | refine o_lenCh ?_ | refine o_notInCh ?_ | refine o_listCh ?_ | refine o_inI ?_ | refine x_bl ?_ | refine x_int ?_ | refine x_str ?_ | refine x_sqL ?_ | refine x_sqT ?_ | refine x_sqS ?_ | refine x_isL ?_ | refine x_out ?_ | refine x_some ?_ | refine x_objL ?_ | refine x_objI ?_ | refine x_objD ?_ | refine x_cls ?_ | refine fl_nx ?_ | refine fl_ct ?_ | refine w_zip ?_ | refine w_zipT ?_ | refine w_sliceL ?_ | refine w_raise1 ?_ | refine w_tryF ?_ | refine o_and ?_ | refine o_shr ?_ | refine o_negI ?_ | refine o_listDT ?_ | refine w_enumT ?_ | refine w_sliceT ?_ | refine w_revT ?_ | refine w_eqO ?_ | refine w_callT ?_ | refine o_isB ?_ | refine o_notB ?_ | refine Np.o_sumE ?_ | refine Np.o_lenE ?_ | refine Np.x_sqP ?_ | refine Np.x_sqE ?_ | refine Np.o_ix0 ?_ | refine Np.o_ix1 ?_ | refine Np.o_ixKy ?_ | refine Np.o_ltKy ?_ | refine Np.o_sortM ?_ | refine ⟨_, _, rfl, ?_⟩ | refine x_r1 (by with_unfolding_all omega) ?_ | refine x_r2 (by with_unfolding_all omega) ?_ | refine w_var (by with_unfolding_all exact rfl) ?_ | refine x_env (by with_unfolding_all exact rfl) ?_ | refine x_lst (by with_unfolding_all exact rfl) ?_ | refine x_slot (by with_unfolding_all exact of_decide_eq_true rfl) ?_ | refine x_nm (by with_unfolding_all exact of_decide_eq_true rfl) ?_ | refine o_ixL (by with_unfolding_all exact rfl) ?_ | refine o_ixT (by with_unfolding_all exact rfl) ?_ | refine o_isiB (b := true) (by with_unfolding_all exact rfl) ?_ | refine o_isiB (b := false) (by with_unfolding_all exact rfl) ?_ | refine o_lenS' (by first | with_unfolding_all omega | assumption) ?_ | refine x_tp (by with_unfolding_all exact rfl) ?_ | refine x_rv (by first | with_unfolding_all omega | assumption) ?_ | refine o_isO (b := true) (by with_unfolding_all exact rfl) ?_ | refine o_isO (b := false) (by with_unfolding_all exact rfl) ?_ | refine x_fld (by with_unfolding_all exact rfl) (by with_unfolding_all exact rfl) ?_ | refine x_meth (by with_unfolding_all exact rfl) ⟨(by with_unfolding_all exact rfl), (by with_unfolding_all exact rfl)⟩ ?_ | refine o_pow (by with_unfolding_all decide) ?_ | refine o_mulR (by with_unfolding_all decide) ?_ | refine o_mulL (by with_unfolding_all decide) ?_ | refine o_mulL (by with_unfolding_all omega) ?_ | refine o_mod (by first | assumption | with_unfolding_all decide) ?_ | refine o_div (by first | assumption | with_unfolding_all decide) (by first | assumption | with_unfolding_all decide) ?_ | refine ⟨(by with_unfolding_all rfl), ?_⟩ | refine ⟨_, (by with_unfolding_all rfl), ?_⟩ | refine ⟨_, _, _, (by with_unfolding_all rfl), (by with_unfolding_all rfl), (by with_unfolding_all rfl), ?_⟩))
        by_cases hq : (if y < 0 then -y else y) / many = 0
        · rw [decide_eq_true hq]
          repeat (first | (with_reducible first | refine w_c ?_ | refine w_nil ?_ | refine w_nx ?_ | refine w_yes ?_ | refine w_pair ?_ | refine w_pairO ?_ | refine w_pairR ?_ | refine w_m2 ?_ | refine w_un ?_ | refine w_cons ?_ | refine w_own ?_ | refine w_io ?_ | refine w_arg ?_ | refine w_argI ?_ | refine w_seqI ?_ | refine w_tup ?_ | refine w_lst ?_ | refine w_and ?_ | refine w_or ?_ | refine w_notV ?_ | refine w_ite ?_ | refine w_test ?_ | refine w_not ?_ | refine w_tand ?_ | refine w_tor ?_ | refine w_chain ?_ | refine w_call0 ?_ | refine w_call1 ?_ | refine w_lstM ?_ | refine w_strM ?_ | refine w_slice ?_ | refine w_oN ?_ | refine w_oS ?_ | refine w_seq ?_ | refine w_if ?_ | refine w_ret ?_ | refine w_drop ?_ | refine w_set ?_ | refine w_setO ?_ | refine w_asg ?_ | refine w_gIx ?_ | refine w_for ?_ | refine w_fn ?_ | refine w_cutL ?_ | refine w_enumS ?_ | refine w_fld1 ?_ | refine w_fldS ?_ | refine w_make ?_ | refine w_meth ?_ | refine w_raise ?_ | refine w_try ?_ | refine w_tryC ?_ | refine w_joinRev ?_ | refine w_while ?_ | refine t_nx ?_ | refine t_ct ?_ | refine t_bk ?_ | refine t_rt ?_ | refine q_nx ?_ | refine q_rt ?_ | refine q_bk ?_ | refine q_ct ?_ | refine e_rt ?_ | refine e_nx ?_ | refine i_t ?_ | refine i_f ?_ | refine i_nt ?_ | refine i_nf ?_ | refine o_add ?_ | refine o_sub ?_ | refine o_lt ?_ | refine o_le ?_ | refine o_gt ?_ | refine o_ge ?_ | refine o_int ?_ | refine o_abs ?_ | refine o_lenL ?_ | refine o_lenT ?_ | refine o_inS ?_ | refine o_notInS ?_ | refine o_listL ?_ | refine o_listT ?_ | refine o_tupL ?_ | refine o_tupT ?_ | refine o_eqI ?_ | refine o_neI ?_ | refine o_isN ?_ | refine o_notN ?_ | refine o_rev ?_ | refine o_max ?_ | refine o_min ?_ | refine o_lenCh ?_ | refine o_notInCh ?_ | refine o_listCh ?_ | refine o_inI ?_ | refine x_bl ?_ | refine x_int ?_ | refine x_str ?_ | refine x_sqL ?_ | refine x_sqT ?_ | refine x_sqS ?_ | refine x_isL ?_ | refine x_out ?_ | refine x_some ?_ | refine x_objL ?_ | refine x_objI ?_ | refine x_objD ?_ | refine x_cls ?_ | refine fl_nx ?_ | refine fl_ct ?_ | refine w_zip ?_ | refine w_zipT ?_ | refine w_sliceL ?_ | refine w_raise1 ?_ | refine w_tryF ?_ | refine o_and ?_ | refine o_shr ?_ | refine o_negI ?_ | refine o_listDT ?_ | refine w_enumT ?_ | refine w_sliceT ?_ | refine w_revT ?_ | refine w_eqO ?_ | refine w_callT ?_ | refine o_isB ?_ | refine o_notB ?_ | refine Np.o_sumE ?_ | refine Np.o_lenE ?_ | refine Np.x_sqP ?_ | refine Np.x_sqE ?_ | refine Np.o_ix0 ?_ | refine Np.o_ix1 ?_ | refine Np.o_ixKy ?_ | refine Np.o_ltKy ?_ | refine Np.o_sortM ?_ | refine ⟨_, _, rfl, ?_⟩ | refine x_r1 (by with_unfolding_all omega) ?_ | refine x_r2 (by with_unfolding_all omega) ?_ | refine w_var (by with_unfolding_all exact rfl) ?_ | refine x_env (by with_unfolding_all exact rfl) ?_ | refine x_lst (by with_unfolding_all exact rfl) ?_ | refine x_slot (by with_unfolding_all exact of_decide_eq_true rfl) ?_ | refine x_nm (by with_unfolding_all exact of_decide_eq_true rfl) ?_ | refine o_ixL (by with_unfolding_all exact rfl) ?_ | refine o_ixT (by with_unfolding_all exact rfl) ?_ | refine o_isiB (b := true) (by with_unfolding_all exact rfl) ?_ | refine o_isiB (b := false) (by with_unfolding_all exact rfl) ?_ | refine o_lenS' (by first | with_unfolding_all omega | assumption) ?_ | refine x_tp (by with_unfolding_all exact rfl) ?_ | refine x_rv (by first | with_unfolding_all omega | assumption) ?_ | refine o_isO (b := true) (by with_unfolding_all exact rfl) ?_ | refine o_isO (b := false) (by with_unfolding_all exact rfl) ?_ | refine x_fld (by with_unfolding_all exact rfl) (by with_unfolding_all exact rfl) ?_ | refine x_meth (by with_unfolding_all exact rfl) ⟨(by with_unfolding_all exact rfl), (by with_unfolding_all exact rfl)⟩ ?_ | refine o_pow (by with_unfolding_all decide) ?_ | refine o_mulR (by with_unfolding_all decide) ?_ | refine o_mulL (by with_unfolding_all decide) ?_ | refine o_mulL (by with_unfolding_all omega) ?_ | refine o_mod (by first | assumption | with_unfolding_all decide) ?_ | refine o_div (by first | assumption | with_unfolding_all decide) (by first | assumption | with_unfolding_all decide) ?_ | refine ⟨(by with_unfolding_all rfl), ?_⟩ | refine ⟨_, (by with_unfolding_all rfl), ?_⟩ | refine ⟨_, _, _, (by with_unfolding_all rfl), (by with_unfolding_all rfl), (by with_unfolding_all rfl), ?_⟩))
          exact ⟨_, _, rfl, rfl, Int.emod_nonneg _ (by omega), Int.emod_lt_of_pos _ hm, cs, i + 1, 0, k + 1, s, (if y < 0 then -y else y) / many, rfl, by omega, by omega, by omega, hl⟩
        · rw [decide_eq_false hq]
          repeat (first | (with_reducible first | refine w_c ?_ | refine w_nil ?_ | refine w_nx ?_ | refine w_yes ?_ | refine w_pair ?_ | refine w_pairO ?_ | refine w_pairR ?_ | refine w_m2 ?_ | refine w_un ?_ | refine w_cons ?_ | refine w_own ?_ | refine w_io ?_ | refine w_arg ?_ | refine w_argI ?_ | refine w_seqI ?_ | refine w_tup ?_ | refine w_lst ?_ | refine w_and ?_ | refine w_or ?_ | refine w_notV ?_ | refine w_ite ?_ | refine w_test ?_ | refine w_not ?_ | refine w_tand ?_ | refine w_tor ?_ | refine w_chain ?_ | refine w_call0 ?_ | refine w_call1 ?_ | refine w_lstM ?_ | refine w_strM ?_ | refine w_slice ?_ | refine w_oN ?_ | refine w_oS ?_ | refine w_seq ?_ | refine w_if ?_ | refine w_ret ?_ | refine w_drop ?_ | refine w_set ?_ | refine w_setO ?_ | refine w_asg ?_ | refine w_gIx ?_ | refine w_for ?_ | refine w_fn ?_ | refine w_cutL ?_ | refine w_enumS ?_ | refine w_fld1 ?_ | refine w_fldS ?_ | refine w_make ?_ | refine w_meth ?_ | refine w_raise ?_ | refine w_try ?_ | refine w_tryC ?_ | refine w_joinRev ?_ | refine w_while ?_ | refine t_nx ?_ | refine t_ct ?_ | refine t_bk ?_ | refine t_rt ?_ | refine q_nx ?_ | refine q_rt ?_ | refine q_bk ?_ | refine q_ct ?_ | refine e_rt ?_ | refine e_nx ?_ | refine i_t ?_ | refine i_f ?_ | refine i_nt ?_ | refine i_nf ?_ | refine o_add ?_ | refine o_sub ?_ | refine o_lt ?_ | refine o_le ?_ | refine o_gt ?_ | refine o_ge ?_ | refine o_int ?_ | refine o_abs ?_ | refine o_lenL ?_ | refine o_lenT ?_ | refine o_inS ?_ | refine o_notInS ?_ | refine o_listL ?_ | refine o_listT ?_ | refine o_tupL ?_ | refine o_tupT ?_ | refine o_eqI ?_ | refine o_neI ?_ | refine o_isN ?_ | refine o_notN ?_ | refine o_rev ?_ | refine o_max ?_ | refine o_min ?_ | refine o_lenCh ?_ | refine o_notInCh ?_ | refine o_listCh ?_ | refine o_inI ?_ | refine x_bl ?_ | refine x_int ?_ | refine x_str ?_ | refine x_sqL ?_ | refine x_sqT ?_ | refine x_sqS ?_ | refine x_isL ?_ | refine x_out ?_ | refine x_some ?_ | refine x_objL ?_ | refine x_objI ?_ | refine x_objD ?_ | refine x_cls ?_ | refine fl_nx ?_ | refine fl_ct ?_ | refine w_zip ?_ | refine w_zipT ?_ | refine w_sliceL ?_ | refine w_raise1 ?_ | refine w_tryF ?_ | refine o_and ?_ | refine o_shr ?_ | refine o_negI ?_ | refine o_listDT ?_ | refine w_enumT ?_ | refine w_sliceT ?_ | refine w_revT ?_ | refine w_eqO ?_ | refine w_callT ?_ | refine o_isB ?_ | refine o_notB ?_ | refine Np.o_sumE ?_ | refine Np.o_lenE ?_ | refine Np.x_sqP ?_ | refine Np.x_sqE ?_ | refine Np.o_ix0 ?_ | refine Np.o_ix1 ?_ | refine Np.o_ixKy ?_ | refine Np.o_ltKy ?_ | refine Np.o_sortM ?_ | refine ⟨_, _, rfl, ?_⟩ | refine x_r1 (by with_unfolding_all omega) ?_ | refine x_r2 (by with_unfolding_all omega) ?_ | refine w_var (by with_unfolding_all exact rfl) ?_ | refine x_env (by with_unfolding_all exact rfl) ?_ | refine x_lst (by with_unfolding_all exact rfl) ?_ | refine x_slot (by with_unfolding_all exact of_decide_eq_true rfl) ?_ | refine x_nm (by with_unfolding_all exact of_decide_eq_true rfl) ?_ | refine o_ixL (by with_unfolding_all exact rfl) ?_ | refine o_ixT (by with_unfolding_all exact rfl) ?_ | refine o_isiB (b := true) (by with_unfolding_all exact rfl) ?_ | refine o_isiB (b := false) (by with_unfolding_all exact rfl) ?_ | refine o_lenS' (by first | with_unfolding_all omega | assumption) ?_ | refine x_tp (by with_unfolding_all exact rfl) ?_ | refine x_rv (by first | with_unfolding_all omega | assumption) ?_ | refine o_isO (b := true) (by with_unfolding_all exact rfl) ?_ | refine o_isO (b := false) (by with_unfolding_all exact rfl) ?_ | refine x_fld (by with_unfolding_all exact rfl) (by with_unfolding_all exact rfl) ?_ | refine x_meth (by with_unfolding_all exact rfl) ⟨(by with_unfolding_all exact rfl), (by with_unfolding_all exact rfl)⟩ ?_ | refine o_pow (by with_unfolding_all decide) ?_ | refine o_mulR (by with_unfolding_all decide) ?_ | refine o_mulL (by with_unfolding_all decide) ?_ | refine o_mulL (by with_unfolding_all omega) ?_ | refine o_mod (by first | assumption | with_unfolding_all decide) ?_ | refine o_div (by first | assumption | with_unfolding_all decide) (by first | assumption | with_unfolding_all decide) ?_ | refine ⟨(by with_unfolding_all rfl), ?_⟩ | refine ⟨_, (by with_unfolding_all rfl), ?_⟩ | refine ⟨_, _, _, (by with_unfolding_all rfl), (by with_unfolding_all rfl), (by with_unfolding_all rfl), ?_⟩))
          exact ⟨_, _, rfl, rfl, Int.emod_nonneg _ (by omega), Int.emod_lt_of_pos _ hm, cs, i, 1, k + 1, s, (if y < 0 then -y else y) / many, rfl, by omega, by omega, by omega, hl⟩
      · rw [decide_eq_false hd0]
        repeat (first | (with_reducible first | refine w_c ?_ | refine w_nil ?_ | refine w_nx ?_ | refine w_yes ?_ | refine w_pair ?_ | refine w_pairO ?_ | refine w_pairR ?_ | refine w_m2 ?_ | refine w_un ?_ | refine w_cons ?_ | refine w_own ?_ | refine w_io ?_ | refine w_arg ?_ | refine w_argI ?_ | refine w_seqI ?_ | refine w_tup ?_ | refine w_lst ?_ | refine w_and ?_ | refine w_or ?_ | refine w_notV ?_ | refine w_ite ?_ | refine w_test ?_ | refine w_not ?_ | refine w_tand ?_ | refine w_tor ?_ | refine w_chain ?_ | refine w_call0 ?_ | refine w_call1 ?_ | refine w_lstM ?_ | refine w_strM ?_ | refine w_slice ?_ | refine w_oN ?_ | refine w_oS ?_ | refine w_seq ?_ | refine w_if ?_ | refine w_ret ?_ | refine w_drop ?_ | refine w_set ?_ | refine w_setO ?_ | refine w_asg ?_ | refine w_gIx ?_ | refine w_for ?_ | refine w_fn ?_ | refine w_cutL ?_ | refine w_enumS ?_ | refine w_fld1 ?_ | refine w_fldS ?_ | refine w_make ?_ | refine w_meth ?_ | refine w_raise ?_ | refine w_try ?_ | refine w_tryC ?_ | refine w_joinRev ?_ | refine w_while ?_ | refine t_nx ?_ | refine t_ct ?_ | refine t_bk ?_ | refine t_rt ?_ | refine q_nx ?_ | refine q_rt ?_ | refine q_bk ?_ | refine q_ct ?_ | refine e_rt ?_ | refine e_nx ?_ | refine i_t ?_ | refine i_f ?_ | refine i_nt ?_ | refine i_nf ?_ | refine o_add ?_ | refine o_sub ?_ | refine o_lt ?_ | refine o_le ?_ | refine o_gt ?_ | refine o_ge ?_ | refine o_int ?_ | refine o_abs ?_ | refine o_lenL ?_ | refine o_lenT ?_ | refine o_inS ?_ | refine o_notInS ?_ | refine o_listL ?_ | refine o_listT ?_ | refine o_tupL ?_ | refine o_tupT ?_ | refine o_eqI ?_ | refine o_neI ?_ | refine o_isN ?_ | refine o_notN ?_ | refine o_rev ?_ | refine o_max ?_ | refine o_min ?_ | refine o_lenCh ?_ | refine o_notInCh ?_ | refine o_listCh ?_ | refine o_inI ?_ | refine x_bl ?_ | refine x_int ?_ | refine x_str ?_ | refine x_sqL ?_ | refine x_sqT ?_ | refine x_sqS ?_ | refine x_isL ?_ | refine x_out ?_ | refine x_some ?_ | refine x_objL ?_ | refine x_objI ?_ | refine x_objD ?_ | refine x_cls ?_ | refine fl_nx ?_ | refine fl_ct ?_ | refine w_zip ?_ | refine w_zipT ?_ | refine w_sliceL ?_ | refine w_raise1 ?_ | refine w_tryF ?_ | refine o_and ?_ | refine o_shr ?_ | refine o_negI ?_ | refine o_listDT ?_ | refine w_enumT ?_ | refine w_sliceT ?_ | refine w_revT ?_ | refine w_eqO ?_ | refine w_callT ?_ | refine o_isB ?_ | refine o_notB ?_ | refine Np.o_sumE ?_ | refine Np.o_lenE ?_ | refine Np.x_sqP ?_ | refine Np.x_sqE ?_ | refine Np.o_ix0 ?_ | refine Np.o_ix1 ?_ | refine Np.o_ixKy ?_ | refine Np.o_ltKy ?_ | refine Np.o_sortM ?_ | refine ⟨_, _, rfl, ?_⟩ | refine x_r1 (by with_unfolding_all omega) ?_ | refine x_r2 (by with_unfolding_all omega) ?_ | refine w_var (by with_unfolding_all exact rfl) ?_ | refine x_env (by with_unfolding_all exact rfl) ?_ | refine x_lst (by with_unfolding_all exact rfl) ?_ | refine x_slot (by with_unfolding_all exact of_decide_eq_true rfl) ?_ | refine x_nm (by with_unfolding_all exact of_decide_eq_true rfl) ?_ | refine o_ixL (by with_unfolding_all exact rfl) ?_ | refine o_ixT (by with_unfolding_all exact rfl) ?_ | refine o_isiB (b := true) (by with_unfolding_all exact rfl) ?_ | refine o_isiB (b := false) (by with_unfolding_all exact rfl) ?_ | refine o_lenS' (by first | with_unfolding_all omega | assumption) ?_ | refine x_tp (by with_unfolding_all exact rfl) ?_ | refine x_rv (by first | with_unfolding_all omega | assumption) ?_ | refine o_isO (b := true) (by with_unfolding_all exact rfl) ?_ | refine o_isO (b := false) (by with_unfolding_all exact rfl) ?_ | refine x_fld (by with_unfolding_all exact rfl) (by with_unfolding_all exact rfl) ?_ | refine x_meth (by with_unfolding_all exact rfl) ⟨(by with_unfolding_all exact rfl), (by with_unfolding_all exact rfl)⟩ ?_ | refine o_pow (by with_unfolding_all decide) ?_ | refine o_mulR (by with_unfolding_all decide) ?_ | refine o_mulL (by with_unfolding_all decide) ?_ | refine o_mulL (by with_unfolding_all omega) ?_ | refine o_mod (by first | assumption | with_unfolding_all decide) ?_ | refine o_div (by first | assumption | with_unfolding_all decide) (by first | assumption | with_unfolding_all decide) ?_ | refine ⟨(by with_unfolding_all rfl), ?_⟩ | refine ⟨_, (by with_unfolding_all rfl), ?_⟩ | refine ⟨_, _, _, (by with_unfolding_all rfl), (by with_unfolding_all rfl), (by with_unfolding_all rfl), ?_⟩))
        by_cases hq : r / many = 0
        · rw [decide_eq_true hq]
          repeat (first | (with_reducible first | refine w_c ?_ | refine w_nil ?_ | refine w_nx ?_ | refine w_yes ?_ | refine w_pair ?_ | refine w_pairO ?_ | refine w_pairR ?_ | refine w_m2 ?_ | refine w_un ?_ | refine w_cons ?_ | refine w_own ?_ | refine w_io ?_ | refine w_arg ?_ | refine w_argI ?_ | refine w_seqI ?_ | refine w_tup ?_ | refine w_lst ?_ | refine w_and ?_ | refine w_or ?_ | refine w_notV ?_ | refine w_ite ?_ | refine w_test ?_ | refine w_not ?_ | refine w_tand ?_ | refine w_tor ?_ | refine w_chain ?_ | refine w_call0 ?_ | refine w_call1 ?_ | refine w_lstM ?_ | refine w_strM ?_ | refine w_slice ?_ | refine w_oN ?_ | refine w_oS ?_ | refine w_seq ?_ | refine w_if ?_ | refine w_ret ?_ | refine w_drop ?_ | refine w_set ?_ | refine w_setO ?_ | refine w_asg ?_ | refine w_gIx ?_ | refine w_for ?_ | refine w_fn ?_ | refine w_cutL ?_ | refine w_enumS ?_ | refine w_fld1 ?_ | refine w_fldS ?_ | refine w_make ?_ | refine w_meth ?_ | refine w_raise ?_ | refine w_try ?_ | refine w_tryC ?_ | refine w_joinRev ?_ | refine w_while ?_ | refine t_nx ?_ | refine t_ct ?_ | refine t_bk ?_ | refine t_rt ?_ | refine q_nx ?_ | refine q_rt ?_ | refine q_bk ?_ | refine q_ct ?_ | refine e_rt ?_ | refine e_nx ?_ | refine i_t ?_ | refine i_f ?_ | refine i_nt ?_ | refine i_nf ?_ | refine o_add ?_ | refine o_sub ?_ | refine o_lt ?_ | refine o_le ?_ | refine o_gt ?_ | refine o_ge ?_ | refine o_int ?_ | refine o_abs ?_ | refine o_lenL ?_ | refine o_lenT ?_ | refine o_inS ?_ | refine o_notInS ?_ | refine o_listL ?_ | refine o_listT ?_ | refine o_tupL ?_ | refine o_tupT ?_ | refine o_eqI ?_ | refine o_neI ?_ | refine o_isN ?_ | refine o_notN ?_ | refine o_rev ?_ | refine o_max ?_ | refine o_min ?_ | refine o_lenCh ?_ | refine o_notInCh ?_ | refine o_listCh ?_ | refine o_inI ?_ | refine x_bl ?_ | refine x_int ?_ | refine x_str ?_ | refine x_sqL ?_ | refine x_sqT ?_ | refine x_sqS ?_ | refine x_isL ?_ | refine x_out ?_ | refine x_some ?_ | refine x_objL ?_ | refine x_objI ?_ | refine x_objD ?_ | refine x_cls ?_ | refine fl_nx ?_ | refine fl_ct ?_ | refine w_zip ?_ | refine w_zipT ?_ | refine w_sliceL ?_ | refine w_raise1 ?_ | refine w_tryF ?_ | refine o_and ?_ | refine o_shr ?_ | refine o_negI ?_ | refine o_listDT ?_ | refine w_enumT ?_ | refine w_sliceT ?_ | refine w_revT ?_ | refine w_eqO ?_ | refine w_callT ?_ | refine o_isB ?_ | refine o_notB ?_ | refine Np.o_sumE ?_ | refine Np.o_lenE ?_ | refine Np.x_sqP ?_ | refine Np.x_sqE ?_ | refine Np.o_ix0 ?_ | refine Np.o_ix1 ?_ | refine Np.o_ixKy ?_ | refine Np.o_ltKy ?_ | refine Np.o_sortM ?_ | refine ⟨_, _, rfl, ?_⟩ | refine x_r1 (by with_unfolding_all omega) ?_ | refine x_r2 (by with_unfolding_all omega) ?_ | refine w_var (by with_unfolding_all exact rfl) ?_ | refine x_env (by with_unfolding_all exact rfl) ?_ | refine x_lst (by with_unfolding_all exact rfl) ?_ | refine x_slot (by with_unfolding_all exact of_decide_eq_true rfl) ?_ | refine x_nm (by with_unfolding_all exact of_decide_eq_true rfl) ?_ | refine o_ixL (by with_unfolding_all exact rfl) ?_ | refine o_ixT (by with_unfolding_all exact rfl) ?_ | refine o_isiB (b := true) (by with_unfolding_all exact rfl) ?_ | refine o_isiB (b := false) (by with_unfolding_all exact rfl) ?_ | refine o_lenS' (by first | with_unfolding_all omega | assumption) ?_ | refine x_tp (by with_unfolding_all exact rfl) ?_ | refine x_rv (by first | with_unfolding_all omega | assumption) ?_ | refine o_isO (b := true) (by with_unfolding_all exact rfl) ?_ | refine o_isO (b := false) (by with_unfolding_all exact rfl) ?_ | refine x_fld (by with_unfolding_all exact rfl) (by with_unfolding_all exact rfl) ?_ | refine x_meth (by with_unfolding_all exact rfl) ⟨(by with_unfolding_all exact rfl), (by with_unfolding_all exact rfl)⟩ ?_ | refine o_pow (by with_unfolding_all decide) ?_ | refine o_mulR (by with_unfolding_all decide) ?_ | refine o_mulL (by with_unfolding_all decide) ?_ | refine o_mulL (by with_unfolding_all omega) ?_ | refine o_mod (by first | assumption | with_unfolding_all decide) ?_ | refine o_div (by first | assumption | with_unfolding_all decide) (by first | assumption | with_unfolding_all decide) ?_ | refine ⟨(by with_unfolding_all rfl), ?_⟩ | refine ⟨_, (by with_unfolding_all rfl), ?_⟩ | refine ⟨_, _, _, (by with_unfolding_all rfl), (by with_unfolding_all rfl), (by with_unfolding_all rfl), ?_⟩))
          exact ⟨_, _, rfl, rfl, Int.emod_nonneg _ (by omega), Int.emod_lt_of_pos _ hm, cs, i + 1, 0, k + 1, s, r / many, rfl, by omega, by omega, by omega, hl⟩
        · rw [decide_eq_false hq]
          repeat (first | (with_reducible first | refine w_c ?_ | refine w_nil ?_ | refine w_nx ?_ | refine w_yes ?_ | refine w_pair ?_ | refine w_pairO ?_ | refine w_pairR ?_ | refine w_m2 ?_ | refine w_un ?_ | refine w_cons ?_ | refine w_own ?_ | refine w_io ?_ | refine w_arg ?_ | refine w_argI ?_ | refine w_seqI ?_ | refine w_tup ?_ | refine w_lst ?_ | refine w_and ?_ | refine w_or ?_ | refine w_notV ?_ | refine w_ite ?_ | refine w_test ?_ | refine w_not ?_ | refine w_tand ?_ | refine w_tor ?_ | refine w_chain ?_ | refine w_call0 ?_ | refine w_call1 ?_ | refine w_lstM ?_ | refine w_strM ?_ | refine w_slice ?_ | refine w_oN ?_ | refine w_oS ?_ | refine w_seq ?_ | refine w_if ?_ | refine w_ret ?_ | refine w_drop ?_ | refine w_set ?_ | refine w_setO ?_ | refine w_asg ?_ | refine w_gIx ?_ | refine w_for ?_ | refine w_fn ?_ | refine w_cutL ?_ | refine w_enumS ?_ | refine w_fld1 ?_ | refine w_fldS ?_ | refine w_make ?_ | refine w_meth ?_ | refine w_raise ?_ | refine w_try ?_ | refine w_tryC ?_ | refine w_joinRev ?_ | refine w_while ?_ | refine t_nx ?_ | refine t_ct ?_ | refine t_bk ?_ | refine t_rt ?_ | refine q_nx ?_ | refine q_rt ?_ | refine q_bk ?_ | refine q_ct ?_ | refine e_rt ?_ | refine e_nx ?_ | refine i_t ?_ | refine i_f ?_ | refine i_nt ?_ | refine i_nf ?_ | refine o_add ?_ | refine o_sub ?_ | refine o_lt ?_ | refine o_le ?_ | refine o_gt ?_ | refine o_ge ?_ | refine o_int ?_ | refine o_abs ?_ | refine o_lenL ?_ | refine o_lenT ?_ | refine o_inS ?_ | refine o_notInS ?_ | refine o_listL ?_ | refine o_listT ?_ | refine o_tupL ?_ | refine o_tupT ?_ | refine o_eqI ?_ | refine o_neI ?_ | refine o_isN ?_ | refine o_notN ?_ | refine o_rev ?_ | refine o_max ?_ | refine o_min ?_ | refine o_lenCh ?_ | refine o_notInCh ?_ | refine o_listCh ?_ | refine o_inI ?_ | refine x_bl ?_ | refine x_int ?_ | refine x_str ?_ | refine x_sqL ?_ | refine x_sqT ?_ | refine x_sqS ?_ | refine x_isL ?_ | refine x_out ?_ | refine x_some ?_ | refine x_objL ?_ | refine x_objI ?_ | refine x_objD ?_ | refine x_cls ?_ | refine fl_nx ?_ | refine fl_ct ?_ | refine w_zip ?_ | refine w_zipT ?_ | refine w_sliceL ?_ | refine w_raise1 ?_ | refine w_tryF ?_ | refine o_and ?_ | refine o_shr ?_ | refine o_negI ?_ | refine o_listDT ?_ | refine w_enumT ?_ | refine w_sliceT ?_ | refine w_revT ?_ | refine w_eqO ?_ | refine w_callT ?_ | refine o_isB ?_ | refine o_notB ?_ | refine Np.o_sumE ?_ | refine Np.o_lenE ?_ | refine Np.x_sqP ?_ | refine Np.x_sqE ?_ | refine Np.o_ix0 ?_ | refine Np.o_ix1 ?_ | refine Np.o_ixKy ?_ | refine Np.o_ltKy ?_ | refine Np.o_sortM ?_ | refine ⟨_, _, rfl, ?_⟩ | refine x_r1 (by with_unfolding_all omega) ?_ | refine x_r2 (by with_unfolding_all omega) ?_ | refine w_var (by with_unfolding_all exact rfl) ?_ | refine x_env (by with_unfolding_all exact rfl) ?_ | refine x_lst (by with_unfolding_all exact rfl) ?_ | refine x_slot (by with_unfolding_all exact of_decide_eq_true rfl) ?_ | refine x_nm (by with_unfolding_all exact of_decide_eq_true rfl) ?_ | refine o_ixL (by with_unfolding_all exact rfl) ?_ | refine o_ixT (by with_unfolding_all exact rfl) ?_ | refine o_isiB (b := true) (by with_unfolding_all exact rfl) ?_ | refine o_isiB (b := false) (by with_unfolding_all exact rfl) ?_ | refine o_lenS' (by first | with_unfolding_all omega | assumption) ?_ | refine x_tp (by with_unfolding_all exact rfl) ?_ | refine x_rv (by first | with_unfolding_all omega | assumption) ?_ | refine o_isO (b := true) (by with_unfolding_all exact rfl) ?_ | refine o_isO (b := false) (by with_unfolding_all exact rfl) ?_ | refine x_fld (by with_unfolding_all exact rfl) (by with_unfolding_all exact rfl) ?_ | refine x_meth (by with_unfolding_all exact rfl) ⟨(by with_unfolding_all exact rfl), (by with_unfolding_all exact rfl)⟩ ?_ | refine o_pow (by with_unfolding_all decide) ?_ | refine o_mulR (by with_unfolding_all decide) ?_ | refine o_mulL (by with_unfolding_all decide) ?_ | refine o_mulL (by with_unfolding_all omega) ?_ | refine o_mod (by first | assumption | with_unfolding_all decide) ?_ | refine o_div (by first | assumption | with_unfolding_all decide) (by first | assumption | with_unfolding_all decide) ?_ | refine ⟨(by with_unfolding_all rfl), ?_⟩ | refine ⟨_, (by with_unfolding_all rfl), ?_⟩ | refine ⟨_, _, _, (by with_unfolding_all rfl), (by with_unfolding_all rfl), (by with_unfolding_all rfl), ?_⟩))
          exact ⟨_, _, rfl, rfl, Int.emod_nonneg _ (by omega), Int.emod_lt_of_pos _ hm, cs, i, d, k + 1, s, r / many, rfl, by omega, by omega, by omega, hl⟩
theorem u_draw {EF : Ex → List D → Prop} {c : Nat} {h : D} {many : Int} {Q : D → List D → Prop} (H : HOk c h) (hc : c < 2 ^ 40) (h1 : 1 ≤ many) (h2 : many < 10 ^ 60) (w : ∀ r h', 0 ≤ r → r < many → HOk (c + 1) h' → Q (.int r) [h']) : wfx EF (F_law_draw ([.non, .int many].set 0 h)) Q := by
  show wfx EF (F_law_draw [h, .int many]) Q
  refine f_use (draw_ok H hc h1 h2) ?_
  rintro d outs ⟨r, h', rfl, rfl, h3, h4, h5⟩
  exact w r h' h3 h4 h5
/-- the script's hand -/
theorem hand_ok {ns : List Int} (hl : ns.length ≤ 63) : wf (F_law_hand [.lst (ns.map D.int)]) fun d outs => HOk 0 d ∧ outs = [] := by
  unfold F_law_hand
  with_reducible refine w_fn ?_
  unfold m_law_hand
  and_intros
  refine w_mapT (l := ns.take 63) D.int D.int ?_
  and_intros
  refine ⟨by rw [List.map_take], by rw [List.length_take]; show _ < 2 ^ 24; omega, ?_, ?_⟩
  · intro a _
    refine ⟨_, rfl, ?_⟩
    and_intros
    exact ⟨rfl, rfl⟩
  and_intros
  rw [show (1 : Int) = ((1 : Nat) : Int) from rfl, cutD_first, ← List.map_take]
  refine o_sumI ?_
  and_intros
  exact ⟨⟨ns.take 63, 0, 0, 0, _, 0, rfl, by decide, by decide, by decide, by rw [List.length_take]; omega⟩, rfl⟩
/-- a drawn number -/
theorem number_ok {c : Nat} {h : D} (H : HOk c h) (hc : c < 2 ^ 39) : wf (F_law_number [h]) fun d outs => ∃ n h', d = .int n ∧ outs = [h'] ∧ Np.Bt 134 n ∧ HOk (c + 4) h' := by
  have mono : ∀ {a b : Nat} {h : D}, HOk a h → a ≤ b → HOk b h := fun ⟨cs, i, d, k, s, r, e, h1, h2, h3, h4⟩ l => ⟨cs, i, d, k, s, r, e, h1, h2, by omega, h4⟩
  unfold F_law_number
  with_reducible refine w_fn ?_
  unfold m_law_number
  and_intros
  refine u_draw H (by omega) (by omega) (by omega) ?_
  intro r h1 r0 r1 H1
  and_intros
  by_cases q : r < 2
  · rw [decide_eq_true q]
    and_intros
    refine u_draw H1 (by omega) (by omega) (by omega) ?_
    intro r h2 r0 r1 H2
    and_intros
    exact ⟨_, _, rfl, rfl, by unfold Np.Bt; omega, mono H2 (by omega)⟩
  · rw [decide_eq_false q]
    and_intros
    by_cases q2 : r = 2
    · rw [decide_eq_true q2]
      and_intros
      refine u_draw H1 (by omega) (by omega) (by omega) ?_
      intro r h2 r0 r1 H2
      and_intros
      exact ⟨_, _, rfl, rfl, by unfold Np.Bt; omega, mono H2 (by omega)⟩
    · rw [decide_eq_false q2]
      and_intros
      refine u_draw H1 (by omega) (by decide) (by decide) ?_
      intro x h2 x0 x1 H2
      and_intros
      refine Np.o_mulD (a := 67) (b := 67) ?_ ?_ (by decide) ?_
      · have : x < 10 ^ 20 := x1
        unfold Np.Bt; omega
      · show ((10 : Int) ^ 20).natAbs < _; decide
      and_intros
      refine u_draw H2 (by omega) (by decide) (by decide) ?_
      intro y h3 y0 y1 H3
      and_intros
      have hx : x < 10 ^ 20 := x1
      have hy : y < 10 ^ 20 := y1
      have hz : (10 : Int) ^ Int.toNat 20 = 10 ^ 20 := rfl
      rw [hz]
      have b1 : Np.Bt 133 (x * 10 ^ 20 + y) := by unfold Np.Bt; omega
      have b2 : 0 ≤ x * 10 ^ 20 + y := by omega
      have b3 : x * 10 ^ 20 + y < 10 ^ 40 := by omega
      generalize x * 10 ^ 20 + y = z at *
      and_intros
      refine u_draw H3 (by omega) (by decide) (by decide) ?_
      intro u h4 u0 u1 H4
      and_intros
      refine Np.o_mulD (a := 135) (b := 2) ?_ ?_ (by decide) ?_
      · unfold Np.Bt; omega
      · unfold Np.Bt; omega
      and_intros
      refine ⟨_, _, rfl, rfl, ?_, H4⟩
      unfold Np.Bt
      have : u = 0 ∨ u = 1 := by omega
      rcases this with rfl | rfl <;> omega
set_option maxHeartbeats 4000000
set_option exponentiation.threshold 2000
open Np (eD tD pD kyD)
structure IntP (p : PyData) : Prop where
  shw : p.showable = true
  lv : p.leavesShort 200 = true
  wt : p.weight ≤ 134
  dp : p.depth = 0
theorem intP {n : Int} (h : Np.Bt 134 n) : IntP (.int n) := by
  have a := Sh.int (b := 134) h (by decide)
  exact ⟨by simpa only [pdD] using a.shw, by simpa only [pdD] using a.lv, by simpa only [pdD] using a.wt, by simp [PyData.depth]⟩
theorem rp_of {d : D} (h1 : plnE d = true) (h2 : (pdE d).showable = true) (h3 : (pdE d).leavesShort 200 = true) (h4 : (pdE d).weight ≤ 80000) (h5 : (pdE d).depth ≤ 50) : rpE d = true := by
  unfold rpE
  rw [h1, h2, h3, decide_eq_true h4, decide_eq_true h5]
  rfl
theorem rp_int {n : Int} (h : Np.Bt 134 n) : rpE (.int n) = true := by
  have a := intP h
  refine rp_of (by simp [plnE]) ?_ ?_ ?_ ?_
  · simp only [pdE]; exact a.shw
  · simp only [pdE]; exact a.lv
  · simp only [pdE]; have := a.wt; omega
  · simp only [pdE]; have := a.dp; omega
theorem rp_lst {n : Int} (h : Np.Bt 134 n) : rpE (.lst [.int n, .lst [.int n]]) = true := by
  have a := intP h
  have h1 := a.shw
  have h2 := a.lv
  have h3 := a.wt
  have h4 := a.dp
  refine rp_of (by simp [plnE, plnEL]) ?_ ?_ ?_ ?_
  · simp only [pdE, pdEL, PyData.showable, PyData.showableAll] at h1 ⊢; simp only [h1]; rfl
  · simp only [pdE, pdEL, PyData.leavesShort, PyData.leavesShortAll] at h2 ⊢; simp only [h2]; rfl
  · simp only [pdE, pdEL, PyData.weight, PyData.weightAll] at h3 ⊢; omega
  · simp only [pdE, pdEL, PyData.depth, PyData.depthAll]; omega
theorem rp_tup {n : Int} (h : Np.Bt 134 n) : rpE (.tup [.int n, .tup []]) = true := by
  have a := intP h
  have h1 := a.shw
  have h2 := a.lv
  have h3 := a.wt
  have h4 := a.dp
  refine rp_of (by simp [plnE, plnEL]) ?_ ?_ ?_ ?_
  · simp only [pdE, pdEL, PyData.showable, PyData.showableAll] at h1 ⊢; simp only [h1]; rfl
  · simp only [pdE, pdEL, PyData.leavesShort, PyData.leavesShortAll] at h2 ⊢; simp only [h2]; rfl
  · simp only [pdE, pdEL, PyData.weight, PyData.weightAll] at h3 ⊢; omega
  · simp only [pdE, pdEL, PyData.depth, PyData.depthAll]; omega
theorem rp_dic {n : Int} (h : Np.Bt 134 n) : rpE (.dic [.str "index", .int n] [.int n, .lst [.int 1, .int 2]]) = true := by
  have a := intP h
  have h1 := a.shw
  have h2 := a.lv
  have h3 := a.wt
  have h4 := a.dp
  have b1 := (intP (n := 1) (by unfold Np.Bt; decide)).lv
  have b2 := (intP (n := 2) (by unfold Np.Bt; decide)).lv
  have b3 : (("index" : Str).cps.toList.all fun c => decide (c < 16 ^ 8)) = true := by decide +kernel
  have c1 := (intP (n := 1) (by unfold Np.Bt; decide)).wt
  have c2 := (intP (n := 2) (by unfold Np.Bt; decide)).wt
  have c3 : ("index" : Str).cps.size = 5 := by decide +kernel
  refine rp_of (by simp [plnE, plnEL]) ?_ ?_ ?_ ?_
  · simp only [pdE, pdEL, pdD, pdL, List.zip_cons_cons, List.zip_nil_left, PyData.showable, PyData.showableAll, PyData.showableKv] at h1 ⊢; simp only [h1]; decide +kernel
  · simp only [pdE, pdEL, pdD, pdL, List.zip_cons_cons, List.zip_nil_left, PyData.leavesShort, PyData.leavesShortAll, PyData.leavesShortKv] at h2 b1 b2 ⊢; simp only [h2, b1, b2, b3]; rfl
  · simp only [pdE, pdEL, pdD, pdL, List.zip_cons_cons, List.zip_nil_left, PyData.weight, PyData.weightAll, PyData.weightKv, c3] at h3 c1 c2 ⊢; omega
  · simp only [pdE, pdEL, pdD, pdL, List.zip_cons_cons, List.zip_nil_left, PyData.depth, PyData.depthAll, PyData.depthKv]; omega
theorem int_len {n : Int} (h : Np.Bt 134 n) : (Str.ofString (toString n)).length ≤ 200 := by
  have a : (PyData.int n).shown.length ≤ 200 := by
    have := (intP h).lv
    simpa only [PyData.leavesShort, decide_eq_true_eq] using this
  exact a
theorem rp_str {n : Int} (h : Np.Bt 134 n) : rpE (.str (("part " : Str) ++ Str.ofString (toString n))) = true := by
  have l := int_len h
  have g : SgS (("part " : Str) ++ Str.ofString (toString n)) := SgS.app (by show SgS (Str.ofString "part "); unfold SgS; decide) (sgs_int n)
  refine rp_of (by simp [plnE]) ?_ ?_ ?_ ?_
  · simp only [pdE, PyData.showable]
  · simp only [pdE, PyData.leavesShort, List.all_eq_true, decide_eq_true_eq]
    intro c hc
    have := g c hc
    omega
  · simp only [pdE, PyData.weight]
    have e : (("part " : Str) ++ Str.ofString (toString n)).cps.size = ("part " : Str).length + (Str.ofString (toString n)).length := strLen_append _ _
    have e2 : ("part " : Str).length = 5 := by decide +kernel
    omega
  · simp [pdE, PyData.depth]
theorem bt_log {n : Int} (h : Np.Bt 134 n) : n.natAbs.log2 < 1920 := by
  by_cases z : n.natAbs = 0
  · rw [z]; decide
  · have : n.natAbs.log2 < 134 := (Nat.log2_lt z).2 h
    omega
theorem o_strT {n : Int} {ρ : Ip.Env} {P : D → Ip.Env → Prop} (h : n.natAbs.log2 < 1920) (w : P (.str (Str.ofString (toString n))) ρ) : wo (oStrI [.int n]) ρ P :=
  o_some (d := .str (Str.ofString (toString n))) (show (if n.natAbs.log2 < 1920 then some (D.str (toString n)) else none) = _ from if_pos h) w
theorem sg_char {c q : Nat} (h : c < 128) (hq : q = 34 ∨ q = 39) : ∀ x ∈ Builtin.Str.reprChar q c, x < 0x110000 := by
  have a : (List.range 128).all (fun c => (Builtin.Str.reprChar 34 c).all (fun x => decide (x < 0x110000)) && (Builtin.Str.reprChar 39 c).all (fun x => decide (x < 0x110000))) = true := by decide +kernel
  have b := List.all_eq_true.1 a c (List.mem_range.2 h)
  simp only [Bool.and_eq_true, List.all_eq_true, decide_eq_true_eq] at b
  rcases hq with rfl | rfl
  · exact b.1
  · exact b.2
theorem sg_fold {q : Nat} (hq : q = 34 ∨ q = 39) : ∀ (l : List Nat) (acc : Array Nat), (∀ c ∈ l, c < 128) → (∀ x ∈ acc.toList, x < 0x110000) → ∀ x ∈ (l.foldl (fun out c => out ++ (Builtin.Str.reprChar q c).toArray) acc).toList, x < 0x110000
  | [], _, _, h => h
  | c :: r, acc, hl, h => by
    refine sg_fold hq r _ (fun d hd => hl d (List.mem_cons_of_mem _ hd)) fun x hx => ?_
    rw [Array.toList_append] at hx
    rcases List.mem_append.1 hx with hx | hx
    · exact h x hx
    · exact sg_char (hl c List.mem_cons_self) hq x (by simpa using hx)
theorem quote_ok (x : Str) : reprQuote x = 34 ∨ reprQuote x = 39 := by
  unfold reprQuote
  split
  · exact .inl rfl
  · exact .inr rfl
theorem sg_repr {x : Str} (h : ∀ c ∈ x.cps.toList, c < 128) : SgS (reprText x) := by
  intro c hc
  have hq := quote_ok x
  have q1 : reprQuote x < 0x110000 := by rcases hq with e | e <;> rw [e] <;> decide
  unfold reprText at hc
  rw [Array.toList_push, ← Array.foldl_toList] at hc
  rcases List.mem_append.1 hc with hc | hc
  · exact sg_fold hq _ _ h (fun y hy => by
      have : y = reprQuote x := by simpa using hy
      omega) c hc
  · have : c = reprQuote x := by simpa using hc
    omega
theorem digs {n : Int} {c : Nat} (hc : c ∈ (Str.ofString (toString n)).cps.toList) : c < 128 := Classical.byContradiction fun q => PyProof.Rows.shown_int_free' (k := c) (by omega) n (by rw [PyData.shown_int]; exact hc)
theorem sg_part {n : Int} : SgS (rpTE (.str (("part " : Str) ++ Str.ofString (toString n)))) := by
  unfold rpTE
  simp only [pdE, PyData.shown]
  refine sg_repr fun c hc => ?_
  have e : (("part " : Str) ++ Str.ofString (toString n)).cps.toList = ("part " : Str).cps.toList ++ (Str.ofString (toString n)).cps.toList := Array.toList_append
  rw [e] at hc
  rcases List.mem_append.1 hc with hc | hc
  · have a : ("part " : Str).cps.toList.all (fun c => decide (c < 128)) = true := by decide +kernel
    exact of_decide_eq_true (List.all_eq_true.1 a c hc)
  · exact digs hc
theorem sg_int {n : Int} : SgS (rpTE (.int n)) := by
  unfold rpTE
  simp only [pdE]
  exact sgs_int n
theorem sg_lst {n : Int} : SgS (rpTE (.lst [.int n, .lst [.int n]])) := by
  unfold rpTE
  simp only [pdE, pdEL, PyData.shown, PyData.shownAll]
  refine sgs_list fun t ht => ?_
  rcases List.mem_cons.1 ht with rfl | ht
  · exact sgs_int n
  · rw [List.mem_singleton.1 ht]
    refine sgs_list fun t ht => ?_
    rw [List.mem_singleton.1 ht]
    exact sgs_int n
theorem sg_tup {n : Int} : SgS (rpTE (.tup [.int n, .tup []])) := by
  unfold rpTE
  simp only [pdE, pdEL, PyData.shown, PyData.shownAll]
  refine sgs_tuple fun t ht => ?_
  rcases List.mem_cons.1 ht with rfl | ht
  · exact sgs_int n
  · rw [List.mem_singleton.1 ht]
    exact sgs_tuple fun t ht => nomatch ht
theorem sg_lit {x : String} (h : ((Str.ofString x).cps.toList.all fun c => decide (c < 0x110000)) = true) : SgS (Str.ofString x) := fun c hc => of_decide_eq_true (List.all_eq_true.1 h c hc)
theorem sg_dic {n : Int} : SgS (rpTE (.dic [.str "index", .int n] [.int n, .lst [.int 1, .int 2]])) := by
  unfold rpTE
  simp only [pdE, pdEL, pdD, pdL, List.zip_cons_cons, List.zip_nil_left, PyData.shown, PyData.shownAll, PyData.shownKv]
  unfold dictText
  refine SgS.app (SgS.app (sg_lit (by decide +kernel)) (sgs_join _ fun t ht => ?_)) (sg_lit (by decide +kernel))
  rcases List.mem_cons.1 ht with rfl | ht
  · exact SgS.app (SgS.app (sg_repr fun c hc => of_decide_eq_true (List.all_eq_true.1 (show (("index" : Str).cps.toList.all fun c => decide (c < 128)) = true by decide +kernel) c hc)) (sg_lit (by decide +kernel))) (sgs_int n)
  · rw [List.mem_singleton.1 ht]
    refine SgS.app (SgS.app (sgs_int n) (sg_lit (by decide +kernel))) (sgs_list fun t ht => ?_)
    rcases List.mem_cons.1 ht with rfl | ht
    · exact sgs_int 1
    · rw [List.mem_singleton.1 ht]
      exact sgs_int 2
structure Shw (d : D) : Prop where
  rp : rpE d = true
  sg : SgS (rpTE d)
theorem Shw.py {d : D} (h : Shw d) : SeqAt.shaped (.str (rpTE d)) = true := by
  unfold SeqAt.shaped
  rw [PyData.canLay0, h.sg.ok]
  simp [PyData.depth]
theorem value_ok {c : Nat} {h : D} (H : HOk c h) (hc : c < 2 ^ 38) : wf (F_law_value [h]) fun d outs => ∃ h', outs = [h'] ∧ HOk (c + 5) h' ∧ Shw d := by
  unfold F_law_value
  with_reducible refine w_fn ?_
  unfold m_law_value
  and_intros
  refine u_draw H (by omega) (by decide) (by decide) ?_
  intro r h1 r0 r1 H1
  and_intros
  refine f_use (number_ok H1 (by omega)) ?_
  rintro d outs ⟨n, h2, rfl, rfl, hb, H2⟩
  and_intros
  by_cases q0 : r = 0
  · rw [decide_eq_true q0]
    and_intros
    exact ⟨_, rfl, H2, ⟨rp_int hb, sg_int⟩⟩
  rw [decide_eq_false q0]
  and_intros
  by_cases q1 : r = 1
  · rw [decide_eq_true q1]
    and_intros
    refine o_strT (bt_log hb) ?_
    and_intros
    refine o_cat ?_ ?_
    · have := int_len hb
      have e2 : ("part " : Str).length = 5 := by decide +kernel
      have e3 : sizeLine = 16777216 := sizeLine_eq
      omega
    and_intros
    exact ⟨_, rfl, H2, ⟨rp_str hb, sg_part⟩⟩
  rw [decide_eq_false q1]
  and_intros
  by_cases q2 : r = 2
  · rw [decide_eq_true q2]
    and_intros
    exact ⟨_, rfl, H2, ⟨by decide +kernel, sg_lit (by decide +kernel)⟩⟩
  rw [decide_eq_false q2]
  and_intros
  by_cases q3 : r = 3
  · rw [decide_eq_true q3]
    and_intros
    exact ⟨_, rfl, H2, ⟨by decide +kernel, sg_lit (by decide +kernel)⟩⟩
  rw [decide_eq_false q3]
  and_intros
  by_cases q4 : r = 4
  · rw [decide_eq_true q4]
    and_intros
    exact ⟨_, rfl, H2, ⟨rp_lst hb, sg_lst⟩⟩
  rw [decide_eq_false q4]
  and_intros
  by_cases q5 : r = 5
  · rw [decide_eq_true q5]
    and_intros
    exact ⟨_, rfl, H2, ⟨rp_tup hb, sg_tup⟩⟩
  rw [decide_eq_false q5]
  and_intros
  refine w_disp2 ?_
  and_intros
  refine ⟨_, _, _, rfl, ?_⟩
  and_intros
  exact ⟨_, rfl, H2, ⟨rp_dic hb, sg_dic⟩⟩
set_option maxHeartbeats 4000000
open Np (eD tD pD kyD)
theorem wf_eq {E : Ex → List D → Prop} {r : FR} {d : D} {outs : List D} {P : D → List D → Prop} (e : r = .ok d outs) (w : P d outs) : wfx E r P := by
  rw [e]
  exact w
def errT : List (Str × Int) := [("NoNumber", 0), ("NoValues", 1), ("NoRow", 2), ("NoSigns", 3), ("NoText", 4), ("NoSort", 5), ("NoGuard", 6), ("NoRoom", 7), ("NoDegree", 8), ("NoMove", 9), ("NoBack", 10), ("NoOther", 11), ("NoMost", 12), ("NoEven", 13), ("NoPolynomial", 14), ("NoList", 15), ("NoWriters", 16), ("NoWriter", 17), ("Open", 18)]
theorem right_in {c : Str} {k : Int} (h : (c, k) ∈ errT) : F_law_right [.exc c, .int k] = .ok (.bl true) [] := by
  simp only [errT, List.mem_cons, Prod.mk.injEq, List.not_mem_nil, or_false] at h
  rcases h with ⟨rfl, rfl⟩ | ⟨rfl, rfl⟩ | ⟨rfl, rfl⟩ | ⟨rfl, rfl⟩ | ⟨rfl, rfl⟩ | ⟨rfl, rfl⟩ | ⟨rfl, rfl⟩ | ⟨rfl, rfl⟩ | ⟨rfl, rfl⟩ | ⟨rfl, rfl⟩ | ⟨rfl, rfl⟩ | ⟨rfl, rfl⟩ | ⟨rfl, rfl⟩ | ⟨rfl, rfl⟩ | ⟨rfl, rfl⟩ | ⟨rfl, rfl⟩ | ⟨rfl, rfl⟩ | ⟨rfl, rfl⟩ | ⟨rfl, rfl⟩ <;> kernel_rfl
theorem plain_in {i : Nat} (h : i < 14) : ∃ c, F_law_plain_error [.int (i : Nat)] = .ok (.exc c) [] ∧ (c, (i : Int)) ∈ errT := by
  match i, h with
  | 0, _ => exact ⟨"NoNumber", by kernel_rfl, by decide +kernel⟩
  | 1, _ => exact ⟨"NoValues", by kernel_rfl, by decide +kernel⟩
  | 2, _ => exact ⟨"NoRow", by kernel_rfl, by decide +kernel⟩
  | 3, _ => exact ⟨"NoSigns", by kernel_rfl, by decide +kernel⟩
  | 4, _ => exact ⟨"NoText", by kernel_rfl, by decide +kernel⟩
  | 5, _ => exact ⟨"NoSort", by kernel_rfl, by decide +kernel⟩
  | 6, _ => exact ⟨"NoGuard", by kernel_rfl, by decide +kernel⟩
  | 7, _ => exact ⟨"NoRoom", by kernel_rfl, by decide +kernel⟩
  | 8, _ => exact ⟨"NoDegree", by kernel_rfl, by decide +kernel⟩
  | 9, _ => exact ⟨"NoMove", by kernel_rfl, by decide +kernel⟩
  | 10, _ => exact ⟨"NoBack", by kernel_rfl, by decide +kernel⟩
  | 11, _ => exact ⟨"NoOther", by kernel_rfl, by decide +kernel⟩
  | 12, _ => exact ⟨"NoMost", by kernel_rfl, by decide +kernel⟩
  | 13, _ => exact ⟨"NoEven", by kernel_rfl, by decide +kernel⟩
theorem kinds_made : F_law_kinds [.exc "MadeError"] = .ok (.lst ((List.range 19).map fun _ => .bl false)) [] := by kernel_rfl
theorem u_right {E : Ex → List D → Prop} {c : Str} {k : Int} {P : D → List D → Prop} (h : (c, k) ∈ errT) (w : P (.bl true) []) : wfx E (F_law_right [.exc c, .int k]) P := wf_eq (right_in h) w
theorem o_shown {d : D} {ρ : Ip.Env} {P : D → Ip.Env → Prop} (h : Shw d) (w : P (.bl false) ρ) : wo (neD (.str (rpTE d)) (.str (rpTE d))) ρ P :=
  o_neX (p := .str (rpTE d)) (q := .str (rpTE d)) (k := true) (by simp [toPy]) (by simp [toPy]) h.py h.py (by unfold PyData.eqv; simp) w
theorem obj_of {c : Nat} {h : D} (H : HOk c h) : Ip.isObj h = true := by
  obtain ⟨cs, i, d, k, s, r, rfl, _⟩ := H
  rfl
abbrev envL (sc h : D) (x2 x3 x4 x5 : Option D) : Ip.Env := [some sc, some h, x2, x3, x4, x5, none]
theorem check_ok {E : Ex → Ip.Env → Prop} {PS : Fl → Ip.Env → Prop} {c : Str} {k : Int} {sc h d : D} {x2 x3 : Option D} (hk : (c, k) ∈ errT) (hd : Shw d) (w : PS .nx (envL sc h x2 x3 (some d) (some (.str (rpTE d))))) :
    wpx E ((mIfS (mOr (mNot (mTest (mCall0 F_law_right (mCons (mExcF c (mVar 4)) (mCons (mC (.int k)) mNil))))) (mTest (m2 neD (mPair (mArg oReprE (mCons (mVar 4) mNil)) (mVar 5))))) (mRet (mC (.bl false))) mNx) (envL sc h x2 x3 (some d) (some (.str (rpTE d))))) PS := by
  and_intros
  refine w_excF ?_
  and_intros
  refine u_right hk ?_
  and_intros
  refine o_reprE hd.rp ?_
  and_intros
  refine o_shown hd ?_
  and_intros
  exact w
theorem last_ok {E : Ex → Ip.Env → Prop} {PS : Fl → Ip.Env → Prop} {sc h d : D} {x2 x3 : Option D} (hd : Shw d) (w : PS .nx (envL sc h x2 x3 (some d) (some (.str (rpTE d))))) :
    wpx E ((mIfS (mTest (m2 neD (mPair (mArg oReprE (mCons (mVar 4) mNil)) (mVar 5)))) (mRet (mC (.bl false))) mNx) (envL sc h x2 x3 (some d) (some (.str (rpTE d))))) PS := by
  and_intros
  refine o_reprE hd.rp ?_
  and_intros
  refine o_shown hd ?_
  and_intros
  exact w
theorem body_ok {E : Ex → Ip.Env → Prop} {c : Nat} {sc h : D} {x2 x4 x5 : Option D} {j : Int} (H : HOk c h) (hc : c < 2 ^ 30) :
    wpx E ((mSeq (mSet 4 (mCall1 F_law_value 0 1 (mIo mNil))) (mSeq (mSet 5 (mArg oReprE (mCons (mVar 4) mNil))) (mSeq (mIfS (mOr (mNot (mTest (mCall0 F_law_right (mCons (mExcF "NoPolynomial" (mVar 4)) (mCons (mC (.int 14)) mNil))))) (mTest (m2 neD (mPair (mArg oReprE (mCons (mVar 4) mNil)) (mVar 5))))) (mRet (mC (.bl false))) mNx) (mSeq (mIfS (mOr (mNot (mTest (mCall0 F_law_right (mCons (mExcF "NoList" (mVar 4)) (mCons (mC (.int 15)) mNil))))) (mTest (m2 neD (mPair (mArg oReprE (mCons (mVar 4) mNil)) (mVar 5))))) (mRet (mC (.bl false))) mNx) (mSeq (mIfS (mOr (mNot (mTest (mCall0 F_law_right (mCons (mExcF "NoWriters" (mVar 4)) (mCons (mC (.int 16)) mNil))))) (mTest (m2 neD (mPair (mArg oReprE (mCons (mVar 4) mNil)) (mVar 5))))) (mRet (mC (.bl false))) mNx) (mSeq (mIfS (mOr (mNot (mTest (mCall0 F_law_right (mCons (mExcF "NoWriter" (mVar 4)) (mCons (mC (.int 17)) mNil))))) (mTest (m2 neD (mPair (mArg oReprE (mCons (mVar 4) mNil)) (mVar 5))))) (mRet (mC (.bl false))) mNx) (mSeq (mIfS (mOr (mNot (mTest (mCall0 F_law_right (mCons (mExcF "Open" (mVar 4)) (mCons (mC (.int 18)) mNil))))) (mTest (m2 neD (mPair (mArg oReprE (mCons (mVar 4) mNil)) (mVar 5))))) (mRet (mC (.bl false))) mNx) (mIfS (mTest (m2 neD (mPair (mArg oReprE (mCons (mVar 4) mNil)) (mVar 5)))) (mRet (mC (.bl false))) mNx)))))))) (envL sc h x2 (some (.int j)) x4 x5)) fun fl ρ => (fl = .nx ∨ fl = .ct) ∧ ∃ h' x3 x4 x5, ρ = envL sc h' x2 x3 x4 x5 ∧ HOk (c + 5) h' := by
  have a1 : ∀ {E : Ex → Ip.Env → Prop} {PS : Fl → Ip.Env → Prop} {h d : D} {x2 x3 : Option D} (hd : Shw d) (w : PS .nx (envL sc h x2 x3 (some d) (some (.str (rpTE d))))), wpx E ((mIfS (mOr (mNot (mTest (mCall0 F_law_right (mCons (mExcF "NoPolynomial" (mVar 4)) (mCons (mC (.int 14)) mNil))))) (mTest (m2 neD (mPair (mArg oReprE (mCons (mVar 4) mNil)) (mVar 5))))) (mRet (mC (.bl false))) mNx) (envL sc h x2 x3 (some d) (some (.str (rpTE d))))) PS := by
    intro E PS h d x2 x3 hd w
    have m : (("NoPolynomial" : Str), (14 : Int)) ∈ errT := by decide +kernel
    with_reducible exact check_ok m hd w
  have a2 : ∀ {E : Ex → Ip.Env → Prop} {PS : Fl → Ip.Env → Prop} {h d : D} {x2 x3 : Option D} (hd : Shw d) (w : PS .nx (envL sc h x2 x3 (some d) (some (.str (rpTE d))))), wpx E ((mIfS (mOr (mNot (mTest (mCall0 F_law_right (mCons (mExcF "NoList" (mVar 4)) (mCons (mC (.int 15)) mNil))))) (mTest (m2 neD (mPair (mArg oReprE (mCons (mVar 4) mNil)) (mVar 5))))) (mRet (mC (.bl false))) mNx) (envL sc h x2 x3 (some d) (some (.str (rpTE d))))) PS := by
    intro E PS h d x2 x3 hd w
    have m : (("NoList" : Str), (15 : Int)) ∈ errT := by decide +kernel
    with_reducible exact check_ok m hd w
  have a3 : ∀ {E : Ex → Ip.Env → Prop} {PS : Fl → Ip.Env → Prop} {h d : D} {x2 x3 : Option D} (hd : Shw d) (w : PS .nx (envL sc h x2 x3 (some d) (some (.str (rpTE d))))), wpx E ((mIfS (mOr (mNot (mTest (mCall0 F_law_right (mCons (mExcF "NoWriters" (mVar 4)) (mCons (mC (.int 16)) mNil))))) (mTest (m2 neD (mPair (mArg oReprE (mCons (mVar 4) mNil)) (mVar 5))))) (mRet (mC (.bl false))) mNx) (envL sc h x2 x3 (some d) (some (.str (rpTE d))))) PS := by
    intro E PS h d x2 x3 hd w
    have m : (("NoWriters" : Str), (16 : Int)) ∈ errT := by decide +kernel
    with_reducible exact check_ok m hd w
  have a4 : ∀ {E : Ex → Ip.Env → Prop} {PS : Fl → Ip.Env → Prop} {h d : D} {x2 x3 : Option D} (hd : Shw d) (w : PS .nx (envL sc h x2 x3 (some d) (some (.str (rpTE d))))), wpx E ((mIfS (mOr (mNot (mTest (mCall0 F_law_right (mCons (mExcF "NoWriter" (mVar 4)) (mCons (mC (.int 17)) mNil))))) (mTest (m2 neD (mPair (mArg oReprE (mCons (mVar 4) mNil)) (mVar 5))))) (mRet (mC (.bl false))) mNx) (envL sc h x2 x3 (some d) (some (.str (rpTE d))))) PS := by
    intro E PS h d x2 x3 hd w
    have m : (("NoWriter" : Str), (17 : Int)) ∈ errT := by decide +kernel
    with_reducible exact check_ok m hd w
  have a5 : ∀ {E : Ex → Ip.Env → Prop} {PS : Fl → Ip.Env → Prop} {h d : D} {x2 x3 : Option D} (hd : Shw d) (w : PS .nx (envL sc h x2 x3 (some d) (some (.str (rpTE d))))), wpx E ((mIfS (mOr (mNot (mTest (mCall0 F_law_right (mCons (mExcF "Open" (mVar 4)) (mCons (mC (.int 18)) mNil))))) (mTest (m2 neD (mPair (mArg oReprE (mCons (mVar 4) mNil)) (mVar 5))))) (mRet (mC (.bl false))) mNx) (envL sc h x2 x3 (some d) (some (.str (rpTE d))))) PS := by
    intro E PS h d x2 x3 hd w
    have m : (("Open" : Str), (18 : Int)) ∈ errT := by decide +kernel
    with_reducible exact check_ok m hd w
  have a6 : ∀ {E : Ex → Ip.Env → Prop} {PS : Fl → Ip.Env → Prop} {h d : D} {x2 x3 : Option D} (hd : Shw d) (w : PS .nx (envL sc h x2 x3 (some d) (some (.str (rpTE d))))), wpx E ((mIfS (mTest (m2 neD (mPair (mArg oReprE (mCons (mVar 4) mNil)) (mVar 5)))) (mRet (mC (.bl false))) mNx) (envL sc h x2 x3 (some d) (some (.str (rpTE d))))) PS := by
    intro E PS h d x2 x3 hd w
    with_reducible exact last_ok hd w
  revert a1 a2 a3 a4 a5 a6
  with_reducible generalize (mIfS (mOr (mNot (mTest (mCall0 F_law_right (mCons (mExcF "NoPolynomial" (mVar 4)) (mCons (mC (.int 14)) mNil))))) (mTest (m2 neD (mPair (mArg oReprE (mCons (mVar 4) mNil)) (mVar 5))))) (mRet (mC (.bl false))) mNx) = K1
  with_reducible generalize (mIfS (mOr (mNot (mTest (mCall0 F_law_right (mCons (mExcF "NoList" (mVar 4)) (mCons (mC (.int 15)) mNil))))) (mTest (m2 neD (mPair (mArg oReprE (mCons (mVar 4) mNil)) (mVar 5))))) (mRet (mC (.bl false))) mNx) = K2
  with_reducible generalize (mIfS (mOr (mNot (mTest (mCall0 F_law_right (mCons (mExcF "NoWriters" (mVar 4)) (mCons (mC (.int 16)) mNil))))) (mTest (m2 neD (mPair (mArg oReprE (mCons (mVar 4) mNil)) (mVar 5))))) (mRet (mC (.bl false))) mNx) = K3
  with_reducible generalize (mIfS (mOr (mNot (mTest (mCall0 F_law_right (mCons (mExcF "NoWriter" (mVar 4)) (mCons (mC (.int 17)) mNil))))) (mTest (m2 neD (mPair (mArg oReprE (mCons (mVar 4) mNil)) (mVar 5))))) (mRet (mC (.bl false))) mNx) = K4
  with_reducible generalize (mIfS (mOr (mNot (mTest (mCall0 F_law_right (mCons (mExcF "Open" (mVar 4)) (mCons (mC (.int 18)) mNil))))) (mTest (m2 neD (mPair (mArg oReprE (mCons (mVar 4) mNil)) (mVar 5))))) (mRet (mC (.bl false))) mNx) = K5
  with_reducible generalize (mIfS (mTest (m2 neD (mPair (mArg oReprE (mCons (mVar 4) mNil)) (mVar 5)))) (mRet (mC (.bl false))) mNx) = K6
  intro a1 a2 a3 a4 a5 a6
  and_intros
  refine f_use (value_ok H (by omega)) ?_
  rintro d outs ⟨h', rfl, H', hd⟩
  and_intros
  refine o_reprE hd.rp ?_
  and_intros
  refine a1 hd ?_
  and_intros
  refine a2 hd ?_
  and_intros
  refine a3 hd ?_
  and_intros
  refine a4 hd ?_
  and_intros
  refine a5 hd ?_
  and_intros
  refine a6 hd ?_
  exact ⟨.inl rfl, _, _, _, _, rfl, H'⟩
set_option maxHeartbeats 4000000
open Np (eD tD pD kyD)
theorem tail_ok {c : Nat} {sc h : D} {x2 : Option D} (H : HOk c h) (hc : c < 2 ^ 20) :
    wpx (fun e ρ => noF e (outsOf [] ρ)) ((mSeq (mFor (mArgI asR1 (mCons (mC (.int 2)) mNil)) (gNm 3) (mSeq (mSet 4 (mCall1 F_law_value 0 1 (mIo mNil))) (mSeq (mSet 5 (mArg oReprE (mCons (mVar 4) mNil))) (mSeq (mIfS (mOr (mNot (mTest (mCall0 F_law_right (mCons (mExcF "NoPolynomial" (mVar 4)) (mCons (mC (.int 14)) mNil))))) (mTest (m2 neD (mPair (mArg oReprE (mCons (mVar 4) mNil)) (mVar 5))))) (mRet (mC (.bl false))) mNx) (mSeq (mIfS (mOr (mNot (mTest (mCall0 F_law_right (mCons (mExcF "NoList" (mVar 4)) (mCons (mC (.int 15)) mNil))))) (mTest (m2 neD (mPair (mArg oReprE (mCons (mVar 4) mNil)) (mVar 5))))) (mRet (mC (.bl false))) mNx) (mSeq (mIfS (mOr (mNot (mTest (mCall0 F_law_right (mCons (mExcF "NoWriters" (mVar 4)) (mCons (mC (.int 16)) mNil))))) (mTest (m2 neD (mPair (mArg oReprE (mCons (mVar 4) mNil)) (mVar 5))))) (mRet (mC (.bl false))) mNx) (mSeq (mIfS (mOr (mNot (mTest (mCall0 F_law_right (mCons (mExcF "NoWriter" (mVar 4)) (mCons (mC (.int 17)) mNil))))) (mTest (m2 neD (mPair (mArg oReprE (mCons (mVar 4) mNil)) (mVar 5))))) (mRet (mC (.bl false))) mNx) (mSeq (mIfS (mOr (mNot (mTest (mCall0 F_law_right (mCons (mExcF "Open" (mVar 4)) (mCons (mC (.int 18)) mNil))))) (mTest (m2 neD (mPair (mArg oReprE (mCons (mVar 4) mNil)) (mVar 5))))) (mRet (mC (.bl false))) mNx) (mIfS (mTest (m2 neD (mPair (mArg oReprE (mCons (mVar 4) mNil)) (mVar 5)))) (mRet (mC (.bl false))) mNx))))))))) (mRet (mUn (isxD (csX N_errs "ValueError")) (mExc "MadeError")))) (envL sc h x2 none none none)) (wfe [] fun d _ => d = .bl true) := by
  have hb : ∀ {E : Ex → Ip.Env → Prop} {c : Nat} {h : D} {x2 x4 x5 : Option D} {j : Int} (H : HOk c h) (hc : c < 2 ^ 30), wpx E ((mSeq (mSet 4 (mCall1 F_law_value 0 1 (mIo mNil))) (mSeq (mSet 5 (mArg oReprE (mCons (mVar 4) mNil))) (mSeq (mIfS (mOr (mNot (mTest (mCall0 F_law_right (mCons (mExcF "NoPolynomial" (mVar 4)) (mCons (mC (.int 14)) mNil))))) (mTest (m2 neD (mPair (mArg oReprE (mCons (mVar 4) mNil)) (mVar 5))))) (mRet (mC (.bl false))) mNx) (mSeq (mIfS (mOr (mNot (mTest (mCall0 F_law_right (mCons (mExcF "NoList" (mVar 4)) (mCons (mC (.int 15)) mNil))))) (mTest (m2 neD (mPair (mArg oReprE (mCons (mVar 4) mNil)) (mVar 5))))) (mRet (mC (.bl false))) mNx) (mSeq (mIfS (mOr (mNot (mTest (mCall0 F_law_right (mCons (mExcF "NoWriters" (mVar 4)) (mCons (mC (.int 16)) mNil))))) (mTest (m2 neD (mPair (mArg oReprE (mCons (mVar 4) mNil)) (mVar 5))))) (mRet (mC (.bl false))) mNx) (mSeq (mIfS (mOr (mNot (mTest (mCall0 F_law_right (mCons (mExcF "NoWriter" (mVar 4)) (mCons (mC (.int 17)) mNil))))) (mTest (m2 neD (mPair (mArg oReprE (mCons (mVar 4) mNil)) (mVar 5))))) (mRet (mC (.bl false))) mNx) (mSeq (mIfS (mOr (mNot (mTest (mCall0 F_law_right (mCons (mExcF "Open" (mVar 4)) (mCons (mC (.int 18)) mNil))))) (mTest (m2 neD (mPair (mArg oReprE (mCons (mVar 4) mNil)) (mVar 5))))) (mRet (mC (.bl false))) mNx) (mIfS (mTest (m2 neD (mPair (mArg oReprE (mCons (mVar 4) mNil)) (mVar 5)))) (mRet (mC (.bl false))) mNx)))))))) (envL sc h x2 (some (.int j)) x4 x5)) fun fl ρ => (fl = .nx ∨ fl = .ct) ∧ ∃ h' x3 x4 x5, ρ = envL sc h' x2 x3 x4 x5 ∧ HOk (c + 5) h' := by
    intro E c h x2 x4 x5 j H hc
    with_reducible exact body_ok H hc
  revert hb
  with_reducible generalize (mSeq (mSet 4 (mCall1 F_law_value 0 1 (mIo mNil))) (mSeq (mSet 5 (mArg oReprE (mCons (mVar 4) mNil))) (mSeq (mIfS (mOr (mNot (mTest (mCall0 F_law_right (mCons (mExcF "NoPolynomial" (mVar 4)) (mCons (mC (.int 14)) mNil))))) (mTest (m2 neD (mPair (mArg oReprE (mCons (mVar 4) mNil)) (mVar 5))))) (mRet (mC (.bl false))) mNx) (mSeq (mIfS (mOr (mNot (mTest (mCall0 F_law_right (mCons (mExcF "NoList" (mVar 4)) (mCons (mC (.int 15)) mNil))))) (mTest (m2 neD (mPair (mArg oReprE (mCons (mVar 4) mNil)) (mVar 5))))) (mRet (mC (.bl false))) mNx) (mSeq (mIfS (mOr (mNot (mTest (mCall0 F_law_right (mCons (mExcF "NoWriters" (mVar 4)) (mCons (mC (.int 16)) mNil))))) (mTest (m2 neD (mPair (mArg oReprE (mCons (mVar 4) mNil)) (mVar 5))))) (mRet (mC (.bl false))) mNx) (mSeq (mIfS (mOr (mNot (mTest (mCall0 F_law_right (mCons (mExcF "NoWriter" (mVar 4)) (mCons (mC (.int 17)) mNil))))) (mTest (m2 neD (mPair (mArg oReprE (mCons (mVar 4) mNil)) (mVar 5))))) (mRet (mC (.bl false))) mNx) (mSeq (mIfS (mOr (mNot (mTest (mCall0 F_law_right (mCons (mExcF "Open" (mVar 4)) (mCons (mC (.int 18)) mNil))))) (mTest (m2 neD (mPair (mArg oReprE (mCons (mVar 4) mNil)) (mVar 5))))) (mRet (mC (.bl false))) mNx) (mIfS (mTest (m2 neD (mPair (mArg oReprE (mCons (mVar 4) mNil)) (mVar 5)))) (mRet (mC (.bl false))) mNx)))))))) = KB
  intro hb
  and_intros
  refine w_loop (fun i ρ => ∃ h' x3 x4 x5, ρ = envL sc h' x2 x3 x4 x5 ∧ HOk (c + 5 * i) h') ⟨h, _, _, _, rfl, H⟩ ?_ ?_
  · rintro i d ρ hd ⟨h', x3, x4, x5, rfl, H'⟩
    have hi : i < 2 := by
      have := (List.getElem?_eq_some_iff.1 hd).1
      simp at this
      omega
    have ed : d = .int (i : Nat) := by
      rw [List.getElem?_map, List.getElem?_range (show i < Int.toNat 2 from hi)] at hd
      exact (Option.some.inj hd).symm
    subst ed
    refine ⟨_, rfl, ?_⟩
    refine wp_imp (hb (j := (i : Int)) H' (by omega)) ?_
    rintro fl ρ ⟨a, h2, y3, y4, y5, rfl, H2⟩
    exact ⟨a, h2, y3, y4, y5, rfl, by
      have e : c + 5 * (i + 1) = c + 5 * i + 5 := by omega
      rw [e]; exact H2⟩
  rintro ρ ⟨h', x3, x4, x5, rfl, H'⟩
  and_intros
  refine w_exc ?_
  and_intros
  refine o_isx (b := true) (by decide +kernel) ?_
  and_intros
  exact rfl
set_option maxHeartbeats 1000000
open Np (eD tD pD kyD)
theorem falses_n {E : Ex → Ip.Env → Prop} {P : D → Ip.Env → Prop} {sc h : D} {x2 : Option D} {k : Int} {n : Nat} (e : k = (n : Int)) (hn : n < 1000) (w : P (.lst ((List.range n).map fun _ => D.bl false)) (envL sc h x2 none none none)) :
    wpx E (mLc (mArgI asR1 (mCons (mC (.int k)) mNil)) (gNm 6) mYes (mC (.bl false)) [6] (envL sc h x2 none none none)) P := by
  subst e
  with_reducible refine w_mapT (l := List.range n) (fun i : Nat => D.int i) (fun _ => D.bl false) ?_
  and_intros
  refine ⟨?_, by rw [List.length_range]; show n < 2 ^ 24; omega, ?_, ?_⟩
  · rw [Int.toNat_natCast]
  · intro a _
    refine ⟨_, rfl, ?_⟩
    and_intros
    exact ⟨rfl, rfl⟩
  exact w
theorem loop_n {E : Ex → Ip.Env → Prop} {PS : Fl → Ip.Env → Prop} {sc h : D} {FP FQ : FSem} {k : Int} {n : Nat} (e : k = (n : Int)) (hn : n < 1000) (hf : ∀ i, i < n → ∃ c, FP [.int (i : Nat)] = .ok (.exc c) [] ∧ FQ [.exc c, .int (i : Nat)] = .ok (.bl true) []) (w : ∀ x, PS .nx (envL sc h x none none none)) :
    wpx E (mFor (mArgI asR1 (mCons (mC (.int k)) mNil)) (gNm 2) (mIfS (mNot (mTest (mCall0 FQ (mCons (mCall0 FP (mCons (mVar 2) mNil)) (mCons (mVar 2) mNil))))) (mRet (mC (.bl false))) mNx) (envL sc h none none none none)) PS := by
  subst e
  and_intros
  with_reducible refine w_loop (fun _ ρ => ∃ x, ρ = envL sc h x none none none) ⟨_, rfl⟩ ?_ ?_
  · rintro i d ρ hd ⟨x, rfl⟩
    rw [Int.toNat_natCast] at hd
    have hi : i < n := by
      have := (List.getElem?_eq_some_iff.1 hd).1
      simp at this
      omega
    have ed : d = .int (i : Nat) := by
      rw [List.getElem?_map, List.getElem?_range hi] at hd
      exact (Option.some.inj hd).symm
    subst ed
    refine ⟨_, rfl, ?_⟩
    and_intros
    obtain ⟨c, e1, e2⟩ := hf i hi
    refine wf_eq e1 ?_
    and_intros
    refine wf_eq e2 ?_
    and_intros
    exact ⟨_, rfl⟩
  rintro ρ ⟨x, rfl⟩
  exact w x
theorem ne_false : neD (.lst ((List.range 19).map fun _ => D.bl false)) (.lst ((List.range 19).map fun _ => D.bl false)) = some (.bl false) := by kernel_rfl
theorem mid_ok {c : Nat} {sc h : D} {x2 : Option D} (H : HOk c h) (hc : c < 2 ^ 20) :
    wpx (fun e ρ => noF e (outsOf [] ρ)) ((mSeq (mIfS (mTest (m2 neD (mPair (mCall0 F_law_kinds (mCons (mExc "MadeError") mNil)) (mLc (mArgI asR1 (mCons (mC (.int 19)) mNil)) (gNm 6) mYes (mC (.bl false)) [6])))) (mRet (mC (.bl false))) mNx) (mSeq (mFor (mArgI asR1 (mCons (mC (.int 2)) mNil)) (gNm 3) (mSeq (mSet 4 (mCall1 F_law_value 0 1 (mIo mNil))) (mSeq (mSet 5 (mArg oReprE (mCons (mVar 4) mNil))) (mSeq (mIfS (mOr (mNot (mTest (mCall0 F_law_right (mCons (mExcF "NoPolynomial" (mVar 4)) (mCons (mC (.int 14)) mNil))))) (mTest (m2 neD (mPair (mArg oReprE (mCons (mVar 4) mNil)) (mVar 5))))) (mRet (mC (.bl false))) mNx) (mSeq (mIfS (mOr (mNot (mTest (mCall0 F_law_right (mCons (mExcF "NoList" (mVar 4)) (mCons (mC (.int 15)) mNil))))) (mTest (m2 neD (mPair (mArg oReprE (mCons (mVar 4) mNil)) (mVar 5))))) (mRet (mC (.bl false))) mNx) (mSeq (mIfS (mOr (mNot (mTest (mCall0 F_law_right (mCons (mExcF "NoWriters" (mVar 4)) (mCons (mC (.int 16)) mNil))))) (mTest (m2 neD (mPair (mArg oReprE (mCons (mVar 4) mNil)) (mVar 5))))) (mRet (mC (.bl false))) mNx) (mSeq (mIfS (mOr (mNot (mTest (mCall0 F_law_right (mCons (mExcF "NoWriter" (mVar 4)) (mCons (mC (.int 17)) mNil))))) (mTest (m2 neD (mPair (mArg oReprE (mCons (mVar 4) mNil)) (mVar 5))))) (mRet (mC (.bl false))) mNx) (mSeq (mIfS (mOr (mNot (mTest (mCall0 F_law_right (mCons (mExcF "Open" (mVar 4)) (mCons (mC (.int 18)) mNil))))) (mTest (m2 neD (mPair (mArg oReprE (mCons (mVar 4) mNil)) (mVar 5))))) (mRet (mC (.bl false))) mNx) (mIfS (mTest (m2 neD (mPair (mArg oReprE (mCons (mVar 4) mNil)) (mVar 5)))) (mRet (mC (.bl false))) mNx))))))))) (mRet (mUn (isxD (csX N_errs "ValueError")) (mExc "MadeError"))))) (envL sc h x2 none none none)) (wfe [] fun d _ => d = .bl true) := by
  have ht : wpx (fun e ρ => noF e (outsOf [] ρ)) ((mSeq (mFor (mArgI asR1 (mCons (mC (.int 2)) mNil)) (gNm 3) (mSeq (mSet 4 (mCall1 F_law_value 0 1 (mIo mNil))) (mSeq (mSet 5 (mArg oReprE (mCons (mVar 4) mNil))) (mSeq (mIfS (mOr (mNot (mTest (mCall0 F_law_right (mCons (mExcF "NoPolynomial" (mVar 4)) (mCons (mC (.int 14)) mNil))))) (mTest (m2 neD (mPair (mArg oReprE (mCons (mVar 4) mNil)) (mVar 5))))) (mRet (mC (.bl false))) mNx) (mSeq (mIfS (mOr (mNot (mTest (mCall0 F_law_right (mCons (mExcF "NoList" (mVar 4)) (mCons (mC (.int 15)) mNil))))) (mTest (m2 neD (mPair (mArg oReprE (mCons (mVar 4) mNil)) (mVar 5))))) (mRet (mC (.bl false))) mNx) (mSeq (mIfS (mOr (mNot (mTest (mCall0 F_law_right (mCons (mExcF "NoWriters" (mVar 4)) (mCons (mC (.int 16)) mNil))))) (mTest (m2 neD (mPair (mArg oReprE (mCons (mVar 4) mNil)) (mVar 5))))) (mRet (mC (.bl false))) mNx) (mSeq (mIfS (mOr (mNot (mTest (mCall0 F_law_right (mCons (mExcF "NoWriter" (mVar 4)) (mCons (mC (.int 17)) mNil))))) (mTest (m2 neD (mPair (mArg oReprE (mCons (mVar 4) mNil)) (mVar 5))))) (mRet (mC (.bl false))) mNx) (mSeq (mIfS (mOr (mNot (mTest (mCall0 F_law_right (mCons (mExcF "Open" (mVar 4)) (mCons (mC (.int 18)) mNil))))) (mTest (m2 neD (mPair (mArg oReprE (mCons (mVar 4) mNil)) (mVar 5))))) (mRet (mC (.bl false))) mNx) (mIfS (mTest (m2 neD (mPair (mArg oReprE (mCons (mVar 4) mNil)) (mVar 5)))) (mRet (mC (.bl false))) mNx))))))))) (mRet (mUn (isxD (csX N_errs "ValueError")) (mExc "MadeError")))) (envL sc h x2 none none none)) (wfe [] fun d _ => d = .bl true) := by
    with_reducible exact tail_ok H hc
  revert ht
  with_reducible generalize (mSeq (mFor (mArgI asR1 (mCons (mC (.int 2)) mNil)) (gNm 3) (mSeq (mSet 4 (mCall1 F_law_value 0 1 (mIo mNil))) (mSeq (mSet 5 (mArg oReprE (mCons (mVar 4) mNil))) (mSeq (mIfS (mOr (mNot (mTest (mCall0 F_law_right (mCons (mExcF "NoPolynomial" (mVar 4)) (mCons (mC (.int 14)) mNil))))) (mTest (m2 neD (mPair (mArg oReprE (mCons (mVar 4) mNil)) (mVar 5))))) (mRet (mC (.bl false))) mNx) (mSeq (mIfS (mOr (mNot (mTest (mCall0 F_law_right (mCons (mExcF "NoList" (mVar 4)) (mCons (mC (.int 15)) mNil))))) (mTest (m2 neD (mPair (mArg oReprE (mCons (mVar 4) mNil)) (mVar 5))))) (mRet (mC (.bl false))) mNx) (mSeq (mIfS (mOr (mNot (mTest (mCall0 F_law_right (mCons (mExcF "NoWriters" (mVar 4)) (mCons (mC (.int 16)) mNil))))) (mTest (m2 neD (mPair (mArg oReprE (mCons (mVar 4) mNil)) (mVar 5))))) (mRet (mC (.bl false))) mNx) (mSeq (mIfS (mOr (mNot (mTest (mCall0 F_law_right (mCons (mExcF "NoWriter" (mVar 4)) (mCons (mC (.int 17)) mNil))))) (mTest (m2 neD (mPair (mArg oReprE (mCons (mVar 4) mNil)) (mVar 5))))) (mRet (mC (.bl false))) mNx) (mSeq (mIfS (mOr (mNot (mTest (mCall0 F_law_right (mCons (mExcF "Open" (mVar 4)) (mCons (mC (.int 18)) mNil))))) (mTest (m2 neD (mPair (mArg oReprE (mCons (mVar 4) mNil)) (mVar 5))))) (mRet (mC (.bl false))) mNx) (mIfS (mTest (m2 neD (mPair (mArg oReprE (mCons (mVar 4) mNil)) (mVar 5)))) (mRet (mC (.bl false))) mNx))))))))) (mRet (mUn (isxD (csX N_errs "ValueError")) (mExc "MadeError")))) = KT
  intro ht
  have hk : ∃ L : D, F_law_kinds [.exc "MadeError"] = .ok L [] ∧ neD L L = some (.bl false) ∧ ∀ {E : Ex → Ip.Env → Prop} {P : D → Ip.Env → Prop} {sc h : D} {x2 : Option D}, P L (envL sc h x2 none none none) → wpx E ((mLc (mArgI asR1 (mCons (mC (.int 19)) mNil)) (gNm 6) mYes (mC (.bl false)) [6]) (envL sc h x2 none none none)) P := by
    refine ⟨_, kinds_made, ne_false, ?_⟩
    intro E P sc h x2 w
    with_reducible exact falses_n (n := 19) rfl (by decide) w
  revert hk
  with_reducible generalize (mLc (mArgI asR1 (mCons (mC (.int 19)) mNil)) (gNm 6) mYes (mC (.bl false)) [6]) = KL
  with_reducible generalize F_law_kinds = FK
  rintro ⟨L, hk, hn, hl⟩
  and_intros
  refine w_exc ?_
  and_intros
  refine wf_eq hk ?_
  and_intros
  refine hl ?_
  and_intros
  refine o_some hn ?_
  and_intros
  exact ht
theorem first_ok {E : Ex → Ip.Env → Prop} {PS : Fl → Ip.Env → Prop} {sc h : D} (w : ∀ x, PS .nx (envL sc h x none none none)) :
    wpx E ((mFor (mArgI asR1 (mCons (mC (.int 14)) mNil)) (gNm 2) (mIfS (mNot (mTest (mCall0 F_law_right (mCons (mCall0 F_law_plain_error (mCons (mVar 2) mNil)) (mCons (mVar 2) mNil))))) (mRet (mC (.bl false))) mNx)) (envL sc h none none none none)) PS := by
  have hf : ∀ i, i < 14 → ∃ c, F_law_plain_error [.int (i : Nat)] = .ok (.exc c) [] ∧ F_law_right [.exc c, .int (i : Nat)] = .ok (.bl true) [] := fun i hi => by
    obtain ⟨c, e1, e2⟩ := plain_in hi
    exact ⟨c, e1, right_in e2⟩
  with_reducible exact loop_n (n := 14) rfl (by decide) hf w
theorem law_ok {ns : List Int} (hn : ns.length ≤ 63) : wf (F_law [.lst (ns.map D.int)]) fun d _ => d = .bl true := by
  have ht : ∀ {c : Nat} {sc h : D} {x2 : Option D} (H : HOk c h) (hc : c < 2 ^ 20), wpx (fun e ρ => noF e (outsOf [] ρ)) ((mSeq (mIfS (mTest (m2 neD (mPair (mCall0 F_law_kinds (mCons (mExc "MadeError") mNil)) (mLc (mArgI asR1 (mCons (mC (.int 19)) mNil)) (gNm 6) mYes (mC (.bl false)) [6])))) (mRet (mC (.bl false))) mNx) (mSeq (mFor (mArgI asR1 (mCons (mC (.int 2)) mNil)) (gNm 3) (mSeq (mSet 4 (mCall1 F_law_value 0 1 (mIo mNil))) (mSeq (mSet 5 (mArg oReprE (mCons (mVar 4) mNil))) (mSeq (mIfS (mOr (mNot (mTest (mCall0 F_law_right (mCons (mExcF "NoPolynomial" (mVar 4)) (mCons (mC (.int 14)) mNil))))) (mTest (m2 neD (mPair (mArg oReprE (mCons (mVar 4) mNil)) (mVar 5))))) (mRet (mC (.bl false))) mNx) (mSeq (mIfS (mOr (mNot (mTest (mCall0 F_law_right (mCons (mExcF "NoList" (mVar 4)) (mCons (mC (.int 15)) mNil))))) (mTest (m2 neD (mPair (mArg oReprE (mCons (mVar 4) mNil)) (mVar 5))))) (mRet (mC (.bl false))) mNx) (mSeq (mIfS (mOr (mNot (mTest (mCall0 F_law_right (mCons (mExcF "NoWriters" (mVar 4)) (mCons (mC (.int 16)) mNil))))) (mTest (m2 neD (mPair (mArg oReprE (mCons (mVar 4) mNil)) (mVar 5))))) (mRet (mC (.bl false))) mNx) (mSeq (mIfS (mOr (mNot (mTest (mCall0 F_law_right (mCons (mExcF "NoWriter" (mVar 4)) (mCons (mC (.int 17)) mNil))))) (mTest (m2 neD (mPair (mArg oReprE (mCons (mVar 4) mNil)) (mVar 5))))) (mRet (mC (.bl false))) mNx) (mSeq (mIfS (mOr (mNot (mTest (mCall0 F_law_right (mCons (mExcF "Open" (mVar 4)) (mCons (mC (.int 18)) mNil))))) (mTest (m2 neD (mPair (mArg oReprE (mCons (mVar 4) mNil)) (mVar 5))))) (mRet (mC (.bl false))) mNx) (mIfS (mTest (m2 neD (mPair (mArg oReprE (mCons (mVar 4) mNil)) (mVar 5)))) (mRet (mC (.bl false))) mNx))))))))) (mRet (mUn (isxD (csX N_errs "ValueError")) (mExc "MadeError"))))) (envL sc h x2 none none none)) (wfe [] fun d _ => d = .bl true) := by
    intro c sc h x2 H hc
    with_reducible exact mid_ok H hc
  have hF : ∀ {E : Ex → Ip.Env → Prop} {PS : Fl → Ip.Env → Prop} {sc h : D} (w : ∀ x, PS .nx (envL sc h x none none none)), wpx E ((mFor (mArgI asR1 (mCons (mC (.int 14)) mNil)) (gNm 2) (mIfS (mNot (mTest (mCall0 F_law_right (mCons (mCall0 F_law_plain_error (mCons (mVar 2) mNil)) (mCons (mVar 2) mNil))))) (mRet (mC (.bl false))) mNx)) (envL sc h none none none none)) PS := by
    intro E PS sc h w
    with_reducible exact first_ok w
  unfold F_law
  with_reducible refine w_fn ?_
  unfold m_law
  revert ht hF
  with_reducible generalize (mSeq (mIfS (mTest (m2 neD (mPair (mCall0 F_law_kinds (mCons (mExc "MadeError") mNil)) (mLc (mArgI asR1 (mCons (mC (.int 19)) mNil)) (gNm 6) mYes (mC (.bl false)) [6])))) (mRet (mC (.bl false))) mNx) (mSeq (mFor (mArgI asR1 (mCons (mC (.int 2)) mNil)) (gNm 3) (mSeq (mSet 4 (mCall1 F_law_value 0 1 (mIo mNil))) (mSeq (mSet 5 (mArg oReprE (mCons (mVar 4) mNil))) (mSeq (mIfS (mOr (mNot (mTest (mCall0 F_law_right (mCons (mExcF "NoPolynomial" (mVar 4)) (mCons (mC (.int 14)) mNil))))) (mTest (m2 neD (mPair (mArg oReprE (mCons (mVar 4) mNil)) (mVar 5))))) (mRet (mC (.bl false))) mNx) (mSeq (mIfS (mOr (mNot (mTest (mCall0 F_law_right (mCons (mExcF "NoList" (mVar 4)) (mCons (mC (.int 15)) mNil))))) (mTest (m2 neD (mPair (mArg oReprE (mCons (mVar 4) mNil)) (mVar 5))))) (mRet (mC (.bl false))) mNx) (mSeq (mIfS (mOr (mNot (mTest (mCall0 F_law_right (mCons (mExcF "NoWriters" (mVar 4)) (mCons (mC (.int 16)) mNil))))) (mTest (m2 neD (mPair (mArg oReprE (mCons (mVar 4) mNil)) (mVar 5))))) (mRet (mC (.bl false))) mNx) (mSeq (mIfS (mOr (mNot (mTest (mCall0 F_law_right (mCons (mExcF "NoWriter" (mVar 4)) (mCons (mC (.int 17)) mNil))))) (mTest (m2 neD (mPair (mArg oReprE (mCons (mVar 4) mNil)) (mVar 5))))) (mRet (mC (.bl false))) mNx) (mSeq (mIfS (mOr (mNot (mTest (mCall0 F_law_right (mCons (mExcF "Open" (mVar 4)) (mCons (mC (.int 18)) mNil))))) (mTest (m2 neD (mPair (mArg oReprE (mCons (mVar 4) mNil)) (mVar 5))))) (mRet (mC (.bl false))) mNx) (mIfS (mTest (m2 neD (mPair (mArg oReprE (mCons (mVar 4) mNil)) (mVar 5)))) (mRet (mC (.bl false))) mNx))))))))) (mRet (mUn (isxD (csX N_errs "ValueError")) (mExc "MadeError"))))) = KT
  with_reducible generalize (mFor (mArgI asR1 (mCons (mC (.int 14)) mNil)) (gNm 2) (mIfS (mNot (mTest (mCall0 F_law_right (mCons (mCall0 F_law_plain_error (mCons (mVar 2) mNil)) (mCons (mVar 2) mNil))))) (mRet (mC (.bl false))) mNx)) = KF
  intro ht hF
  and_intros
  refine f_use (hand_ok hn) ?_
  rintro h outs ⟨H, rfl⟩
  and_intros
  refine ⟨obj_of H, ?_⟩
  and_intros
  refine hF fun x => ?_
  exact ht H (by decide)
theorem law_holds (ns : List Int) (hn : ns.length ≤ 63) : ∃ outs, F_law [.lst (ns.map D.int)] = .ok (.bl true) outs := by
  obtain ⟨d, outs, e, h⟩ := wf_of (law_ok hn)
  subst h
  exact ⟨outs, e⟩
end Wk01
theorem PySem.Challenge.cw_madeanew_k01_errors_of_the_package_holds : PySem.Challenge.rw_madeanew_k01_errors_of_the_package.Holds := by
  exact Wk01.end_of Wk01.law_holds
