import PyProof.Rows.All
import Wide.All
import OpenK.AllK
import Wide.FinOn
import HandS.EndTab
import HandS.ForExc
import KE.KNestM
import KE.KStateDown
import HandS.Head0
import HandS.Head1
import HandS.Head2
import HandS.ForMost
import KE.KDictKeyed
import KE.KeyNested
import HandS.Lambda
import HandS.ExcInit
import PyProof.InstEq
import PyProof.IsiH_set
import PyProof.IsiNone
import KE.DataEq
import KE.SortData
import HandS.IsInst
import KE.KDictSum
import KE.KDictCopyH
import HandS.CallSlots
import HandS.Flow
import HandS.ExcOwn
import HandS.WordsExc
import HandS.Comp
import HandS.Iter
import KE.GoesMore
import HandS.Zip
import HandS.Walk
import PyProof.SumAny
import HandS.Dict
import HandS.DictComp
import HandS.ExcField
import HandS.TryMany
import HandS.Defaults
import HandS.ListItems
import HandS.CallLocal
import HandS.DictTup
import KE.KItemsList
import HandS.Conv
import PyProof.EqKinds
import KE.KExcIs
import KE.KExcPX
import HandS.ExcValue
import HandS.NoneIn
import PySem.Challenge.RW_boardturns_k00_errors_made
set_option Elab.async false
set_option linter.all false
set_option maxRecDepth 100000
set_option maxHeartbeats 8000000
namespace HX
open PySem PySem.W PyProof.Rows
abbrev R : PySem.W.OpenRow := PySem.W.OpenLaw.row PySem.Challenge.rw_boardturns_k00_errors_made
local macro_rules | `(tactic| o_head $H) => `(tactic| assumption)
theorem preT : R.Holds → R.Holds := by
  intro h
  k_head
def qv : Program := view R.prog [81]
def loose : List PySem.Str := List.flatten ([
  (["BoardError", "BadBarred", "BadBegins", "BadBoard", "BadBox", "BadCell", "BadChange", "BadChoices", "BadCorner", "BadCosts", "BadCovering", "BadDeed", "BadEnds", "BadFloor", "BadForm", "BadGoal", "BadGone", "BadGreat", "BadGround", "BadHeap"] : List PySem.Str),
  (["BadHeights", "BadHigh", "BadKind", "BadLaying", "BadLine", "BadMost", "BadNumber", "BadOne", "BadOrder", "BadOther", "BadOut", "BadPath", "BadPoint", "BadPoints", "BadPrices", "BadQuestion", "BadRing", "BadRoom", "BadRoutes", "BadTable"] : List PySem.Str),
  (["BadText", "BadTie", "BadTies", "BadTold", "BadTree", "BadTriangle", "BadTurn", "BadTurns", "BadWalk", "BadWay", "BadWide", "CommonCell", "InUse", "IsWatched", "NoCount", "NoFlip", "NoLaying", "NoTree", "NotByTurns", "NotCheapest"] : List PySem.Str),
  (["NotNow", "NotPlain", "NotWatched", "WouldChange", "_law_start", "_law_draw", "_law_mixed", "_law_made_a", "_law_made_b", "_law_made_c", "_law_made_d", "_law_kinds_a", "_law_kinds_b", "_law_kinds_c", "_law_kinds_d", "_law_kinds", "_law_is_own", "_law_same", "_law_are_these"] : List PySem.Str)] : List (List PySem.Str))
def objs : List Addr := List.flatten ([
  [2, 3, 15, 22, 23, 24, 25, 28, 35, 37, 38, 40, 41, 42, 43, 44, 47, 54, 56, 57, 59, 60, 61, 62, 63, 66, 73, 75, 76, 78, 79, 80, 81, 82, 85, 92, 94, 95, 97, 98],
  [99, 100, 101, 104, 111, 113, 114, 116, 117, 118, 119, 120, 123, 130, 132, 133, 135, 136, 137, 138, 139, 142, 149, 151, 152, 154, 155, 156, 157, 158, 161, 168, 170, 171, 173, 174, 175, 176, 177, 180],
  [187, 189, 190, 192, 193, 194, 195, 196, 199, 206, 208, 209, 211, 212, 213, 214, 215, 218, 225, 227, 228, 230, 231, 232, 233, 234, 237, 244, 246, 247, 249, 250, 251, 252, 253, 256, 263, 265, 266, 268],
  [269, 270, 271, 272, 275, 282, 284, 285, 287, 288, 289, 290, 291, 294, 301, 303, 304, 306, 307, 308, 309, 310, 313, 320, 322, 323, 325, 326, 327, 328, 329, 332, 339, 341, 342, 344, 345, 346, 347, 348],
  [351, 358, 360, 361, 363, 364, 365, 366, 367, 370, 377, 379, 380, 382, 383, 384, 385, 386, 389, 396, 398, 399, 401, 402, 403, 404, 405, 408, 415, 417, 418, 420, 421, 422, 423, 424, 427, 434, 436, 437],
  [439, 440, 441, 442, 443, 446, 453, 455, 456, 458, 459, 460, 461, 462, 465, 472, 474, 475, 477, 478, 479, 480, 481, 484, 491, 493, 494, 496, 497, 498, 499, 500, 503, 510, 512, 513, 515, 516, 517, 518],
  [519, 522, 529, 531, 532, 534, 535, 536, 537, 538, 541, 548, 550, 551, 553, 554, 555, 556, 557, 560, 567, 569, 570, 572, 573, 574, 575, 576, 579, 586, 588, 589, 591, 592, 593, 594, 595, 598, 605, 607],
  [608, 610, 611, 612, 613, 614, 617, 624, 626, 627, 629, 630, 631, 632, 633, 636, 643, 645, 646, 648, 649, 650, 651, 652, 655, 662, 664, 665, 667, 668, 669, 670, 671, 674, 681, 683, 684, 686, 687, 688],
  [689, 690, 693, 700, 702, 703, 705, 706, 707, 708, 709, 712, 719, 721, 722, 724, 725, 726, 727, 728, 731, 738, 740, 741, 743, 744, 745, 746, 747, 750, 757, 759, 760, 762, 763, 764, 765, 766, 769, 776],
  [778, 779, 781, 782, 783, 784, 785, 788, 795, 797, 798, 800, 801, 802, 803, 804, 807, 814, 816, 817, 819, 820, 821, 822, 823, 826, 833, 835, 836, 838, 839, 840, 841, 842, 845, 852, 854, 855, 857, 858],
  [859, 860, 861, 864, 871, 873, 874, 876, 877, 878, 879, 880, 883, 890, 892, 893, 895, 896, 897, 898, 899, 902, 909, 911, 912, 914, 915, 916, 917, 918, 921, 928, 930, 931, 933, 934, 935, 936, 937, 940],
  [947, 949, 950, 952, 953, 954, 955, 956, 959, 966, 968, 969, 971, 972, 973, 974, 975, 978, 985, 987, 988, 990, 991, 992, 993, 994, 997, 1004, 1006, 1007, 1009, 1010, 1011, 1012, 1013, 1016, 1023, 1025, 1026, 1028],
  [1029, 1030, 1031, 1032, 1035, 1042, 1044, 1045, 1047, 1048, 1049, 1050, 1051, 1054, 1061, 1062, 1063, 1066, 1073, 1074, 1075, 1078, 1085, 1086, 1087, 1090, 1097, 1099, 1100, 1102, 1103, 1104, 1105, 1106, 1109, 1116, 1117, 1118, 1121, 1128],
  [1130, 1131, 1133, 1134, 1135, 1136, 1137, 1140, 1147, 1148, 1149, 1152, 1159, 1161, 1162, 1164, 1165, 1166, 1167, 1168, 1171, 1178, 1180, 1181, 1183, 1184, 1185, 1186, 1187, 1190, 1192, 1193, 1195, 1196, 1197, 1199, 1200, 1202, 1203, 1204],
  [1207, 1208, 1209, 1211, 1212, 1214, 1215, 1216, 1218, 1219, 1221, 1222, 1223, 1225, 1226, 1228, 1229, 1230, 1232, 1233, 1235, 1236, 1237, 1239, 1240, 1242, 1243, 1244, 1246, 1247, 1249, 1250, 1251, 1253, 1254, 1256, 1257, 1258, 1260, 1261],
  [1263, 1264, 1265, 1267, 1268, 1270, 1271, 1272, 1275, 1276, 1277, 1280, 1281, 1282, 1284, 1285, 1287, 1288, 1289, 1291, 1292, 1294, 1295]] : List (List Addr))
def tabs : List Addr := [1231, 1224, 1217, 1210]
/-- what the hook looks at, off the tree -/
def ob (s : SharedT) : List (Option Obj) × List (Option Obj) := (objs.map (HandSHeadRun.getT s), tabs.map (HandSHeadRun.getT s))
end HX
set_option Elab.async false
set_option linter.all false
set_option maxRecDepth 100000
set_option maxHeartbeats 8000000
namespace HX
open PySem PySem.W PySem.Calls PyProof.Rows HandSHeadRun
theorem objs_eq : ∀ P, objs = (preT.heap_1 P).map (·.1) := fun P => by kernel_rfl
theorem run1 (w : World) (os : OsState) : (endF (stepQ (denQ tabQ) (R).prog w) 17000 (R).prog w os).map (fun s => (looksF (R).prog (boot_heap w.params) s.abs, objs.map (getT s), tabs.map (getT s))) = some (true, (preT.heap_1 w.params).map (fun x => some x.2), tabs.map fun _ => some (tabObj #[])) := by kernel_rfl
theorem run2 (w : World) (os : OsState) : (endF (stepQ (denQ tabQ) (R).prog w) 17000 (R).prog w os).map (fun s => seenQ qv loose (importedModules (R).prog.main.body) (fun s => xlAt qv [] s && recOk (R).toRowW.records s) s.abs) = some (openGood qv loose) := by kernel_rfl
theorem run (w : World) (os : OsState) : (endF (stepQ (denQ tabQ) (R).prog w) 17000 (R).prog w os).map (fun s => (looksF (R).prog (boot_heap w.params) s.abs, seenQ qv loose (importedModules (R).prog.main.body) (fun s => xlAt qv [] s && recOk (R).toRowW.records s) s.abs, objs.map (getT s), tabs.map (getT s))) = some (true, openGood qv loose, (preT.heap_1 w.params).map (fun x => some x.2), tabs.map fun _ => some (tabObj #[])) := by
  have h1 := run1 w os
  have h2 := run2 w os
  revert h1 h2
  generalize (endF (stepQ (denQ tabQ) (R).prog w) 17000 (R).prog w os) = x
  intro h1 h2
  cases x with
  | none => cases h1
  | some s =>
    have a := Option.some.inj h1
    have b := Option.some.inj h2
    obtain ⟨a1, a2⟩ := Prod.mk.inj a
    obtain ⟨a2, a3⟩ := Prod.mk.inj a2
    exact congrArg some (Prod.ext a1 (Prod.ext b (Prod.ext a2 a3)))
noncomputable abbrev hk : Hook := kmHook preT.heap_1 objs objs_eq tabs
theorem ob_eq (s : SharedT) : ob s = hk.obs s.abs := by
  show (objs.map (getT s), tabs.map (getT s)) = (objs.map s.abs.heap.get?, tabs.map s.abs.heap.get?)
  rw [List.map_congr_left fun a _ => getT_eq s a, List.map_congr_left fun a _ => getT_eq s a]
theorem runs (w : World) : RunEq R qv hk ob 17000 loose w := fun os => run w os
end HX
set_option Elab.async false
set_option linter.all false
set_option maxRecDepth 100000
namespace B
open PySem PySem.Spec PyProof.Rows L2
/-- pure data; ol, od: a list, a dict that may be changed by whom it belongs to; nk: a dict whose keys are tuples -/
inductive Dat where
  | fn (k : Nat) | non | bl (b : Bool) | int (i : Int) | str (x : Str) | raw (v : V)
  | tup (ds : List Dat) | lst (ds : List Dat) | dic (nk : Bool) (ks vs : List Dat)
  | ol (ds : List Dat) | od (nk : Bool) (ks vs : List Dat)
  | ob (c : Nat) (ds : List Dat)
mutual
def frz : Dat → Dat
  | .fn k => .fn k
  | .non => .non
  | .bl b => .bl b
  | .int i => .int i
  | .str x => .str x
  | .raw v => .raw v
  | .tup ds => .tup (frzs ds)
  | .lst ds => .lst (frzs ds)
  | .dic nk ks vs => .dic nk (frzs ks) (frzs vs)
  | .ol ds => .lst (frzs ds)
  | .od nk ks vs => .dic nk (frzs ks) (frzs vs)
  | .ob c ds => .ob c (frzs ds)
def frzs : List Dat → List Dat
  | [] => []
  | d :: ds => frz d :: frzs ds
end
mutual
/-- nothing in it may be changed -/
def im : Dat → Bool
  | .fn _ => true
  | .non => true
  | .bl _ => true
  | .int _ => true
  | .str _ => true
  | .raw _ => true
  | .tup ds => ims ds
  | .lst _ => true
  | .dic _ _ _ => true
  | .ol _ => false
  | .od _ _ _ => false
  | .ob _ _ => true
def ims : List Dat → Bool
  | [] => true
  | d :: ds => im d && ims ds
end
mutual
/-- the datum as a key of a dict -/
def nkey : Dat → Option NestedKey
  | .non => some .none
  | .bl b => some (.num (if b = true then 1 else 0))
  | .int i => some (.num i)
  | .str x => some (.text x)
  | .tup ds => (nkeys ds).map NestedKey.tup
  | _ => none
def nkeys : List Dat → Option (List NestedKey)
  | [] => some []
  | d :: ds => match nkey d, nkeys ds with
    | some k, some ks => some (k :: ks)
    | _, _ => none
end
/-- the datum as a key of a dict with tuples for keys -/
def tkey : Dat → Option NestedKey
  | .tup ds => match nkeys ds with
    | some ks => if (NestedKey.tup ks).depth ≤ 8 then some (.tup ks) else none
    | none => none
  | _ => none
/-- the lambdas that are told of as data: their name, parameters, body, scope; none captures -/
structure LamI where
  q : Str
  ps : Arguments
  body : Expr
  sc : Scope
class LamT where
  lam : Nat → LamI
  ob : Nat → Addr × List Str := fun _ => (0, [])
/-- a lambda made -/
def lamO (l : LamI) (c a : Addr) : HO := .ext fun h => ∃ pm ct : Value, h.get? a = some (PySem.W.kla_obj "<lambda>" l.q l.ps l.body l.sc [] pm c ct)
variable [LamT]
/-- an object that is a dict with tuples for keys: each key, where its tuple stands, the value -/
def dnO (P : Program) (w : World) (a : Addr) (kvs : List (NestedKey × Addr × V)) : HO := .ext fun h =>
  kvs.length ≤ sizeLine ∧ (a == sysModules) = false ∧ ∃ xs : List (NestedKey × Addr × Value),
    Paired (fun (p : NestedKey × Addr × V) (q : NestedKey × Addr × Value) => p.1 = q.1 ∧ p.2.1 = q.2.1 ∧ RelV p.2.2 q.2.2) kvs xs ∧
    ∃ o es ep, h.get? a = some o ∧ o.ExactDict ∧ o.data = .dict es ep ∧ es.toList = xs.map (entryOfKey (nestedKind P w)) ∧ (xs.map (·.1)).Nodup
mutual
/-- the value v bears the datum d: what is frozen stands in F (a part of H), what is owned at the addresses of the list, in H -/
inductive Ow (P : Program) (w : World) (K : PySem.W.Frag) (F H : Hp) : Dat → V → List Addr → Prop
  | fn {k : Nat} {a c : Addr} : F a = some (lamO (LamT.lam k) c a) → F c = some (LamX.CodeO c (LamT.lam k).q) → Ow P w K F H (.fn k) (.ref a) []
  | non : Ow P w K F H .non .non []
  | bl (b : Bool) : Ow P w K F H (.bl b) (.bl b) []
  | int (i : Int) : Ow P w K F H (.int i) (.int i) []
  | str (x : Str) : Ow P w K F H (.str x) (.str x) []
  | raw (v : V) : Ow P w K F H (.raw v) v []
  | tup {a : Addr} {vs : List V} {ds : List Dat} {S : List Addr} : SqT K F a vs → OwL P w K F H ds vs S → Ow P w K F H (.tup ds) (.ref a) S
  | lst {a : Addr} {vs : List V} {ds : List Dat} : Rd F a (.lst vs) → OwL P w K F H ds vs [] → Ow P w K F H (.lst ds) (.ref a) []
  | ol {a : Addr} {vs : List V} {ds : List Dat} {S : List Addr} : H a = some (.lst vs) → OwL P w K F H ds vs S → Ow P w K F H (.ol ds) (.ref a) (a :: S)
  | dic {a : Addr} {kvs : List (NestedKey × Addr × V)} {ks ds : List Dat} : F a = some (dnO P w a kvs) → KyL P w K F H ks kvs → OwL P w K F H ds (kvs.map (·.2.2)) [] → Ow P w K F H (.dic true ks ds) (.ref a) []
  | od {a : Addr} {kvs : List (NestedKey × Addr × V)} {ks ds : List Dat} {S : List Addr} : H a = some (dnO P w a kvs) → KyL P w K F H ks kvs → OwL P w K F H ds (kvs.map (·.2.2)) S → Ow P w K F H (.od true ks ds) (.ref a) (a :: S)
  | dicK {a : Addr} {kvs : List (Key × V)} {ks ds : List Dat} : F a = some (.dK kvs) → OwL P w K F H ks (kvs.map fun p => kV p.1) [] → OwL P w K F H ds (kvs.map (·.2)) [] → Ow P w K F H (.dic false ks ds) (.ref a) []
  | odK {a : Addr} {kvs : List (Key × V)} {ks ds : List Dat} {S : List Addr} : H a = some (.dK kvs) → OwL P w K F H ks (kvs.map fun p => kV p.1) [] → OwL P w K F H ds (kvs.map (·.2)) S → Ow P w K F H (.od false ks ds) (.ref a) (a :: S)
  | ob {c : Nat} {a d : Addr} {vs : List V} {ds : List Dat} : F a = some (exo a (LamT.ob c).1 (some d)) → F d = some (exd d ((LamT.ob c).2.zip vs)) → vs.length = (LamT.ob c).2.length → OwL P w K F H ds vs [] → Ow P w K F H (.ob c ds) (.ref a) []
  | ob0 {c : Nat} {a : Addr} : F a = some (exo a (LamT.ob c).1 none) → (LamT.ob c).2 = [] → Ow P w K F H (.ob c []) (.ref a) []
inductive OwL (P : Program) (w : World) (K : PySem.W.Frag) (F H : Hp) : List Dat → List V → List Addr → Prop
  | nil : OwL P w K F H [] [] []
  | cons {d : Dat} {v : V} {ds : List Dat} {vs : List V} {S T : List Addr} : Ow P w K F H d v S → OwL P w K F H ds vs T → OwL P w K F H (d :: ds) (v :: vs) (S ++ T)
/-- the keys of a dict with tuples for keys -/
inductive KyL (P : Program) (w : World) (K : PySem.W.Frag) (F H : Hp) : List Dat → List (NestedKey × Addr × V) → Prop
  | nil : KyL P w K F H [] []
  | cons {d : Dat} {k : NestedKey} {a : Addr} {v : V} {ds : List Dat} {kvs : List (NestedKey × Addr × V)} : Ow P w K F H d (.ref a) [] → tkey d = some k → KyL P w K F H ds kvs → KyL P w K F H (d :: ds) ((k, a, v) :: kvs)
end
end B
set_option Elab.async false
set_option linter.all false
set_option maxRecDepth 100000
namespace B
open PySem PySem.Spec PyProof.Rows L2
open Sem (wp)
namespace Fn
theorem slot_ga : Slot "function" "__getattribute__" "object.__getattribute__" :=
  .of (owner := "object") (n := "__getattribute__") (by rw [typeLookup_type, builtinLookup_eq_fast]; kernel_rfl) (by decide +kernel) (by decide +kernel) (by decide +kernel)
    (by first | exact .inl (by decide +kernel) | exact .inr (by decide +kernel)) (by rw [isSubtype_type]; kernel_rfl)
theorem slot_eq : Slot "function" (cmpInfo .Eq).2.1 "object.__eq__" :=
  .of (owner := "object") (n := "__eq__") (by rw [typeLookup_type, builtinLookup_eq_fast]; kernel_rfl) (by decide +kernel) (by decide +kernel) (by decide +kernel)
    (by first | exact .inl (by decide +kernel) | exact .inr (by decide +kernel)) (by rw [isSubtype_type]; kernel_rfl)
theorem lk_class : typeLookup (.type "function") "__class__" = pure (some (.builtin "object.__class__")) := by rw [typeLookup_type, builtinLookup_eq_fast]; kernel_rfl
theorem sub_owner : isSubtype (.type "function") (.type (".".intercalate ("object.__class__".cutAt '.').dropLast)) = pure true := by
  rw [F.owner_object_class, isSubtype_type]; kernel_rfl
section
variable {prog : Program} {w : World} {A : Around} {E : Value → Shared → Prop} {h : Heap} {g : Array GenState} {d : Drawn} {t : Nat} {os : OsState} {a : Addr} {o : Obj}
theorem class_get {R : Result → Shared → Prop} (hx : h.get? a = some o) (hc : o.cls = .type "function") (hq : R (.ok (.ret (.type "function"))) ⟨h, g, d, t, os⟩) :
    codeAny (model prog w) A (.call (.builtin "getset_descriptor.__get__") ⟨[.builtin "object.__class__", .ref a, .type "function"], []⟩) R ⟨h, g, d, t, os⟩ := by
  have hT : (⟨h, g, d, t, os⟩ : Shared).TypeIs (.ref a) "function" := ⟨_, hx, hc⟩
  have hT5 : (⟨h, g, d, t, os⟩ : Shared).TypeIs (.builtin "object.__class__") "getset_descriptor" := F.typeOf_object_class
  have f8 := sub_owner
  refine codeAny_call_builtin F.slot_gs_get.plain F.entry_gs_get (F.slot_gs_get.check _ _ _ _ _ _ _ _ hT5 (F.args_gs_get _ _ _) ?_)
  repeat (any_goals (first | assumption | wp_step))
  refine ⟨Code.quiet_builtin _ (by decide +kernel), codeAny_builtin F.entry_object_class ?_⟩
  repeat (any_goals (first | assumption | wp_step))
theorem class_entry {tk : Tok} {Q : Fin → Shared → Prop} (hx : h.get? a = some o) (hc : o.cls = .type "function") (hq : Q (.done (.ret (.type "function"))) ⟨h, g, d, t, os⟩) :
    wpAny (model prog w) A (Builtin.«object.__getattribute__» ⟨[.ref a, .str "__class__" tk], []⟩) Q E ⟨h, g, d, t, os⟩ := by
  have hT : (⟨h, g, d, t, os⟩ : Shared).TypeIs (.ref a) "function" := ⟨_, hx, hc⟩
  have hT5 : (⟨h, g, d, t, os⟩ : Shared).TypeIs (.builtin "object.__class__") "getset_descriptor" := F.typeOf_object_class
  have f4 := lk_class
  have f5 := F.typeOf_object_class
  have f6 := F.slot_gs_get.lookup
  have f7 := F.slot_gs_set.lookup
  repeat (any_goals (first | assumption | wp_step))
  refine class_get hx hc ?_
  repeat (any_goals (first | assumption | wp_step))
theorem class_call {tk : Tok} {R : Result → Shared → Prop} (hx : h.get? a = some o) (hc : o.cls = .type "function") (hq : R (.ok (.ret (.type "function"))) ⟨h, g, d, t, os⟩) :
    codeAny (model prog w) A (.call (.builtin "object.__getattribute__") ⟨[.ref a, .str "__class__" tk], []⟩) R ⟨h, g, d, t, os⟩ :=
  codeAny_call_builtin slot_ga.plain F.entry_object_getattribute (slot_ga.check _ _ _ _ _ _ _ _ (show (⟨h, g, d, t, os⟩ : Shared).TypeIs (.ref a) "function" from ⟨_, hx, hc⟩) (F.args_object_getattribute_2 _ _) (class_entry hx hc hq))
theorem class_by {tk : Tok} {Q : Value → Shared → Prop} (hx : h.get? a = some o) (hc : o.cls = .type "function") (hq : Q (.type "function") ⟨h, g, d, t, os⟩) : wpAny (model prog w) A (getAttrBy (.ref a) (.str "__class__" tk) false) Q E ⟨h, g, d, t, os⟩ := by
  have hT : (⟨h, g, d, t, os⟩ : Shared).TypeIs (.ref a) "function" := ⟨_, hx, hc⟩
  have f2 := slot_ga.lookup
  have f3 := slot_ga.bind (.ref a)
  repeat (any_goals (first | assumption | wp_step))
  refine class_call hx hc ?_
  repeat (any_goals (first | assumption | wp_step))
theorem class_attr {Q : Option Value → Shared → Prop} (hx : h.get? a = some o) (hc : o.cls = .type "function") (hq : Q (some (.type "function")) ⟨h, g, d, t + 1, os⟩) : wpAny (model prog w) A (getAttr? (.ref a) "__class__") Q E ⟨h, g, d, t, os⟩ := by
  unfold getAttr? getAttrBy?
  repeat (any_goals (first | assumption | with_reducible apply class_by hx hc | wp_step))
theorem rich_eq {Q : Value → Shared → Prop} (hx : h.get? a = some o) (hc : o.cls = .type "function") (hu : A.units < cLine) (hq : Q (.bool true) ⟨h, g, d, t, os⟩) :
    wpAny (model prog w) A (compareOp .Eq (.ref a) (.ref a)) Q E ⟨h, g, d, t, os⟩ := by
  have hT : (⟨h, g, d, t, os⟩ : Shared).TypeIs (.ref a) "function" := ⟨_, hx, hc⟩
  exact wpAny_richCompare_same_room (op := .Eq) hT hT slot_eq (wpAny_call_entry slot_eq hT F.cmpEntry_eq (objEq_entry_same ⟨_, rfl, (by intro e; cases e), hq⟩) (F.cmpArgs_eq _ _)) hu
end
theorem kitx_fun {K : PySem.W.Frag} {a : Addr} : PySem.W.KitX K (.ref a) (.type "function") (PySem.W.KitAt a "function") := PySem.W.kitx_of PySem.W.kitAt_ty (fun {_ _ _ _ _ s} p k => by obtain ⟨h, g, d, t, os⟩ := s; obtain ⟨o, h1, h2⟩ := p; exact class_attr h1 h2 k)
end Fn
end B
set_option Elab.async false
set_option linter.all false
set_option maxRecDepth 100000
namespace B
open PySem PySem.Spec PyProof.Rows L2
variable [LamT]
section
variable {P : Program} {w : World} {K : PySem.W.Frag} {F F' H H' : Hp}
theorem Rd.mono {a : Addr} {u : HO} (hF : ∀ a o, F a = some o → F' a = some o) (h : Rd F a u) : Rd F' a u := by
  rcases h with h | ⟨o, h⟩
  · exact .inl (hF _ _ h)
  · exact .inr ⟨o, hF _ _ h⟩
theorem SqL.mono {a : Addr} {vs : List V} (hF : ∀ a o, F a = some o → F' a = some o) (h : SqL K F a vs) : SqL K F' a vs := by
  rcases h with (h | ⟨o, h⟩) | h
  · exact .inl (.inl (hF _ _ h))
  · exact .inl (.inr ⟨o, hF _ _ h⟩)
  · exact .inr h
theorem SqT.mono {a : Addr} {vs : List V} (hF : ∀ a o, F a = some o → F' a = some o) (h : SqT K F a vs) : SqT K F' a vs := by
  rcases h with (h | ⟨o, h⟩) | h
  · exact .inl (.inl (hF _ _ h))
  · exact .inl (.inr ⟨o, hF _ _ h⟩)
  · exact .inr h
mutual
theorem Ow.mono (hF : ∀ a o, F a = some o → F' a = some o) : ∀ {d : Dat} {v : V} {S : List Addr}, Ow P w K F H d v S → (∀ a ∈ S, H' a = H a) → Ow P w K F' H' d v S
  | _, _, _, .non, _ => .non
  | _, _, _, .bl b, _ => .bl b
  | _, _, _, .int i, _ => .int i
  | _, _, _, .str x, _ => .str x
  | _, _, _, .raw v, _ => .raw v
  | _, _, _, .ob h c e l, hH => .ob (hF _ _ h) (hF _ _ c) e (OwL.mono hF l hH)
  | _, _, _, .ob0 h e, _ => .ob0 (hF _ _ h) e
  | _, _, _, .fn h c, _ => .fn (hF _ _ h) (hF _ _ c)
  | _, _, _, .tup h l, hH => .tup (SqT.mono hF h) (OwL.mono hF l hH)
  | _, _, _, .lst h l, hH => .lst (Rd.mono hF h) (OwL.mono hF l hH)
  | _, _, _, .ol h l, hH => .ol ((hH _ List.mem_cons_self).trans h) (OwL.mono hF l fun a ha => hH a (List.mem_cons_of_mem _ ha))
  | _, _, _, .dic h k l, hH => .dic (hF _ _ h) (KyL.mono hF k) (OwL.mono hF l hH)
  | _, _, _, .od h k l, hH => .od ((hH _ List.mem_cons_self).trans h) (KyL.mono hF k) (OwL.mono hF l fun a ha => hH a (List.mem_cons_of_mem _ ha))
  | _, _, _, .dicK h k l, hH => .dicK (hF _ _ h) (OwL.mono hF k fun _ q => nomatch q) (OwL.mono hF l hH)
  | _, _, _, .odK h k l, hH => .odK ((hH _ List.mem_cons_self).trans h) (OwL.mono hF k fun _ q => nomatch q) (OwL.mono hF l fun a ha => hH a (List.mem_cons_of_mem _ ha))
theorem OwL.mono (hF : ∀ a o, F a = some o → F' a = some o) : ∀ {ds : List Dat} {vs : List V} {S : List Addr}, OwL P w K F H ds vs S → (∀ a ∈ S, H' a = H a) → OwL P w K F' H' ds vs S
  | _, _, _, .nil, _ => .nil
  | _, _, _, .cons h l, hH => .cons (Ow.mono hF h fun a ha => hH a (List.mem_append_left _ ha)) (OwL.mono hF l fun a ha => hH a (List.mem_append_right _ ha))
theorem KyL.mono (hF : ∀ a o, F a = some o → F' a = some o) : ∀ {ks : List Dat} {kvs : List (NestedKey × Addr × V)}, KyL P w K F H ks kvs → KyL P w K F' H' ks kvs
  | _, _, .nil => .nil
  | _, _, .cons h e l => .cons (Ow.mono hF h fun _ q => nomatch q) e (KyL.mono hF l)
end
theorem OwL.length : ∀ {ds : List Dat} {vs : List V} {S : List Addr}, OwL P w K F H ds vs S → ds.length = vs.length
  | _, _, _, .nil => rfl
  | _, _, _, .cons _ l => by rw [List.length_cons, List.length_cons, OwL.length l]
mutual
theorem Ow.im_nil : ∀ {d : Dat} {v : V} {S : List Addr}, Ow P w K F H d v S → im d = true → S = []
  | _, _, _, .non, _ => rfl
  | _, _, _, .bl b, _ => rfl
  | _, _, _, .int i, _ => rfl
  | _, _, _, .str x, _ => rfl
  | _, _, _, .raw v, _ => rfl
  | _, _, _, .ob _ _ _ _, _ => rfl
  | _, _, _, .ob0 _ _, _ => rfl
  | _, _, _, .fn _ _, _ => rfl
  | _, _, _, .tup h l, e => OwL.im_nil l (by simpa [im] using e)
  | _, _, _, .lst h l, _ => rfl
  | _, _, _, .ol h l, e => by simp [im] at e
  | _, _, _, .dic h k l, _ => rfl
  | _, _, _, .od h k l, e => by simp [im] at e
  | _, _, _, .dicK h k l, _ => rfl
  | _, _, _, .odK h k l, e => by simp [im] at e
theorem OwL.im_nil : ∀ {ds : List Dat} {vs : List V} {S : List Addr}, OwL P w K F H ds vs S → ims ds = true → S = []
  | _, _, _, .nil, _ => rfl
  | _, _, _, .cons h l, e => by
    rw [ims, Bool.and_eq_true] at e
    rw [Ow.im_nil h e.1, OwL.im_nil l e.2, List.append_nil]
end
/-- F with what stands in H at the addresses S -/
def putF (F H : Hp) (S : List Addr) : Hp := fun a => if a ∈ S then H a else F a
theorem putF_in {S : List Addr} {a : Addr} (h : a ∈ S) : putF F H S a = H a := if_pos h
theorem putF_out {S : List Addr} {a : Addr} (h : a ∉ S) : putF F H S a = F a := if_neg h
theorem putF_ext {S : List Addr} (hn : ∀ a ∈ S, F a = none) : ∀ a o, F a = some o → putF F H S a = some o := fun a o e => by
  have : a ∉ S := fun hm => by rw [hn a hm] at e; cases e
  rw [putF_out this]; exact e
mutual
theorem nkey_frz : ∀ d : Dat, ∀ k, nkey d = some k → nkey (frz d) = some k
  | .non, _, h => h
  | .bl _, _, h => h
  | .int _, _, h => h
  | .str _, _, h => h
  | .raw _, _, h => h
  | .fn _, _, h => h
  | .tup ds, k, h => by
    rw [nkey] at h
    cases e : nkeys ds with
    | none => rw [e] at h; cases h
    | some ks => rw [e] at h; rw [frz, nkey, nkeys_frz ds ks e]; exact h
  | .lst _, _, h => by cases h
  | .dic _ _ _, _, h => by cases h
  | .ol _, _, h => by cases h
  | .od _ _ _, _, h => by cases h
  | .ob _ _, _, h => by cases h
theorem nkeys_frz : ∀ ds : List Dat, ∀ ks, nkeys ds = some ks → nkeys (frzs ds) = some ks
  | [], _, h => h
  | d :: ds, ks, h => by
    rw [nkeys] at h
    cases e1 : nkey d with
    | none => rw [e1] at h; simp at h
    | some k =>
      cases e2 : nkeys ds with
      | none => rw [e1, e2] at h; simp at h
      | some ks' => rw [e1, e2] at h; rw [frzs, nkeys, nkey_frz d k e1, nkeys_frz ds ks' e2]; exact h
end
theorem tkey_frz : ∀ d k, tkey d = some k → tkey (frz d) = some k
  | .non, _, h => h
  | .bl _, _, h => h
  | .int _, _, h => h
  | .str _, _, h => h
  | .raw _, _, h => h
  | .fn _, _, h => h
  | .tup ds, k, h => by
    rw [tkey] at h
    cases e : nkeys ds with
    | none => rw [e] at h; cases h
    | some ks => rw [e] at h; rw [frz, tkey, nkeys_frz ds ks e]; exact h
  | .lst _, _, h => by cases h
  | .dic _ _ _, _, h => by cases h
  | .ol _, _, h => by cases h
  | .od _ _ _, _, h => by cases h
  | .ob _ _, _, h => by cases h
mutual
theorem Ow.freeze {Z : List Addr} (hn : ∀ a ∈ Z, F a = none) : ∀ {d : Dat} {v : V} {S : List Addr}, Ow P w K F H d v S → (∀ a ∈ S, a ∈ Z) → Ow P w K (putF F H Z) H (frz d) v []
  | _, _, _, .non, _ => .non
  | _, _, _, .bl b, _ => .bl b
  | _, _, _, .int i, _ => .int i
  | _, _, _, .str x, _ => .str x
  | _, _, _, .raw v, _ => .raw v
  | _, _, _, .ob h c e l, hs => .ob (putF_ext hn _ _ h) (putF_ext hn _ _ c) e (OwL.freeze hn l hs)
  | _, _, _, .ob0 h e, _ => .ob0 (putF_ext hn _ _ h) e
  | _, _, _, .fn h c, _ => .fn (putF_ext hn _ _ h) (putF_ext hn _ _ c)
  | _, _, _, .tup h l, hs => .tup (SqT.mono (putF_ext hn) h) (OwL.freeze hn l hs)
  | _, _, _, .lst h l, hs => .lst (Rd.mono (putF_ext hn) h) (OwL.freeze hn l hs)
  | _, _, _, .ol h l, hs => .lst (.inl ((putF_in (hs _ List.mem_cons_self)).trans h)) (OwL.freeze hn l fun a ha => hs a (List.mem_cons_of_mem _ ha))
  | _, _, _, .dic h k l, hs => .dic (putF_ext hn _ _ h) (KyL.freeze hn k) (OwL.freeze hn l hs)
  | _, _, _, .od h k l, hs => .dic ((putF_in (hs _ List.mem_cons_self)).trans h) (KyL.freeze hn k) (OwL.freeze hn l fun a ha => hs a (List.mem_cons_of_mem _ ha))
  | _, _, _, .dicK h k l, hs => .dicK (putF_ext hn _ _ h) (OwL.freeze hn k fun _ q => nomatch q) (OwL.freeze hn l hs)
  | _, _, _, .odK h k l, hs => .dicK ((putF_in (hs _ List.mem_cons_self)).trans h) (OwL.freeze hn k fun _ q => nomatch q) (OwL.freeze hn l fun a ha => hs a (List.mem_cons_of_mem _ ha))
theorem OwL.freeze {Z : List Addr} (hn : ∀ a ∈ Z, F a = none) : ∀ {ds : List Dat} {vs : List V} {S : List Addr}, OwL P w K F H ds vs S → (∀ a ∈ S, a ∈ Z) → OwL P w K (putF F H Z) H (frzs ds) vs []
  | _, _, _, .nil, _ => .nil
  | _, _, _, .cons h l, hs => .cons (S := []) (T := []) (Ow.freeze hn h fun a ha => hs a (List.mem_append_left _ ha)) (OwL.freeze hn l fun a ha => hs a (List.mem_append_right _ ha))
theorem KyL.freeze {Z : List Addr} (hn : ∀ a ∈ Z, F a = none) : ∀ {ks : List Dat} {kvs : List (NestedKey × Addr × V)}, KyL P w K F H ks kvs → KyL P w K (putF F H Z) H (frzs ks) kvs
  | _, _, .nil => .nil
  | _, _, .cons h e l => .cons (Ow.freeze hn h fun _ q => nomatch q) (tkey_frz _ _ e) (KyL.freeze hn l)
end
end
end B
set_option Elab.async false
set_option linter.all false
set_option maxRecDepth 100000
namespace B
open PySem PySem.Spec PyProof.Rows L2
abbrev Ev := List (Option Dat)
inductive EnvR [LamT] (P : Program) (w : World) (K : PySem.W.Frag) (F H : Hp) : L2.St → Ev → List Addr → Prop
  | nil : EnvR P w K F H [] [] []
  | no {x : Option V} {σ : L2.St} {ρ : Ev} {S : List Addr} : EnvR P w K F H σ ρ S → EnvR P w K F H (x :: σ) (none :: ρ) S
  | so {v : V} {d : Dat} {σ : L2.St} {ρ : Ev} {S T : List Addr} : Ow P w K F H d v S → EnvR P w K F H σ ρ T → EnvR P w K F H (some v :: σ) (some d :: ρ) (S ++ T)
/-- the tables of code objects that lambdas are entered in -/
class TabT extends LamT where
  tabs : List (Addr × Str)
  fns : List Addr
/-- functions told of as data -/
def FnsOk [TabT] (K : PySem.W.Frag) : Prop := ∀ f ∈ TabT.fns, ∃ o, K.lookup f = some o ∧ o.cls = .type "function"
/-- it stands there, and is no table -/
def There (H : Hp) (a : Addr) : Prop := ∃ o, H a = some o ∧ ∀ ps, o ≠ HO.tbl ps
/-- it stands there, is no table and no code object -/
def Thr (H : Hp) (a : Addr) : Prop := ∃ o, H a = some o ∧ (∀ ps, o ≠ HO.tbl ps) ∧ ∀ q, o ≠ LamX.CodeO a q
theorem Thr.there {H : Hp} {a : Addr} (t : Thr H a) : There H a := let ⟨o, e, n, _⟩ := t; ⟨o, e, n⟩
def NoTbl (F : Hp) : Prop := ∀ a ps, F a ≠ some (HO.tbl ps)
variable [TabT]
/-- F grows, the owned ones are others: what was there and not owned stays -/
structure Step (F : Hp) (S : List Addr) (H F' : Hp) (S' : List Addr) (H' : Hp) : Prop where
  fsub : ∀ a o, F a = some o → F' a = some o
  fnew : ∀ a o, F' a = some o → F a = some o ∨ ¬ There H a ∨ a ∈ S ∨ ((∃ q, o = LamX.CodeO a q) ∧ H a = some o)
  snew : ∀ a ∈ S', a ∈ S ∨ ¬ There H a
  keep : ∀ a o, H a = some o → a ∉ S → (∀ ps, o ≠ HO.tbl ps) → H' a = some o
  there : ∀ a, There H a → There H' a
  tabs : LamX.Tabs TabT.tabs H → LamX.Tabs TabT.tabs H'
  fnt : NoTbl F → NoTbl F'
theorem Step.refl {F H : Hp} {S : List Addr} : Step F S H F S H := ⟨fun _ _ e => e, fun _ _ e => .inl e, fun _ h => .inl h, fun _ _ e _ _ => e, fun _ h => h, fun t => t, fun t => t⟩
theorem Step.trans {F F1 F2 H H1 H2 : Hp} {S S1 S2 : List Addr} (a : Step F S H F1 S1 H1) (b : Step F1 S1 H1 F2 S2 H2) : Step F S H F2 S2 H2 where
  fsub := fun x o e => b.fsub x o (a.fsub x o e)
  fnew := fun x o e => by
    rcases b.fnew x o e with h | h | h | ⟨hq, h⟩
    · exact a.fnew x o h
    · exact .inr (.inl fun t => h (a.there x t))
    · rcases a.snew x h with h | h
      · exact .inr (.inr (.inl h))
      · exact .inr (.inl h)
    · by_cases hS : x ∈ S
      · exact .inr (.inr (.inl hS))
      · by_cases t : There H x
        · obtain ⟨o', e', n'⟩ := t
          rw [a.keep x o' e' hS n'] at h
          exact .inr (.inr (.inr ⟨hq, by rw [e']; exact h⟩))
        · exact .inr (.inl t)
  snew := fun x h => by
    rcases b.snew x h with h | h
    · exact a.snew x h
    · exact .inr fun t => h (a.there x t)
  keep := fun x o e hx ht => b.keep x o (a.keep x o e hx ht) (fun hm => by
    rcases a.snew x hm with h | h
    · exact hx h
    · exact h ⟨o, e, ht⟩) ht
  there := fun x t => b.there x (a.there x t)
  tabs := fun t => b.tabs (a.tabs t)
  fnt := fun t => b.fnt (a.fnt t)
theorem not_there {H : Hp} {a : Addr} (h : H a = none) : ¬ There H a := fun ⟨o, e, _⟩ => by rw [h] at e; cases e
theorem Step.less {F F1 H H1 : Hp} {S S1 S2 : List Addr} (a : Step F S H F1 S1 H1) (h : ∀ x ∈ S2, x ∈ S1) : Step F S H F1 S2 H1 :=
  ⟨a.fsub, a.fnew, fun x hx => a.snew x (h x hx), a.keep, a.there, a.tabs, a.fnt⟩
theorem Step.more {F F1 H H1 : Hp} {S S1 S2 : List Addr} (a : Step F S H F1 S1 H1) (h : ∀ x ∈ S, x ∈ S2) : Step F S2 H F1 S1 H1 :=
  ⟨a.fsub, fun x o e => (a.fnew x o e).imp_right fun q => q.imp_right fun q => q.imp_left (h x), fun x hx => (a.snew x hx).imp_left (h x), fun x o e hx => a.keep x o e fun q => hx (h x q), a.there, a.tabs, a.fnt⟩
/-- with more that is owned beside, of which nothing changes -/
theorem Step.beside {F F1 H H1 : Hp} {S S1 R : List Addr} (a : Step F S H F1 S1 H1) : Step F (S ++ R) H F1 (S1 ++ R) H1 :=
  ⟨a.fsub, fun x o e => (a.fnew x o e).imp_right fun q => q.imp_right fun q => q.imp_left (List.mem_append_left _), fun x hx => by
    rcases List.mem_append.mp hx with hx | hx
    · exact (a.snew x hx).imp_left (List.mem_append_left _)
    · exact .inl (List.mem_append_right _ hx), fun x o e hx => a.keep x o e fun q => hx (List.mem_append_left _ q), a.there, a.tabs, a.fnt⟩
section
variable {P : Program} {w : World} {K : PySem.W.Frag} {F F' H H' : Hp} {σ : L2.St} {ρ : Ev} {S T : List Addr}
theorem EnvR.length (e : EnvR P w K F H σ ρ S) : σ.length = ρ.length := by
  induction e with
  | nil => rfl
  | no _ ih => rw [List.length_cons, List.length_cons, ih]
  | so _ _ ih => rw [List.length_cons, List.length_cons, ih]
theorem EnvR.mono (hF : ∀ a o, F a = some o → F' a = some o) (e : EnvR P w K F H σ ρ S) (hH : ∀ a ∈ S, H' a = H a) : EnvR P w K F' H' σ ρ S := by
  induction e with
  | nil => exact .nil
  | no _ ih => exact .no (ih hH)
  | so h _ ih => exact .so (Ow.mono hF h fun a ha => hH a (List.mem_append_left _ ha)) (ih fun a ha => hH a (List.mem_append_right _ ha))
theorem EnvR.at (e : EnvR P w K F H σ ρ S) : ∀ {i : Nat}, i < ρ.length → ∃ S1 R, S.Perm (S1 ++ R) ∧ (∀ d, ρ[i]? = some (some d) → ∃ v, σ[i]? = some (some v) ∧ Ow P w K F H d v S1) ∧
    ∀ F' H', (∀ a o, F a = some o → F' a = some o) → (∀ a ∈ R, H' a = H a) → (∀ x, EnvR P w K F' H' (σ.set i x) (ρ.set i none) R) ∧
      ∀ d' v' T, Ow P w K F' H' d' v' T → ∃ S2, EnvR P w K F' H' (σ.set i (some v')) (ρ.set i (some d')) S2 ∧ S2.Perm (T ++ R) := by
  induction e with
  | nil => intro i hi; simp at hi
  | @no x σ ρ S e ih =>
    intro i hi
    cases i with
    | zero =>
      refine ⟨[], S, List.Perm.refl _, fun d q => by simp at q, fun F' H' hF hH => ⟨fun x => .no (e.mono hF hH), fun d' v' T o => ⟨T ++ S, .so o (e.mono hF hH), List.Perm.refl _⟩⟩⟩
    | succ i =>
      obtain ⟨S1, R, p, g, u⟩ := ih (i := i) (by simpa using hi)
      refine ⟨S1, R, p, fun d q => by simpa using g d (by simpa using q), fun F' H' hF hH => ⟨fun x => .no ((u F' H' hF hH).1 x), fun d' v' T o => ?_⟩⟩
      obtain ⟨S2, e2, p2⟩ := (u F' H' hF hH).2 d' v' T o
      exact ⟨S2, .no e2, p2⟩
  | @so v d σ ρ S T h e ih =>
    intro i hi
    cases i with
    | zero =>
      refine ⟨S, T, List.Perm.refl _, fun d' q => ⟨v, by simp, ?_⟩, fun F' H' hF hH => ⟨fun x => .no (e.mono hF hH), fun d' v' T' o => ⟨T' ++ T, .so o (e.mono hF hH), List.Perm.refl _⟩⟩⟩
      simp at q
      rw [← q]; exact h
    | succ i =>
      obtain ⟨S1, R, p, g, u⟩ := ih (i := i) (by simpa using hi)
      have pp : (S ++ T).Perm (S1 ++ (S ++ R)) := by
        refine (List.Perm.append_left S p).trans ?_
        rw [← List.append_assoc, ← List.append_assoc]
        exact List.Perm.append_right R List.perm_append_comm
      refine ⟨S1, S ++ R, pp, fun d' q => by simpa using g d' (by simpa using q), fun F' H' hF hH => ?_⟩
      have hS := Ow.mono (H' := H') hF h fun a ha => hH a (List.mem_append_left _ ha)
      have hR := u F' H' hF fun a ha => hH a (List.mem_append_right _ ha)
      refine ⟨fun x => .so hS (hR.1 x), fun d' v' T' o => ?_⟩
      obtain ⟨S2, e2, p2⟩ := hR.2 d' v' T' o
      refine ⟨S ++ S2, .so hS e2, (List.Perm.append_left S p2).trans ?_⟩
      rw [← List.append_assoc, ← List.append_assoc]
      exact List.Perm.append_right R List.perm_append_comm
/-- the state: the slots bear ρ, owned at S, each once, nothing of it frozen -/
structure Good (P : Program) (w : World) (K : PySem.W.Frag) (F H : Hp) (σ : L2.St) (ρ : Ev) (S : List Addr) : Prop where
  sub : ∀ a o, F a = some o → H a = some o
  env : EnvR P w K F H σ ρ S
  nd : S.Nodup
  fr : ∀ a ∈ S, F a = none
  tab : LamX.Tabs TabT.tabs H
  nt : NoTbl F
theorem Good.get (g : Good P w K F H σ ρ S) {i : Nat} {d : Dat} (h : ρ[i]? = some (some d)) : ∃ v S1, σ[i]? = some (some v) ∧ Ow P w K F H d v S1 ∧ ∀ a ∈ S1, a ∈ S := by
  obtain ⟨S1, R, p, q, _⟩ := g.env.at (i := i) (by
    have := List.getElem?_eq_some_iff.mp h
    exact this.1)
  obtain ⟨v, h1, h2⟩ := q d h
  exact ⟨v, S1, h1, h2, fun a ha => p.mem_iff.mpr (List.mem_append_left _ ha)⟩
theorem Good.getIm (g : Good P w K F H σ ρ S) {i : Nat} {d : Dat} (h : ρ[i]? = some (some d)) (hi : im d = true) : ∃ v, σ[i]? = some (some v) ∧ Ow P w K F H d v [] := by
  obtain ⟨v, S1, h1, h2, _⟩ := g.get h
  have := h2.im_nil hi
  subst this
  exact ⟨v, h1, h2⟩
theorem Good.ext (g : Good P w K F H σ ρ S) (hF : ∀ a o, F a = some o → F' a = some o) (hs : ∀ a o, F' a = some o → H' a = some o) (hH : ∀ a ∈ S, H' a = H a) (hn : ∀ a ∈ S, F' a = none) (ht : LamX.Tabs TabT.tabs H') (hnt : NoTbl F') : Good P w K F' H' σ ρ S :=
  ⟨hs, g.env.mono hF hH, g.nd, hn, ht, hnt⟩
theorem heap_of_size (o : Obj) : ∀ n : Nat, ∃ h : Heap, h.objs.size = n ∧ ∀ b, b < n → (h.get? b).isSome = true → True := fun n => by
  induction n with
  | zero => exact ⟨⟨#[], {}⟩, rfl, fun _ _ _ => trivial⟩
  | succ n ih =>
    obtain ⟨h, e, _⟩ := ih
    exact ⟨h.push o, by rw [Heap.size_push, e], fun _ _ _ => trivial⟩
theorem dnO_ne_code {P : Program} {w : World} {a : Addr} {kvs : List (NestedKey × Addr × V)} {q : Str} : dnO P w a kvs ≠ LamX.CodeO a q := fun z => by
  unfold dnO LamX.CodeO at z
  injection z with z
  obtain ⟨h, e, _⟩ := heap_of_size default a
  have hg : (h.push { cls := .none, data := .fields #[.none, .str q 0] }).get? a = some { cls := .none, data := .fields #[.none, .str q 0] } := by
    rw [← e]; exact Heap.get?_push_size _ rfl
  have h2 : (fun h : Heap => ∃ (oc : Obj) (vs : Array Value) (t : Tok), h.get? a = some oc ∧ oc.data = .fields vs ∧ vs[1]? = some (.str q t)) (h.push { cls := .none, data := .fields #[.none, .str q 0] }) := ⟨_, _, 0, hg, rfl, rfl⟩
  rw [← z] at h2
  obtain ⟨_, _, xs, _, o, es, ep, h3, h4, h5, _⟩ := h2
  rw [hg] at h3
  cases h3
  cases h5
theorem dnO_ne_codeA {P : Program} {w : World} {a : Addr} {kvs : List (NestedKey × Addr × V)} {q : Str} : dnO P w a kvs ≠ LamX.CodeO a q := dnO_ne_code
theorem lst_tc {a : Addr} {vs : List V} : (∀ ps, HO.lst vs ≠ HO.tbl ps) ∧ ∀ q, HO.lst vs ≠ LamX.CodeO a q := ⟨(fun _ z => by cases z), fun _ z => by unfold LamX.CodeO at z; cases z⟩
theorem tup_tc {a : Addr} {vs : List V} : (∀ ps, HO.tup vs ≠ HO.tbl ps) ∧ ∀ q, HO.tup vs ≠ LamX.CodeO a q := ⟨(fun _ z => by cases z), fun _ z => by unfold LamX.CodeO at z; cases z⟩
theorem dn_tc {P : Program} {w : World} {a : Addr} {kvs : List (NestedKey × Addr × V)} : (∀ ps, dnO P w a kvs ≠ HO.tbl ps) ∧ ∀ q, dnO P w a kvs ≠ LamX.CodeO a q := ⟨(fun _ z => by unfold dnO at z; cases z), fun _ => dnO_ne_code⟩
mutual
theorem Ow.inH : ∀ {d : Dat} {v : V} {S : List Addr}, Ow P w K F H d v S → ∀ a, a ∈ S → Thr H a
  | _, _, _, .non, _, hx => nomatch hx
  | _, _, _, .bl b, _, hx => nomatch hx
  | _, _, _, .int i, _, hx => nomatch hx
  | _, _, _, .str x, _, hx => nomatch hx
  | _, _, _, .raw v, _, hx => nomatch hx
  | _, _, _, .ob _ _ _ _, _, hx => nomatch hx
  | _, _, _, .ob0 _ _, _, hx => nomatch hx
  | _, _, _, .fn _ _, _, hx => nomatch hx
  | _, _, _, .tup h l, a, hx => OwL.inH l a hx
  | _, _, _, .lst h l, _, hx => nomatch hx
  | _, _, _, .ol h l, a, hx => (List.mem_cons.mp hx).elim (fun e => ⟨_, e ▸ h, (fun _ z => by cases z), fun _ z => by unfold LamX.CodeO at z; cases z⟩) fun hx => OwL.inH l a hx
  | _, _, _, .dic h k l, _, hx => nomatch hx
  | _, _, _, .od h k l, a, hx => (List.mem_cons.mp hx).elim (fun e => ⟨_, e ▸ h, (fun _ z => by unfold dnO at z; cases z), fun _ z => dnO_ne_codeA (e ▸ z)⟩) fun hx => OwL.inH l a hx
  | _, _, _, .dicK h k l, _, hx => nomatch hx
  | _, _, _, .odK h k l, a, hx => (List.mem_cons.mp hx).elim (fun e => ⟨_, e ▸ h, (fun _ z => by cases z), fun _ z => by unfold LamX.CodeO at z; cases z⟩) fun hx => OwL.inH l a hx
theorem OwL.inH : ∀ {ds : List Dat} {vs : List V} {S : List Addr}, OwL P w K F H ds vs S → ∀ a, a ∈ S → Thr H a
  | _, _, _, .nil, _, hx => nomatch hx
  | _, _, _, .cons h l, a, hx => (List.mem_append.mp hx).elim (fun hx => Ow.inH h a hx) fun hx => OwL.inH l a hx
end
theorem EnvR.inH (e : EnvR P w K F H σ ρ S) : ∀ a ∈ S, Thr H a := by
  induction e with
  | nil => intro a q; exact nomatch q
  | no _ ih => exact ih
  | so h _ ih =>
    intro a ha
    rcases List.mem_append.mp ha with ha | ha
    · exact h.inH a ha
    · exact ih a ha
/-- what is owned beside stands as it stood, through a step of others -/
theorem Step.same {F F' H H' : Hp} {S S' T : List Addr} (st : Step F S H F' S' H') (hT : ∀ a ∈ T, Thr H a) (hd : ∀ a ∈ T, a ∉ S) : ∀ a ∈ T, H' a = H a := fun a ha => by
  obtain ⟨o, e, ht, _⟩ := hT a ha
  rw [e]; exact st.keep a o e (hd a ha) ht
theorem Step.free {F F' H H' : Hp} {S S' T : List Addr} (st : Step F S H F' S' H') (hT : ∀ a ∈ T, Thr H a) (hd : ∀ a ∈ T, a ∉ S) (hf : ∀ a ∈ T, F a = none) : ∀ a ∈ T, F' a = none := fun a ha => by
  cases q : F' a with
  | none => rfl
  | some o =>
    rcases st.fnew a o q with h | h | h | ⟨⟨q', hq⟩, h⟩
    · rw [hf a ha] at h; cases h
    · exact absurd (hT a ha).there h
    · exact absurd h (hd a ha)
    · obtain ⟨o', e', _, n'⟩ := hT a ha
      rw [e'] at h
      exact absurd ((Option.some.inj h).trans hq) (n' q')
/-- a step of others leaves a state as it is -/
theorem Good.step {T T' : List Addr} (g : Good P w K F H σ ρ S) (st : Step F T H F' T' H') (hs : ∀ a o, F' a = some o → H' a = some o) (hd : ∀ a ∈ S, a ∉ T) : Good P w K F' H' σ ρ S :=
  g.ext st.fsub hs (st.same g.env.inH hd) (st.free g.env.inH hd g.fr) (st.tabs g.tab) (st.fnt g.nt)
/-- a slot is given what is owned beside -/
theorem Good.set (g : Good P w K F H σ ρ S) {i : Nat} {d : Dat} {v : V} (hi : i < ρ.length) (o : Ow P w K F H d v T) (hn : (T ++ S).Nodup) (hf : ∀ a ∈ T, F a = none) :
    ∃ S', Good P w K F H (σ.set i (some v)) (ρ.set i (some d)) S' ∧ ∀ a ∈ S', a ∈ T ++ S := by
  obtain ⟨S1, R, p, _, u⟩ := g.env.at hi
  obtain ⟨S2, e2, p2⟩ := (u F H (fun _ _ e => e) fun _ _ => rfl).2 d v T o
  have hR : ∀ a ∈ R, a ∈ S := fun a ha => p.mem_iff.mpr (List.mem_append_right _ ha)
  have sub : ∀ a ∈ S2, a ∈ T ++ S := fun a ha => by
    rcases List.mem_append.mp (p2.mem_iff.mp ha) with h | h
    · exact List.mem_append_left _ h
    · exact List.mem_append_right _ (hR a h)
  refine ⟨S2, ⟨g.sub, e2, ?_, fun a ha => ?_, g.tab, g.nt⟩, sub⟩
  · refine p2.nodup_iff.mpr ?_
    have h1 : (T ++ (S1 ++ R)).Nodup := (List.Perm.append_left T p).nodup_iff.mp hn
    refine h1.sublist (List.Sublist.append (List.Sublist.refl T) (List.sublist_append_right S1 R))
  · rcases List.mem_append.mp (sub a ha) with h | h
    · exact hf a h
    · exact g.fr a h
/-- a slot is emptied -/
theorem Good.drop (g : Good P w K F H σ ρ S) {i : Nat} (x : Option V) (hi : i < ρ.length) : ∃ S', Good P w K F H (σ.set i x) (ρ.set i none) S' ∧ ∀ a ∈ S', a ∈ S := by
  obtain ⟨S1, R, p, _, u⟩ := g.env.at hi
  have e2 := (u F H (fun _ _ e => e) fun _ _ => rfl).1 x
  have hR : ∀ a ∈ R, a ∈ S := fun a ha => p.mem_iff.mpr (List.mem_append_right _ ha)
  exact ⟨R, ⟨g.sub, e2, ((p.nodup_iff.mp g.nd).sublist (List.sublist_append_right S1 R)), fun a ha => g.fr a (hR a ha), g.tab, g.nt⟩, hR⟩
end
end B
set_option Elab.async false
set_option linter.all false
set_option maxRecDepth 100000
namespace B
open PySem PySem.Spec PyProof.Rows L2
variable [TabT]
structure Exc where
  cls : Str
  fs : List (Str × Dat × Option Nat)
abbrev Rs (α : Type) := Except Exc α
abbrev DE := Ev → Option (Rs Dat × Ev)
abbrev DT := Ev → Option (Rs Bool × Ev)
inductive Arg where
  | vw (i : Nat) | dt (d : Dat)
abbrev DA := Ev → Option (Rs (List Arg) × Ev)
def bnd {α β : Type} (m : Option (Rs α × Ev)) (f : α → Ev → Option (Rs β × Ev)) : Option (Rs β × Ev) :=
  match m with
  | some (.ok a, ρ) => f a ρ
  | some (.error x, ρ) => some (.error x, ρ)
  | none => none
theorem bnd_ok {α β : Type} {a : α} {ρ : Ev} {f : α → Ev → Option (Rs β × Ev)} : bnd (some (.ok a, ρ)) f = f a ρ := rfl
/-- the three ways of a bind -/
theorem bnd_inv {α β : Type} {m : Option (Rs α × Ev)} {f : α → Ev → Option (Rs β × Ev)} {o : Rs β} {ρ' : Ev} (h : bnd m f = some (o, ρ')) :
    (∃ a ρ1, m = some (.ok a, ρ1) ∧ f a ρ1 = some (o, ρ')) ∨ (∃ x, m = some (.error x, ρ') ∧ o = .error x) := by
  match m, h with
  | some (.ok a, ρ1), h => exact .inl ⟨a, ρ1, rfl, h⟩
  | some (.error x, ρ1), h =>
    have h' : some (Except.error x, ρ1) = some (o, ρ') := h
    simp at h'
    obtain ⟨h1, h2⟩ := h'
    subst h1 h2
    exact .inr ⟨x, rfl, rfl⟩
inductive PayL (P : Program) (w : World) (K : PySem.W.Frag) (F H : Hp) (σ : L2.St) : List (Str × Dat × Option Nat) → List V → Prop
  | nil : PayL P w K F H σ [] []
  | cons {n : Str} {d : Dat} {src : Option Nat} {v : V} {fs : List (Str × Dat × Option Nat)} {vs : List V} : Ow P w K F H d v [] → (∀ i, src = some i → σ[i]? = some (some v)) → PayL P w K F H σ fs vs → PayL P w K F H σ ((n, d, src) :: fs) (v :: vs)
section
variable (X : Cx)
/-- an error that is wished for -/
def errE (F : Hp) (S : List Addr) (H : Hp) (σ : L2.St) (ρ' : Ev) (x : Exc) (W : Value → Option Addr → Hp → Prop) : Prop :=
  ∀ C F' H' S' vs, X.mg x.cls = some (.ref C) → Step F S H F' S' H' → Good X.prog X.w X.K F' H' σ ρ' S' → PayL X.prog X.w X.K F' H' σ x.fs vs →
    (x.fs = [] → W (.ref C) none H') ∧ (x.fs ≠ [] → ∀ d', H' d' = none → W (.ref C) (some d') (upd H' d' (.xd ((x.fs.map (·.1)).zip vs))))
def okE (F : Hp) (S : List Addr) (H : Hp) (σ : L2.St) (ρ' : Ev) (d : Dat) (Q : V → Hp → Prop) : Prop :=
  ∀ v F' H' T S', Step F S H F' (T ++ S') H' → Good X.prog X.w X.K F' H' σ ρ' S' → Ow X.prog X.w X.K F' H' d v T → (T ++ S').Nodup → (∀ a ∈ T, F' a = none) → Q v H'
inductive OwA (F H : Hp) (σ : L2.St) : List Arg → List V → List Addr → Prop
  | nil : OwA F H σ [] [] []
  | vw {i : Nat} {v : V} {as : List Arg} {vs : List V} {S : List Addr} : σ[i]? = some (some v) → OwA F H σ as vs S → OwA F H σ (.vw i :: as) (v :: vs) S
  | dt {d : Dat} {v : V} {as : List Arg} {vs : List V} {S T : List Addr} : Ow X.prog X.w X.K F H d v S → OwA F H σ as vs T → OwA F H σ (.dt d :: as) (v :: vs) (S ++ T)
def okA (F : Hp) (S : List Addr) (H : Hp) (σ : L2.St) (ρ' : Ev) (as : List Arg) (Q : List V → Hp → Prop) : Prop :=
  ∀ vs F' H' T S', Step F S H F' (T ++ S') H' → Good X.prog X.w X.K F' H' σ ρ' S' → OwA X F' H' σ as vs T → (T ++ S').Nodup → (∀ a ∈ T, F' a = none) → Q vs H'
def outE (F : Hp) (S : List Addr) (H : Hp) (σ : L2.St) (W : WX) (o : Rs Dat) (ρ' : Ev) (Q : VK) : Prop :=
  match o with
  | .ok d => okE X F S H σ ρ' d Q
  | .error x => errE X F S H σ ρ' x fun c d H' => W c d σ H'
def outA (F : Hp) (S : List Addr) (H : Hp) (σ : L2.St) (W : WX) (o : Rs (List Arg)) (ρ' : Ev) (Q : List V → Hp → Prop) : Prop :=
  match o with
  | .ok as => okA X F S H σ ρ' as Q
  | .error x => errE X F S H σ ρ' x fun c d H' => W c d σ H'
def outT (F : Hp) (S : List Addr) (H : Hp) (σ : L2.St) (W : WX) (o : Rs Bool) (ρ' : Ev) (Q : Bool → Hp → Prop) : Prop :=
  match o with
  | .ok b => ∀ F' H' S', Step F S H F' S' H' → Good X.prog X.w X.K F' H' σ ρ' S' → Q b H'
  | .error x => errE X F S H σ ρ' x fun c d H' => W c d σ H'
def tE (W : WX) (den : DE) : TE := fun σ H Q => ∃ F ρ S o ρ', Good X.prog X.w X.K F H σ ρ S ∧ den ρ = some (o, ρ') ∧ outE X F S H σ W o ρ' Q
def tA (W : WX) (den : DA) : TA := fun σ H Q => ∃ F ρ S o ρ', Good X.prog X.w X.K F H σ ρ S ∧ den ρ = some (o, ρ') ∧ outA X F S H σ W o ρ' Q
def tT (W : WX) (den : DT) : TT := fun σ H Q => ∃ F ρ S o ρ', Good X.prog X.w X.K F H σ ρ S ∧ den ρ = some (o, ρ') ∧ outT X F S H σ W o ρ' Q
def PD (W : WX) (e : Expr) (den : DE) : Prop := PE X e (tE X W den)
def PDT (W : WX) (e : Expr) (den : DT) : Prop := PT X e (tT X W den)
def PDA (W : WX) (es : List Expr) (den : DA) : Prop := PA X es (tA X W den)
/-- an argument: by its reading t -/
def A1 (W : WX) (t : TE) (c : DA → DA) : Prop := ∀ r σ H Q, tA X W (c r) σ H Q → t σ H fun v H1 => tA X W r σ H1 fun vs H2 => Q (v :: vs) H2
/-- a reading that asks no more where more is wanted -/
def Mono (t : TE) : Prop := ∀ (σ : L2.St) (H : Hp) (Q Q' : VK), (∀ v H, Q v H → Q' v H) → t σ H Q → t σ H Q'
def P1 (W : WX) (e : Expr) (c : DA → DA) : Prop := ∃ t, PE X e t ∧ A1 X W t c ∧ Mono t
theorem mono_var (i : Nat) : Mono (tVar i) := fun σ H Q Q' h ⟨v, e, q⟩ => ⟨v, e, h v H q⟩
theorem mono_E (W : WX) (den : DE) : Mono (tE X W den) := fun σ H Q Q' h ⟨F, ρ, S, o, ρ', g, hd, ho⟩ => ⟨F, ρ, S, o, ρ', g, hd, by
  cases o with
  | ok d => exact fun v F' H' T S' a b c d e => h v H' (ho v F' H' T S' a b c d e)
  | error x => exact ho⟩
end
theorem PE.imp {X : Cx} {e : Expr} {t t' : TE} (h : PE X e t) (i : ∀ σ H Q, t' σ H Q → t σ H Q) : PE X e t' := ⟨fun pins s σ H Q I q => h.run pins s σ H Q I (i σ H Q q)⟩
theorem PT.imp {X : Cx} {e : Expr} {t t' : TT} (h : PT X e t) (i : ∀ σ H Q, t' σ H Q → t σ H Q) : PT X e t' := ⟨fun pins s σ H Q I q => h.run pins s σ H Q I (i σ H Q q)⟩
theorem PA.imp {X : Cx} {es : List Expr} {t t' : TA} (h : PA X es t) (i : ∀ σ H Q, t' σ H Q → t σ H Q) : PA X es t' := ⟨fun pos pins s σ H Q I q => h.run pos pins s σ H Q I (i σ H Q q)⟩
theorem PS.imp {X : Cx} {st : Stmt} {t t' : TS} (h : PS X st t) (i : ∀ D σ H, t' D σ H → t D σ H) : PS X st t' := ⟨fun pins s σ H D I q => h.run pins s σ H D I (i D σ H q)⟩
theorem PSs.imp {X : Cx} {st : List Stmt} {t t' : TS} (h : PSs X st t) (i : ∀ D σ H, t' D σ H → t D σ H) : PSs X st t' := ⟨fun pins s σ H D I q => h.run pins s σ H D I (i D σ H q)⟩
section
variable {X : Cx} {F F1 F' H H1 H' : Hp} {σ : L2.St} {ρ ρ' : Ev} {S S1 S' T T' : List Addr} {W : WX}
theorem errE.after {x : Exc} {Wd : Value → Option Addr → Hp → Prop} (h : errE X F S H σ ρ' x Wd) (st : Step F S H F1 S1 H1) : errE X F1 S1 H1 σ ρ' x Wd :=
  fun C F' H' S' vs hm s2 g p => h C F' H' S' vs hm (st.trans s2) g p
/-- two steps, the first's temporaries kept -/
structure Two (X : Cx) (F F1 H H1 : Hp) (S T1 S1 : List Addr) : Prop where
  st : Step F S H F1 (T1 ++ S1) H1
  nd : (T1 ++ S1).Nodup
  fr : ∀ a ∈ T1, F1 a = none
  inH : ∀ a ∈ T1, Thr H1 a
theorem Two.dis {T1 : List Addr} (t : Two X F F1 H H1 S T1 S1) : ∀ a ∈ T1, a ∉ S1 := fun a h1 h2 => (List.nodup_append.mp t.nd).2.2 a h1 a h2 rfl
theorem Two.next {F2 H2 : Hp} {T1 T2 S2 : List Addr} (t : Two X F F1 H H1 S T1 S1) (s2 : Step F1 S1 H1 F2 (T2 ++ S2) H2) (n2 : (T2 ++ S2).Nodup) (f2 : ∀ a ∈ T2, F2 a = none) :
    Step F S H F2 ((T1 ++ T2) ++ S2) H2 ∧ ((T1 ++ T2) ++ S2).Nodup ∧ (∀ a ∈ T1 ++ T2, F2 a = none) ∧ (∀ a ∈ T1, H2 a = H1 a) ∧ ∀ a ∈ T1, F2 a = none := by
  have sm := s2.same t.inH t.dis
  have fr := s2.free t.inH t.dis t.fr
  have d2 : ∀ a ∈ T1, a ∉ T2 ++ S2 := fun a h1 h2 => by
    rcases s2.snew a h2 with q | q
    · exact t.dis a h1 q
    · exact q (t.inH a h1).there
  have b : Step F1 (S1 ++ T1) H1 F2 ((T2 ++ S2) ++ T1) H2 := s2.beside
  refine ⟨(t.st.less (fun x hx => ?_)).trans (b.less fun x hx => ?_), ?_, fun a ha => ?_, sm, fr⟩
  · rcases List.mem_append.mp hx with h | h
    · exact List.mem_append_right _ h
    · exact List.mem_append_left _ h
  · rcases List.mem_append.mp hx with h | h
    · rcases List.mem_append.mp h with h | h
      · exact List.mem_append_right _ h
      · exact List.mem_append_left _ (List.mem_append_left _ h)
    · exact List.mem_append_left _ (List.mem_append_right _ h)
  · rw [List.append_assoc]
    exact List.nodup_append.mpr ⟨(List.nodup_append.mp t.nd).1, n2, fun a h1 b h2 e => d2 a h1 (e ▸ h2)⟩
  · rcases List.mem_append.mp ha with h | h
    · exact fr a h
    · exact f2 a h
theorem okE.two {d : Dat} {v : V} {T1 : List Addr} (st : Step F S H F1 (T1 ++ S1) H1) (nd : (T1 ++ S1).Nodup) (fr : ∀ a ∈ T1, F1 a = none) (o : Ow X.prog X.w X.K F1 H1 d v T1) : Two X F F1 H H1 S T1 S1 := ⟨st, nd, fr, o.inH⟩
def aNil : DA := fun ρ => some (.ok [], ρ)
def aVw (i : Nat) (r : DA) : DA := fun ρ => match ρ[i]? with
  | some (some _) => bnd (r ρ) fun as ρ' => some (.ok (.vw i :: as), ρ')
  | _ => none
def aE (de : DE) (r : DA) : DA := fun ρ => bnd (de ρ) fun d ρ1 => bnd (r ρ1) fun as ρ2 => some (.ok (.dt d :: as), ρ2)
theorem a1_vw (i : Nat) : A1 X W (tVar i) (aVw i) := by
  intro r σ H Q h
  obtain ⟨F, ρ, S, o, ρ', g, hd, ho⟩ := h
  unfold aVw at hd
  cases e : ρ[i]? with
  | none => rw [e] at hd; simp at hd
  | some od =>
    cases od with
    | none => rw [e] at hd; simp at hd
    | some d =>
      rw [e] at hd
      obtain ⟨v, S1, hv, _, _⟩ := g.get e
      refine ⟨v, hv, ?_⟩
      rcases bnd_inv hd with ⟨as, ρ1, h1, h2⟩ | ⟨x, h1, rfl⟩
      · simp only [Option.some.injEq, Prod.mk.injEq] at h2
        obtain ⟨rfl, rfl⟩ := h2
        refine ⟨F, ρ, S, .ok as, ρ1, g, h1, fun vs F' H' T S' st g' oa nd fr => ho (v :: vs) F' H' T S' st g' (.vw hv oa) nd fr⟩
      · exact ⟨F, ρ, S, .error x, ρ', g, h1, ho⟩
theorem a1_e {de : DE} : A1 X W (tE X W de) (aE de) := by
  intro r σ H Q h
  obtain ⟨F, ρ, S, o, ρ', g, hd, ho⟩ := h
  unfold aE at hd
  rcases bnd_inv hd with ⟨d, ρ1, h1, h2⟩ | ⟨x, h1, rfl⟩
  · refine ⟨F, ρ, S, .ok d, ρ1, g, h1, fun v F1 H1 T1 S1 st g1 o1 nd fr => ?_⟩
    have tw : Two X F F1 H H1 S T1 S1 := okE.two st nd fr o1
    rcases bnd_inv h2 with ⟨as, ρ2, h3, h4⟩ | ⟨x, h3, rfl⟩
    · simp only [Option.some.injEq, Prod.mk.injEq] at h4
      obtain ⟨rfl, rfl⟩ := h4
      refine ⟨F1, ρ1, S1, .ok as, ρ2, g1, h3, fun vs F2 H2 T2 S2 s2 g2 oa n2 f2 => ?_⟩
      obtain ⟨a1, a2, a3, a4, _⟩ := tw.next s2 n2 f2
      exact ho (v :: vs) F2 H2 (T1 ++ T2) S2 a1 g2 (.dt (o1.mono s2.fsub a4) oa) a2 a3
    · refine ⟨F1, ρ1, S1, .error x, ρ', g1, h3, ?_⟩
      have ho' : errE X F S H σ ρ' x (fun c d H' => W c d σ H') := ho
      exact ho'.after (st.less fun y hy => List.mem_append_right _ hy)
  · exact ⟨F, ρ, S, .error x, ρ', g, h1, ho⟩
theorem pda_nil : PDA X W [] aNil := PA.imp pa_nil fun σ H Q h => by
  obtain ⟨F, ρ, S, o, ρ', g, hd, ho⟩ := h
  unfold aNil at hd
  simp only [Option.some.injEq, Prod.mk.injEq] at hd
  obtain ⟨rfl, rfl⟩ := hd
  exact ho [] F H [] S Step.refl g .nil g.nd (fun _ q => nomatch q)
theorem pda_cons {e : Expr} {es : List Expr} {c : DA → DA} {r : DA} (h1 : P1 X W e c) (h2 : PDA X W es r) (hs : starEach (e :: es) X.env = (false, eval e X.env) :: starEach es X.env := by rfl) : PDA X W (e :: es) (c r) := by
  obtain ⟨t, ht, ha, _⟩ := h1
  exact PA.imp (pa_cons ht h2 hs) fun σ H Q h => ha r σ H Q h
theorem p1_e {e : Expr} {de : DE} (h : PD X W e de) : P1 X W e (aE de) := ⟨_, h, a1_e, mono_E X W de⟩
theorem p1_vw {x : Str} {pos : Pos} {i : Nat} (h : PE X (.Name x pos) (tVar i)) : P1 X W (.Name x pos) (aVw i) := ⟨_, h, a1_vw i, mono_var i⟩
/-- what the arguments are, behind all of them -/
def res (ρ : Ev) : List Arg → Option (List Dat)
  | [] => some []
  | .vw i :: as => match ρ[i]?, res ρ as with
    | some (some d), some ds => some (d :: ds)
    | _, _ => none
  | .dt d :: as => match res ρ as with
    | some ds => some (d :: ds)
    | none => none
theorem res_ok (g : Good X.prog X.w X.K F H σ ρ S) : ∀ {as : List Arg} {vs : List V} {T : List Addr} {ds : List Dat}, OwA X F H σ as vs T → res ρ as = some ds → ∃ B, OwL X.prog X.w X.K F H ds vs B := by
  intro as
  induction as with
  | nil => intro vs T ds h e; cases h; simp only [res, Option.some.injEq] at e; subst e; exact ⟨[], .nil⟩
  | cons a as ih =>
    intro vs T ds h e
    cases h with
    | @vw i v as vs S1 hv ha =>
      rw [res] at e
      cases e1 : ρ[i]? with
      | none => rw [e1] at e; simp at e
      | some od =>
        cases od with
        | none => rw [e1] at e; simp at e
        | some d =>
          cases e2 : res ρ as with
          | none => rw [e1, e2] at e; simp at e
          | some ds' =>
            rw [e1, e2] at e
            simp only [Option.some.injEq] at e
            subst e
            obtain ⟨B, hB⟩ := ih ha e2
            obtain ⟨v', S2, hv', o, _⟩ := g.get e1
            rw [hv] at hv'
            have ev : v = v' := Option.some.inj (Option.some.inj hv')
            subst ev
            exact ⟨S2 ++ B, .cons o hB⟩
    | @dt d v as vs S1 T1 o ha =>
      rw [res] at e
      cases e2 : res ρ as with
      | none => rw [e2] at e; simp at e
      | some ds' =>
        rw [e2] at e
        simp only [Option.some.injEq] at e
        subst e
        obtain ⟨B, hB⟩ := ih ha e2
        exact ⟨S1 ++ B, .cons o hB⟩
/-- an operation that reads its operands and gives what is new or frozen -/
def RO (X : Cx) (r : List V → Hp → VK → Prop) (f : List Dat → Option Dat) : Prop :=
  ∀ (F H : Hp) (ds : List Dat) (vs : List V) (B : List Addr) (d : Dat) (Q : VK), (∀ a o, F a = some o → H a = some o) → OwL X.prog X.w X.K F H ds vs B → f ds = some d →
    (∀ v F' H' T, Step F [] H F' T H' → (∀ a o, F' a = some o → H' a = some o) → Ow X.prog X.w X.K F' H' d v T → T.Nodup → (∀ a ∈ T, F' a = none) → Q v H') → r vs H Q
def eOp (f : List Dat → Option Dat) (as : DA) : DE := fun ρ => bnd (as ρ) fun a ρ' => match res ρ' a with
  | some ds => match f ds with
    | some d => some (.ok d, ρ')
    | none => none
  | none => none
theorem ro_use {r : List V → Hp → VK → Prop} {f : List Dat → Option Dat} {as : DA} (hr : RO X r f) {Q : VK} (h : tE X W (eOp f as) σ H Q) : tA X W as σ H fun vs H1 => r vs H1 Q := by
  obtain ⟨F, ρ, S, o, ρ', g, hd, ho⟩ := h
  unfold eOp at hd
  rcases bnd_inv hd with ⟨a, ρ1, h1, h2⟩ | ⟨x, h1, rfl⟩
  · refine ⟨F, ρ, S, .ok a, ρ1, g, h1, fun vs F1 H1 T1 S1 st g1 oa nd fr => ?_⟩
    cases e : res ρ1 a with
    | none => rw [e] at h2; simp at h2
    | some ds =>
      simp only [e] at h2
      cases e2 : f ds with
      | none => rw [e2] at h2; simp at h2
      | some d =>
        rw [e2] at h2
        simp only [Option.some.injEq, Prod.mk.injEq] at h2
        obtain ⟨rfl, rfl⟩ := h2
        obtain ⟨B, oB⟩ := res_ok g1 oa e
        refine hr F1 H1 ds vs B d Q g1.sub oB e2 fun v F2 H2 T2 s2 sub2 o2 n2 f2 => ?_
        have g2 : Good X.prog X.w X.K F2 H2 σ ρ1 S1 := g1.step s2 sub2 fun _ _ q => nomatch q
        have d2 : ∀ a ∈ T2, a ∉ S1 := fun a ha hs => by
          rcases s2.snew a ha with q | q
          · exact nomatch q
          · exact q (g1.env.inH a hs).there
        have n3 : (T2 ++ S1).Nodup := List.nodup_append.mpr ⟨n2, g1.nd, fun a h1 b h2 e => d2 a h1 (e ▸ h2)⟩
        have s3 : Step F1 S1 H1 F2 (T2 ++ S1) H2 := by
          have := s2.beside (R := S1)
          simpa using this
        exact ho v F2 H2 T2 S1 ((st.less fun y hy => List.mem_append_right _ hy).trans s3) g2 o2 n3 f2
  · exact ⟨F, ρ, S, .error x, ρ', g, h1, ho⟩
theorem tA_nil {Q : List V → Hp → Prop} (h : tA X W aNil σ H Q) : Q [] H := by
  obtain ⟨F, ρ, S, o, ρ', g, hd, ho⟩ := h
  unfold aNil at hd
  simp only [Option.some.injEq, Prod.mk.injEq] at hd
  obtain ⟨rfl, rfl⟩ := hd
  exact ho [] F H [] S Step.refl g .nil g.nd (fun _ q => nomatch q)
/-- a rule of two operands, as one of a list of them -/
def r2 (r : R2) : List V → Hp → VK → Prop := fun vs H Q => ∃ x y, vs = [x, y] ∧ r x y H Q
theorem two_use {ta tb : TE} {r : R2} {ca cb : DA → DA} {f : List Dat → Option Dat} (hr : RO X (r2 r) f) (qa : A1 X W ta ca) (ma : Mono ta) (qb : A1 X W tb cb) (mb : Mono tb) {Q : VK} (h : tE X W (eOp f (ca (cb aNil))) σ H Q) : tOp r ta tb σ H Q := by
  refine ma _ _ _ _ (fun v H1 h1 => ?_) (qa _ σ H _ (ro_use hr h))
  refine mb _ _ _ _ (fun u H2 h2 => ?_) (qb _ σ H1 _ h1)
  obtain ⟨x, y, e, q⟩ := tA_nil h2
  simp only [List.cons.injEq, and_true] at e
  obtain ⟨rfl, rfl⟩ := e
  exact q
/-- two operands -/
theorem pd_bin {op : Operator} {r : R2} {a b : Expr} {pos : Pos} {ca cb : DA → DA} {f : List Dat → Option Dat} (ho : OpR X (binaryOp op) r) (hr : RO X (r2 r) f) (ha : P1 X W a ca) (hb : P1 X W b cb) :
    PD X W (.BinOp a op b pos) (eOp f (ca (cb aNil))) := by
  obtain ⟨ta, pa, qa, ma⟩ := ha
  obtain ⟨tb, pb, qb, mb⟩ := hb
  exact PE.imp (pe_op ho pa pb) fun σ H Q h => two_use hr qa ma qb mb h
theorem pd_cmp {op : CmpOp} {r : R2} {a b : Expr} {pos : Pos} {ca cb : DA → DA} {f : List Dat → Option Dat} (ho : OpR X (compareOp op) r) (hr : RO X (r2 r) f) (ha : P1 X W a ca) (hb : P1 X W b cb) (hm : behindInMarks op b = false) :
    PD X W (.Compare a [op] [b] pos) (eOp f (ca (cb aNil))) := by
  obtain ⟨ta, pa, qa, ma⟩ := ha
  obtain ⟨tb, pb, qb, mb⟩ := hb
  exact PE.imp (pe_cmpR ho pa pb hm) fun σ H Q h => two_use hr qa ma qb mb h
/-- a call of a built-in function, of a built-in type -/
theorem pd_blt {id : String} {r : List V → Hp → VK → Prop} {x : Str} {p pos : Pos} {e : Expr} {es : List Expr} {f : List Dat → Option Dat} {as : DA} (hc : CallR X (.builtin id) r) (hr : RO X r f) (hg : Gl X x) (hm : X.mg x = none) (hv : bootBuiltins x = some (.builtin id)) (ha : PDA X W (e :: es) as)
    (hn : x ≠ "__name__" := by decide) (hdb : (x == ("__debug__" : Str)) = false := by decide) (he : starEach (e :: es) X.env = (false, eval e X.env) :: starEach es X.env := by rfl) (hpl : (backTo pos (starEach es X.env)).any (·.1) = false := by rfl) :
    PD X W (.Call (.Name x p) (e :: es) [] pos) (eOp f as) := PE.imp (pe_callB hc hg hm hv ha hn hdb he hpl) fun σ H Q h => ro_use hr h
theorem pd_ty {T : String} {r : List V → Hp → VK → Prop} {x : Str} {p pos : Pos} {e : Expr} {es : List Expr} {f : List Dat → Option Dat} {as : DA} (hc : CallR X (.type T) r) (hr : RO X r f) (hg : Gl X x) (hm : X.mg x = none) (hv : bootBuiltins x = some (.type T)) (ha : PDA X W (e :: es) as)
    (hn : x ≠ "__name__" := by decide) (hdb : (x == ("__debug__" : Str)) = false := by decide) (he : starEach (e :: es) X.env = (false, eval e X.env) :: starEach es X.env := by rfl) (hpl : (backTo pos (starEach es X.env)).any (·.1) = false := by rfl) :
    PD X W (.Call (.Name x p) (e :: es) [] pos) (eOp f as) := PE.imp (pe_callTy hc hg hm hv ha hn hdb he hpl) fun σ H Q h => ro_use hr h
end
end B
set_option Elab.async false
set_option linter.all false
set_option maxRecDepth 100000
namespace B
open PySem PySem.Spec PyProof.Rows L2
variable [TabT]
section
variable {X : Cx} {P : Program} {w : World} {K : PySem.W.Frag} {F F' H H' : Hp} {S T : List Addr}
theorem OwL.nil_inv {vs : List V} (h : OwL P w K F H [] vs S) : vs = [] ∧ S = [] := by cases h; exact ⟨rfl, rfl⟩
theorem OwL.cons_inv {d : Dat} {ds : List Dat} {vs : List V} (h : OwL P w K F H (d :: ds) vs S) : ∃ v ws S1 S2, vs = v :: ws ∧ S = S1 ++ S2 ∧ Ow P w K F H d v S1 ∧ OwL P w K F H ds ws S2 := by
  cases h with
  | cons h1 h2 => exact ⟨_, _, _, _, rfl, rfl, h1, h2⟩
theorem OwL.one {d : Dat} {vs : List V} (h : OwL P w K F H [d] vs S) : ∃ v S1, vs = [v] ∧ Ow P w K F H d v S1 := by
  obtain ⟨v, ws, S1, S2, rfl, _, h1, h2⟩ := h.cons_inv
  obtain ⟨rfl, _⟩ := h2.nil_inv
  exact ⟨v, S1, rfl, h1⟩
theorem OwL.two {d e : Dat} {vs : List V} (h : OwL P w K F H [d, e] vs S) : ∃ v u S1 S2, vs = [v, u] ∧ Ow P w K F H d v S1 ∧ Ow P w K F H e u S2 := by
  obtain ⟨v, ws, S1, S2, rfl, _, h1, h2⟩ := h.cons_inv
  obtain ⟨u, S3, rfl, h3⟩ := h2.one
  exact ⟨v, u, S1, S3, rfl, h1, h3⟩
theorem Ow.int_inv {i : Int} {v : V} (h : Ow P w K F H (.int i) v S) : v = .int i ∧ S = [] := by cases h; exact ⟨rfl, rfl⟩
theorem Ow.bl_inv {b : Bool} {v : V} (h : Ow P w K F H (.bl b) v S) : v = .bl b ∧ S = [] := by cases h; exact ⟨rfl, rfl⟩
theorem Ow.str_inv {x : Str} {v : V} (h : Ow P w K F H (.str x) v S) : v = .str x ∧ S = [] := by cases h; exact ⟨rfl, rfl⟩
theorem Ow.non_inv {v : V} (h : Ow P w K F H .non v S) : v = .non ∧ S = [] := by cases h; exact ⟨rfl, rfl⟩
theorem Ow.tup_inv {ds : List Dat} {v : V} (h : Ow P w K F H (.tup ds) v S) : ∃ a vs, v = .ref a ∧ SqT K F a vs ∧ OwL P w K F H ds vs S := by cases h with | tup h1 h2 => exact ⟨_, _, rfl, h1, h2⟩
theorem Ow.lst_inv {ds : List Dat} {v : V} (h : Ow P w K F H (.lst ds) v S) : ∃ a vs, v = .ref a ∧ Rd F a (.lst vs) ∧ OwL P w K F H ds vs [] ∧ S = [] := by cases h with | lst h1 h2 => exact ⟨_, _, rfl, h1, h2, rfl⟩
theorem Ow.ol_inv {ds : List Dat} {v : V} (h : Ow P w K F H (.ol ds) v S) : ∃ a vs S1, v = .ref a ∧ H a = some (.lst vs) ∧ OwL P w K F H ds vs S1 ∧ S = a :: S1 := by cases h with | ol h1 h2 => exact ⟨_, _, _, rfl, h1, h2, rfl⟩
theorem SqL.up (hs : ∀ a o, F a = some o → H a = some o) {a : Addr} {vs : List V} (h : SqL K F a vs) : SqL K H a vs := SqL.mono hs h
theorem SqT.up (hs : ∀ a o, F a = some o → H a = some o) {a : Addr} {vs : List V} (h : SqT K F a vs) : SqT K H a vs := SqT.mono hs h
/-- the items of a list, of a tuple -/
def lit : Dat → Option (List Dat)
  | .lst ds => some ds
  | .ol ds => some ds
  | _ => none
def sit : Dat → Option (List Dat)
  | .lst ds => some ds
  | .ol ds => some ds
  | .tup ds => some ds
  | _ => none
theorem Ow.lit_inv (hs : ∀ a o, F a = some o → H a = some o) {d : Dat} {ds : List Dat} {v : V} (h : Ow P w K F H d v S) (e : lit d = some ds) : ∃ a vs S1, v = .ref a ∧ Rd H a (.lst vs) ∧ OwL P w K F H ds vs S1 := by
  cases d <;> simp [lit] at e
  · subst e
    obtain ⟨a, vs, rfl, h1, h2, _⟩ := h.lst_inv
    exact ⟨a, vs, _, rfl, Rd.mono hs h1, h2⟩
  · subst e
    obtain ⟨a, vs, S1, rfl, h1, h2, _⟩ := h.ol_inv
    exact ⟨a, vs, S1, rfl, .inl h1, h2⟩
theorem Ow.sit_inv (hs : ∀ a o, F a = some o → H a = some o) {d : Dat} {ds : List Dat} {v : V} (h : Ow P w K F H d v S) (e : sit d = some ds) : ∃ a vs S1, v = .ref a ∧ (SqL K H a vs ∨ SqT K H a vs) ∧ OwL P w K F H ds vs S1 := by
  cases d <;> simp [sit] at e
  · subst e
    obtain ⟨a, vs, rfl, h1, h2⟩ := h.tup_inv
    exact ⟨a, vs, _, rfl, .inr (SqT.up hs h1), h2⟩
  · subst e
    obtain ⟨a, vs, rfl, h1, h2, _⟩ := h.lst_inv
    exact ⟨a, vs, _, rfl, .inl (.inl (Rd.mono hs h1)), h2⟩
  · subst e
    obtain ⟨a, vs, S1, rfl, h1, h2, _⟩ := h.ol_inv
    exact ⟨a, vs, S1, rfl, .inl (SqL.of h1), h2⟩
/-- an item -/
theorem OwL.at : ∀ {ds : List Dat} {vs : List V} {S : List Addr} {i : Nat} {d : Dat}, OwL P w K F H ds vs S → ds[i]? = some d → ∃ v S1, vs[i]? = some v ∧ Ow P w K F H d v S1 ∧ ∀ a ∈ S1, a ∈ S
  | _, _, _, _, _, .nil, e => by simp at e
  | _, _, _, 0, _, .cons h l, e => by simp at e; subst e; exact ⟨_, _, rfl, h, fun a ha => List.mem_append_left _ ha⟩
  | _, _, _, i + 1, d, .cons h l, e => by
    obtain ⟨v, S1, h1, h2, h3⟩ := OwL.at (i := i) l (by simpa using e)
    exact ⟨v, S1, by simpa using h1, h2, fun a ha => List.mem_append_right _ (h3 a ha)⟩
theorem OwL.ims {ds : List Dat} {vs : List V} (h : OwL P w K F H ds vs S) (e : ims ds = true) : OwL P w K F H ds vs [] := by
  have := h.im_nil e
  subst this
  exact h
theorem Ow.ims {d : Dat} {v : V} (h : Ow P w K F H d v S) (e : im d = true) : Ow P w K F H d v [] := by
  have := h.im_nil e
  subst this
  exact h
theorem ims_app : ∀ {ds es : List Dat}, ims ds = true → ims es = true → ims (ds ++ es) = true
  | [], _, _, h => h
  | x :: ds, es, h1, h2 => by
    rw [B.ims, Bool.and_eq_true] at h1
    rw [List.cons_append, B.ims, h1.1, ims_app h1.2 h2]; rfl
theorem OwL.app : ∀ {ds es : List Dat} {vs us : List V} {S T : List Addr}, OwL P w K F H ds vs S → OwL P w K F H es us T → OwL P w K F H (ds ++ es) (vs ++ us) (S ++ T)
  | _, _, _, _, _, _, .nil, h => h
  | _, _, _, _, _, _, .cons h l, h2 => by
    rw [List.append_assoc]
    exact .cons h (OwL.app l h2)
theorem OwL.take : ∀ {ds : List Dat} {vs : List V} (n : Nat), OwL P w K F H ds vs [] → OwL P w K F H (ds.take n) (vs.take n) []
  | _, _, 0, _ => by simp; exact .nil
  | [], _, n + 1, h => by obtain ⟨rfl, _⟩ := h.nil_inv; exact .nil
  | d :: ds, vs, n + 1, h => by
    obtain ⟨v, ws, S1, S2, rfl, e, h1, h2⟩ := h.cons_inv
    obtain ⟨rfl, rfl⟩ := List.append_eq_nil_iff.mp e.symm
    exact .cons (S := []) (T := []) h1 (OwL.take n h2)
theorem OwL.drop : ∀ {ds : List Dat} {vs : List V} (n : Nat), OwL P w K F H ds vs [] → OwL P w K F H (ds.drop n) (vs.drop n) []
  | _, _, 0, h => h
  | [], _, n + 1, h => by obtain ⟨rfl, _⟩ := h.nil_inv; exact .nil
  | d :: ds, vs, n + 1, h => by
    obtain ⟨v, ws, S1, S2, rfl, e, h1, h2⟩ := h.cons_inv
    obtain ⟨rfl, rfl⟩ := List.append_eq_nil_iff.mp e.symm
    exact OwL.drop n h2
section
variable {d : Dat} {Q : VK}
theorem ro_fin {v : V} (hs : ∀ a o, F a = some o → H a = some o) (k : ∀ v F' H' T, Step F [] H F' T H' → (∀ a o, F' a = some o → H' a = some o) → Ow P w K F' H' d v T → T.Nodup → (∀ a ∈ T, F' a = none) → Q v H') (o : Ow P w K F H d v []) : Q v H :=
  k v F H [] Step.refl hs o List.nodup_nil fun _ q => nomatch q
/-- what is owned: a list, a dict -/
def Kept (a : Addr) (o : HO) : Prop := (∃ vs, o = .lst vs) ∨ (∃ P w kvs, o = dnO P w a kvs) ∨ ∃ kvs, o = .dK kvs
theorem kept_tbl {a : Addr} {o : HO} (k : Kept a o) : ∀ ps, o ≠ HO.tbl ps := fun ps z => by
  rcases k with ⟨vs, k⟩ | ⟨P, w, kvs, k⟩ | ⟨kvs, k⟩
  · rw [k] at z; cases z
  · rw [k] at z; unfold dnO at z; cases z
  · rw [k] at z; cases z
theorem tabs_upd {T : List (Addr × Str)} {H : Hp} {a : Addr} {o u : HO} (t : LamX.Tabs T H) (ha : H a = some o) (hk : Kept a o) : LamX.Tabs T (upd H a u) := fun p hp => by
  obtain ⟨ps, h1, h2, h3⟩ := t p hp
  have ne : ∀ b q, H b = some q → (q = .tbl ps ∨ ∃ s, q = LamX.CodeO b s) → b ≠ a := fun b q e hq z => by
    rw [z, ha] at e
    have e' := Option.some.inj e
    subst e'
    rcases hk with ⟨vs, k⟩ | ⟨P, w, kvs, k⟩ | ⟨kvs, k⟩
    · rcases hq with hq | ⟨s, hq⟩
      · rw [k] at hq; cases hq
      · rw [k] at hq; unfold LamX.CodeO at hq; cases hq
    · rcases hq with hq | ⟨s, hq⟩
      · rw [k] at hq; unfold dnO at hq; cases hq
      · rw [k, z] at hq; exact dnO_ne_code hq
    · rcases hq with hq | ⟨s, hq⟩
      · rw [k] at hq; cases hq
      · rw [k] at hq; unfold LamX.CodeO at hq; cases hq
  refine ⟨ps, by rw [upd_ne (ne _ _ h1 (.inl rfl))]; exact h1, h2, fun pos cv hc => ?_⟩
  obtain ⟨c, e1, e2⟩ := h3 pos cv hc
  exact ⟨c, e1, by rw [upd_ne (ne _ _ e2 (.inr ⟨_, rfl⟩))]; exact e2⟩
theorem step_new {p : Addr} {o : HO} (hp : H p = none) : Step F [] H F [p] (upd H p o) :=
  ⟨fun _ _ e => e, fun _ _ e => .inl e, fun x hx => .inr (by simp at hx; subst hx; exact not_there hp), fun x u e _ _ => by rw [upd_ne (ne_of_none e hp)]; exact e, fun x ⟨u, e, t⟩ => ⟨u, by rw [upd_ne (ne_of_none e hp)]; exact e, t⟩, fun t => t.ext fun x u e => by rw [upd_ne (ne_of_none e hp)]; exact e, fun t => t⟩
theorem step_newF {p : Addr} {o : HO} (ho : ∀ ps, o ≠ HO.tbl ps) (hs : ∀ a o, F a = some o → H a = some o) (hp : H p = none) : Step F [] H (upd F p o) [] (upd H p o) :=
  ⟨fun x u e => by rw [upd_ne (ne_of_none (hs x u e) hp)]; exact e, fun x u e => by
    by_cases hx : x = p
    · subst hx; exact .inr (.inl (not_there hp))
    · rw [upd_ne hx] at e; exact .inl e, (fun x hx => nomatch hx), fun x u e _ _ => by rw [upd_ne (ne_of_none e hp)]; exact e, fun x ⟨u, e, t⟩ => ⟨u, by rw [upd_ne (ne_of_none e hp)]; exact e, t⟩, fun t => t.ext fun x u e => by rw [upd_ne (ne_of_none e hp)]; exact e, fun t a ps => by
    by_cases hx : a = p
    · subst hx; rw [upd_same]; exact fun z => ho ps (Option.some.inj z)
    · rw [upd_ne hx]; exact t a ps⟩
theorem sub_new {p : Addr} {o : HO} (hs : ∀ a o, F a = some o → H a = some o) (hp : H p = none) : ∀ a u, F a = some u → upd H p o a = some u := fun a u e => by
  rw [upd_ne (ne_of_none (hs a u e) hp)]; exact hs a u e
theorem sub_newF {p : Addr} {o : HO} (hs : ∀ a o, F a = some o → H a = some o) : ∀ a u, upd F p o a = some u → upd H p o a = some u := fun a u e => by
  by_cases h : a = p
  · subst h; rw [upd_same] at e ⊢; exact e
  · rw [upd_ne h] at e ⊢; exact hs a u e
theorem free_new {p : Addr} (hs : ∀ a o, F a = some o → H a = some o) (hp : H p = none) : F p = none := by
  cases q : F p with
  | none => rfl
  | some o => rw [hs p o q] at hp; cases hp
/-- a new list of what is frozen -/
theorem ro_newL {ds : List Dat} {vs : List V} (hs : ∀ a o, F a = some o → H a = some o) (k : ∀ v F' H' T, Step F [] H F' T H' → (∀ a o, F' a = some o → H' a = some o) → Ow P w K F' H' (.ol ds) v T → T.Nodup → (∀ a ∈ T, F' a = none) → Q v H')
    (o : OwL P w K F H ds vs []) : ∀ p, H p = none → Q (.ref p) (upd H p (.lst vs)) := fun p hp =>
  k (.ref p) F _ [p] (step_new hp) (sub_new hs hp) (.ol (S := []) upd_same (o.mono (fun _ _ e => e) fun _ q => nomatch q)) (by simp) fun a ha => by simp at ha; subst ha; exact free_new hs hp
/-- a new tuple of what is frozen -/
theorem ro_newT {ds : List Dat} {vs : List V} (hs : ∀ a o, F a = some o → H a = some o) (k : ∀ v F' H' T, Step F [] H F' T H' → (∀ a o, F' a = some o → H' a = some o) → Ow P w K F' H' (.tup ds) v T → T.Nodup → (∀ a ∈ T, F' a = none) → Q v H')
    (o : OwL P w K F H ds vs []) : ∀ p, H p = none → Q (.ref p) (upd H p (.tup vs)) := fun p hp =>
  k (.ref p) (upd F p (.tup vs)) _ [] (step_newF (fun _ z => by cases z) hs hp) (sub_newF hs) (.tup (SqT.of upd_same) (o.mono (fun a u e => by rw [upd_ne (ne_of_none (hs a u e) hp)]; exact e) fun _ q => nomatch q)) List.nodup_nil fun _ q => nomatch q
end
def dInt2 (C : Int → Int → Bool) (g : Int → Int → Dat) : List Dat → Option Dat
  | [.int i, .int j] => if C i j = true then some (g i j) else none
  | _ => none
theorem dInt2_inv {C : Int → Int → Bool} {g : Int → Int → Dat} {ds : List Dat} {d : Dat} (h : dInt2 C g ds = some d) : ∃ i j, ds = [.int i, .int j] ∧ C i j = true ∧ d = g i j := by
  unfold dInt2 at h
  split at h
  · rename_i i j
    split at h
    · rename_i hc
      exact ⟨i, j, rfl, hc, (Option.some.inj h).symm⟩
    · cases h
  · cases h
theorem ro_int2 {C : Int → Int → Bool} {Cp : Int → Int → Prop} {g : Int → Int → Int} (hC : ∀ i j, C i j = true → Cp i j) : RO X (r2 (rI Cp fun i j => .int (g i j))) (dInt2 C fun i j => .int (g i j)) := by
  intro F H ds vs B d Q hs o e k
  obtain ⟨i, j, rfl, hc, rfl⟩ := dInt2_inv e
  obtain ⟨v, u, S1, S2, rfl, h1, h2⟩ := o.two
  obtain ⟨rfl, _⟩ := h1.int_inv
  obtain ⟨rfl, _⟩ := h2.int_inv
  exact ⟨_, _, rfl, i, j, rfl, rfl, hC i j hc, ro_fin hs k (.int _)⟩
theorem ro_intB {g : Int → Int → Bool} : RO X (r2 (rI0 fun i j => .bl (g i j))) (dInt2 (fun _ _ => true) fun i j => .bl (g i j)) := by
  intro F H ds vs B d Q hs o e k
  obtain ⟨i, j, rfl, hc, rfl⟩ := dInt2_inv e
  obtain ⟨v, u, S1, S2, rfl, h1, h2⟩ := o.two
  obtain ⟨rfl, _⟩ := h1.int_inv
  obtain ⟨rfl, _⟩ := h2.int_inv
  exact ⟨_, _, rfl, i, j, rfl, rfl, ro_fin hs k (.bl _)⟩
abbrev dMulI := dInt2 (fun i j => (decide (-(2 ^ 64) < i) && decide (i < 2 ^ 64)) || (decide (-(2 ^ 64) < j) && decide (j < 2 ^ 64))) fun i j => .int (i * j)
abbrev dFdiv := dInt2 (fun _ j => decide (0 < j) && decide (j < 1073741824)) fun i j => .int (i / j)
abbrev dMod := dInt2 (fun _ j => decide (0 < j)) fun i j => .int (i % j)
abbrev dPow := dInt2 (fun i j => decide (0 ≤ j) && decide (j ≤ 1000000) && decide (i.natAbs < 2 ^ 64)) fun i j => .int (i ^ j.toNat)
abbrev dGt := dInt2 (fun _ _ => true) fun i j => .bl (decide (j < i))
abbrev dGe := dInt2 (fun _ _ => true) fun i j => .bl (decide (j ≤ i))
theorem ro_mulI : RO X (r2 (rI CMul fun i j => .int (i * j))) dMulI := ro_int2 fun i j h => by
  simp only [Bool.or_eq_true, Bool.and_eq_true, decide_eq_true_eq] at h
  exact h
theorem ro_fdiv : RO X (r2 (rI CDiv fun i j => .int (i / j))) dFdiv := ro_int2 fun i j h => by
  simp only [Bool.and_eq_true, decide_eq_true_eq] at h
  exact h
theorem ro_mod : RO X (r2 (rI (fun _ j => 0 < j) fun i j => .int (i % j))) dMod := ro_int2 fun i j h => by simpa using h
theorem ro_pow : RO X (r2 (rI CPow fun i j => .int (i ^ j.toNat))) dPow := ro_int2 fun i j h => by
  simp only [Bool.and_eq_true, decide_eq_true_eq] at h
  exact ⟨h.1.1, h.1.2, h.2⟩
theorem ro_gt : RO X (r2 (rI0 fun i j => .bl (decide (j < i)))) dGt := ro_intB
theorem ro_ge : RO X (r2 (rI0 fun i j => .bl (decide (j ≤ i)))) dGe := ro_intB
end
end B
set_option Elab.async false
set_option linter.all false
set_option maxRecDepth 100000
namespace B
open PySem PySem.Spec PyProof.Rows L2
variable [TabT]
mutual
def pyd : Dat → PyData
  | .non => .none
  | .bl b => .bool b
  | .int i => .int i
  | .str x => .str x
  | .raw _ => .none
  | .ob _ _ => .none
  | .fn _ => .none
  | .tup ds => .tuple (pyds ds)
  | .lst ds => .list (pyds ds)
  | .dic _ _ _ => .none
  | .ol ds => .list (pyds ds)
  | .od _ _ _ => .none
def pyds : List Dat → List PyData
  | [] => []
  | d :: ds => pyd d :: pyds ds
end
mutual
/-- none, bools, ints, texts, lists and tuples of these, to a depth -/
def pl : Nat → Dat → Bool
  | _, .non => true
  | _, .bl _ => true
  | _, .int _ => true
  | _, .str _ => true
  | _, .raw _ => false
  | _, .ob _ _ => false
  | _, .fn _ => false
  | n, .tup ds => pls n ds
  | n, .lst ds => pls n ds
  | _, .dic _ _ _ => false
  | n, .ol ds => pls n ds
  | _, .od _ _ _ => false
def pls : Nat → List Dat → Bool
  | 0, _ => false
  | _ + 1, [] => true
  | n + 1, d :: ds => pl n d && pls (n + 1) ds
end
mutual
theorem pl_plain : ∀ (n : Nat) (d : Dat), pl n d = true → (pyd d).plain = true ∧ (pyd d).depth ≤ n
  | _, .non, _ => ⟨rfl, Nat.zero_le _⟩
  | _, .bl _, _ => ⟨rfl, Nat.zero_le _⟩
  | _, .int _, _ => ⟨rfl, Nat.zero_le _⟩
  | _, .str _, _ => ⟨rfl, Nat.zero_le _⟩
  | _, .raw _, h => by simp [pl] at h
  | _, .ob _ _, h => by simp [pl] at h
  | _, .fn _, h => by simp [pl] at h
  | n, .tup ds, h => by
    have := pls_plain n ds (by rw [pl] at h; exact h)
    rw [pyd]; exact ⟨by rw [PyData.plain]; exact this.1, by rw [PyData.depth]; exact this.2⟩
  | n, .lst ds, h => by
    have := pls_plain n ds (by rw [pl] at h; exact h)
    rw [pyd]; exact ⟨by rw [PyData.plain]; exact this.1, by rw [PyData.depth]; exact this.2⟩
  | _, .dic _ _ _, h => by simp [pl] at h
  | n, .ol ds, h => by
    have := pls_plain n ds (by rw [pl] at h; exact h)
    rw [pyd]; exact ⟨by rw [PyData.plain]; exact this.1, by rw [PyData.depth]; exact this.2⟩
  | _, .od _ _ _, h => by simp [pl] at h
theorem pls_plain : ∀ (n : Nat) (ds : List Dat), pls n ds = true → PyData.plainAll (pyds ds) = true ∧ PyData.depthAll (pyds ds) + 1 ≤ n
  | 0, _, h => by simp [pls] at h
  | n + 1, [], _ => ⟨rfl, by simp [pyds, PyData.depthAll]⟩
  | n + 1, d :: ds, h => by
    rw [pls, Bool.and_eq_true] at h
    obtain ⟨h1, h2⟩ := h
    have a := pl_plain n d h1
    have b := pls_plain (n + 1) ds h2
    rw [pyds]
    refine ⟨by rw [PyData.plainAll, a.1, b.1]; rfl, ?_⟩
    rw [PyData.depthAll]
    have := b.2
    have := a.2
    omega
end
section
variable {X : Cx} {P : Program} {w : World} {K : PySem.W.Frag} {F F' H H' : Hp} {S T : List Addr}
mutual
theorem Ow.dp (hs : ∀ a o, F a = some o → H a = some o) : ∀ {n : Nat} {d : Dat} {v : V} {S : List Addr}, Ow P w K F H d v S → pl n d = true → Dp K H v (pyd d)
  | _, _, _, _, .non, _ => .non
  | _, _, _, _, .bl b, _ => .bl b
  | _, _, _, _, .int i, _ => .int i
  | _, _, _, _, .str x, _ => .str x
  | _, _, _, _, .raw v, h => by simp [pl] at h
  | _, _, _, _, .ob _ _ _ _, h => by simp [pl] at h
  | _, _, _, _, .ob0 _ _, h => by simp [pl] at h
  | _, _, _, _, .fn _ _, h => by simp [pl] at h
  | n, _, _, _, .tup h l, e => by rw [pyd]; exact .tup (SqT.up hs h) (OwL.dp hs (n := n) l (by rw [pl] at e; exact e))
  | n, _, _, _, .lst h l, e => by rw [pyd]; exact .lst (.inl (Rd.mono hs h)) (OwL.dp hs (n := n) l (by rw [pl] at e; exact e))
  | n, _, _, _, .ol h l, e => by rw [pyd]; exact .lst (SqL.of h) (OwL.dp hs (n := n) l (by rw [pl] at e; exact e))
  | _, _, _, _, .dic h k l, e => by simp [pl] at e
  | _, _, _, _, .od h k l, e => by simp [pl] at e
  | _, _, _, _, .dicK h k l, e => by simp [pl] at e
  | _, _, _, _, .odK h k l, e => by simp [pl] at e
theorem OwL.dp (hs : ∀ a o, F a = some o → H a = some o) : ∀ {n : Nat} {ds : List Dat} {vs : List V} {S : List Addr}, OwL P w K F H ds vs S → pls n ds = true → DpAll K H vs (pyds ds)
  | _, _, _, _, .nil, _ => .nil
  | 0, _, _, _, .cons h l, e => by simp [pls] at e
  | n + 1, _, _, _, .cons h l, e => by
    rw [pls, Bool.and_eq_true] at e
    rw [pyds]
    exact .cons (Ow.dp hs (n := n) h e.1) (OwL.dp hs (n := n + 1) l e.2)
end
def rEqP (K : PySem.W.Frag) (neg : Bool) : R2 := fun x y H Q => ∃ d e, Dp K H x d ∧ Dp K H y e ∧ d.plain = true ∧ e.plain = true ∧ d.depth ≤ 64 ∧ Q (.bl (if neg then !PyData.eqv d e else PyData.eqv d e)) H
theorem op_eqP (hu : X.A.units + 64 < cLine) : OpR X (compareOp .Eq) (rEqP X.K false) := by
  intro pins s σ H x y v u Q I rx ry h
  obtain ⟨d, e, hd, he, sd, se, dd, q⟩ := h
  obtain ⟨as, r1⟩ := Dp.reads I d x v hd rx
  obtain ⟨bs, r2⟩ := Dp.reads I e y u he ry
  exact SeqAt.eq_plain r1 r2 sd se (by have := Nat.min_le_left d.depth e.depth; omega) ⟨.bl _, H, I, rfl, q⟩
theorem op_neP (hu : X.A.units + 64 < cLine) : OpR X (compareOp .NotEq) (rEqP X.K true) := by
  intro pins s σ H x y v u Q I rx ry h
  obtain ⟨d, e, hd, he, sd, se, dd, q⟩ := h
  obtain ⟨as, r1⟩ := Dp.reads I d x v hd rx
  obtain ⟨bs, r2⟩ := Dp.reads I e y u he ry
  exact SeqAt.ne_plain r1 r2 sd se (by have := Nat.min_le_left d.depth e.depth; omega) ⟨.bl _, H, I, rfl, q⟩
/-- == of data -/
def dq (a b : Dat) : Bool := PyData.eqv (pyd a) (pyd b)
def dEq (neg : Bool) : List Dat → Option Dat
  | [a, b] => if pl 60 a && pl 60 b then some (.bl (if neg then !dq a b else dq a b)) else none
  | _ => none
theorem dEq_inv {neg : Bool} {ds : List Dat} {d : Dat} (h : dEq neg ds = some d) : ∃ a b, ds = [a, b] ∧ pl 60 a = true ∧ pl 60 b = true ∧ d = .bl (if neg then !dq a b else dq a b) := by
  unfold dEq at h
  split at h
  · rename_i a b
    split at h
    · rename_i hc
      rw [Bool.and_eq_true] at hc
      exact ⟨a, b, rfl, hc.1, hc.2, (Option.some.inj h).symm⟩
    · cases h
  · cases h
theorem ro_eq {neg : Bool} : RO X (r2 (rEqP X.K neg)) (dEq neg) := by
  intro F H ds vs B d Q hs o e k
  obtain ⟨a, b, rfl, ha, hb, rfl⟩ := dEq_inv e
  obtain ⟨v, u, S1, S2, rfl, h1, h2⟩ := o.two
  have p1 := pl_plain _ _ ha
  have p2 := pl_plain _ _ hb
  exact ⟨_, _, rfl, _, _, h1.dp hs ha, h2.dp hs hb, p1.1, p2.1, by have := p1.2; omega, ro_fin hs k (.bl _)⟩
/-- x in a list, in a tuple -/
def rInP (K : PySem.W.Frag) (neg : Bool) : R2 := fun x y H Q => ∃ d ds, Dp K H x d ∧ (Dp K H y (.list ds) ∨ Dp K H y (.tuple ds)) ∧ d.plain = true ∧ PyData.plainAll ds = true ∧ d.depth ≤ 64 ∧
  Q (.bl (if neg then !(ds.any fun z => PyData.eqv z d) else ds.any fun z => PyData.eqv z d)) H
theorem op_notInP (hu : X.A.units + 65 < cLine) : OpR X (compareOp .NotIn) (rInP X.K true) := by
  intro pins s σ H x y v u Q I rx ry h
  obtain ⟨d, ds, hd, he, sd, se, dd, q⟩ := h
  obtain ⟨as, r1⟩ := Dp.reads I d x v hd rx
  have hr : X.A.units + 1 + min (PyData.depthAll ds) d.depth < cLine := by have := Nat.min_le_right (PyData.depthAll ds) d.depth; omega
  rcases he with he | he
  · obtain ⟨bs, r2⟩ := Dp.reads I _ y u he ry
    exact SeqAt.notIn_list_data r2 r1 se sd hr ⟨.bl _, H, I, rfl, q⟩
  · obtain ⟨bs, r2⟩ := Dp.reads I _ y u he ry
    exact SeqAt.notIn_tuple_data r2 r1 se sd hr ⟨.bl _, H, I, rfl, q⟩
def dIn (neg : Bool) : List Dat → Option Dat
  | [x, c] => match sit c with
    | some ds => if pl 60 x && pls 60 ds then some (.bl (if neg then !(ds.any fun z => dq z x) else ds.any fun z => dq z x)) else none
    | none => none
  | _ => none
theorem pyds_map : ∀ ds : List Dat, pyds ds = ds.map pyd
  | [] => rfl
  | d :: ds => by rw [pyds, List.map_cons, pyds_map ds]
theorem dIn_inv {neg : Bool} {l : List Dat} {d : Dat} (h : dIn neg l = some d) : ∃ x c ds, l = [x, c] ∧ sit c = some ds ∧ pl 60 x = true ∧ pls 60 ds = true ∧ d = .bl (if neg then !(ds.any fun z => dq z x) else ds.any fun z => dq z x) := by
  unfold dIn at h
  split at h
  · rename_i x c
    split at h
    · rename_i ds hc
      split at h
      · rename_i hp
        rw [Bool.and_eq_true] at hp
        exact ⟨x, c, ds, rfl, hc, hp.1, hp.2, (Option.some.inj h).symm⟩
      · cases h
    · cases h
  · cases h
theorem ro_in {neg : Bool} : RO X (r2 (rInP X.K neg)) (dIn neg) := by
  intro F H l vs B d Q hs o e k
  obtain ⟨x, c, ds, rfl, hc, hx, hd, rfl⟩ := dIn_inv e
  obtain ⟨v, u, S1, S2, rfl, h1, h2⟩ := o.two
  have p1 := pl_plain _ _ hx
  have p2 := pls_plain _ _ hd
  obtain ⟨a, ws, S3, rfl, hq, hl⟩ := h2.sit_inv hs hc
  have hall := hl.dp hs hd
  have e2 : (pyds ds).any (fun z => PyData.eqv z (pyd x)) = ds.any fun z => dq z x := by rw [pyds_map, List.any_map]; rfl
  refine ⟨_, _, rfl, pyd x, pyds ds, h1.dp hs hx, ?_, p1.1, p2.1, by have := p1.2; omega, ?_⟩
  · rcases hq with hq | hq
    · exact .inl (.lst hq hall)
    · exact .inr (.tup hq hall)
  · rw [e2]
    exact ro_fin hs k (.bl _)
/-- is None, is not None -/
def isN : Dat → Bool
  | .non => true
  | .raw .non => true
  | _ => false
theorem Ow.isN {d : Dat} {v : V} (h : Ow P w K F H d v S) : decide (v = .non) = isN d := by
  cases h <;> try rfl
  cases v <;> rfl
def dIsN (neg : Bool) : List Dat → Option Dat
  | [x, .non] => some (.bl (if neg then !B.isN x else B.isN x))
  | _ => none
theorem ro_isN : RO X (r2 (fun x y H Q => y = .non ∧ Q (.bl (decide (x = .non))) H)) (dIsN false) := by
  intro F H l vs B d Q hs o e k
  unfold dIsN at e
  split at e
  · obtain ⟨v, u, S1, S2, rfl, h1, h2⟩ := o.two
    obtain ⟨rfl, _⟩ := h2.non_inv
    refine ⟨_, _, rfl, rfl, ?_⟩
    rw [h1.isN]
    have e' := Option.some.inj e
    subst e'
    exact ro_fin hs k (.bl _)
  · cases e
def rCatR : R2 := fun x y H Q => ∃ l b xs zs, x = .ref l ∧ y = .ref b ∧ Rd H l (.lst xs) ∧ Rd H b (.lst zs) ∧ xs.length + zs.length ≤ sizeLine ∧ ∀ p, H p = none → Q (.ref p) (upd H p (.lst (xs ++ zs)))
theorem op_catR : OpR X (binaryOp .Add) rCatR := by
  intro pins s σ H x y v u Q I rx ry h
  obtain ⟨l, b, xs, zs, rfl, rfl, hH, hB, hz, q⟩ := h
  cases rx
  cases ry
  obtain ⟨z, its, n, r, e⟩ := hH.ok I.hok
  obtain ⟨z2, its2, n2, r2, e2⟩ := hB.ok I.hok
  have hl := r.length
  have hl2 := r2.length
  refine PySem.P.add_list e e2 ?_ (by rw [List.size_toArray, List.size_toArray]; omega)
  have ea : its.toArray ++ its2.toArray = (its ++ its2).toArray := by simp
  rw [ea]
  exact ⟨.ref _, _, I.lnew (t' := s.toks) (r.append r2) (by rw [List.length_append]; omega), rfl, q _ I.fresh⟩
def rAddA (K : PySem.W.Frag) : R2 := fun x y H Q => rI0 (fun i j => .int (i + j)) x y H Q ∨ (∃ i j, x = .str i ∧ y = .str j ∧ i.length + j.length ≤ sizeLine ∧ Q (.str (i ++ j)) H) ∨ rCatR x y H Q ∨ rCatT K x y H Q
theorem op_addA : OpR X (binaryOp .Add) (rAddA X.K) := op_add.or (op_add_str.or (op_catR.or op_catT))
def dAdd : List Dat → Option Dat
  | [.int i, .int j] => some (.int (i + j))
  | [.str i, .str j] => if i.length + j.length ≤ sizeLine then some (.str (i ++ j)) else none
  | [.tup ds, .tup es] => if ds.length + es.length ≤ sizeLine && ims ds && ims es && !ds.isEmpty then some (.tup (ds ++ es)) else none
  | [a, b] => match lit a, lit b with
    | some ds, some es => if ds.length + es.length ≤ sizeLine && ims ds && ims es then some (.ol (ds ++ es)) else none
    | _, _ => none
  | _ => none
theorem ro_add : RO X (r2 (rAddA X.K)) dAdd := by
  intro F H l vs B d Q hs o e k
  unfold dAdd at e
  split at e
  · obtain ⟨v, u, S1, S2, rfl, h1, h2⟩ := o.two
    obtain ⟨rfl, _⟩ := h1.int_inv
    obtain ⟨rfl, _⟩ := h2.int_inv
    have e' := Option.some.inj e
    subst e'
    exact ⟨_, _, rfl, .inl ⟨_, _, rfl, rfl, ro_fin hs k (.int _)⟩⟩
  · obtain ⟨v, u, S1, S2, rfl, h1, h2⟩ := o.two
    obtain ⟨rfl, _⟩ := h1.str_inv
    obtain ⟨rfl, _⟩ := h2.str_inv
    split at e
    · rename_i hz
      have e' := Option.some.inj e
      subst e'
      exact ⟨_, _, rfl, .inr (.inl ⟨_, _, rfl, rfl, hz, ro_fin hs k (.str _)⟩)⟩
    · cases e
  · rename_i ds es
    obtain ⟨v, u, S1, S2, rfl, h1, h2⟩ := o.two
    obtain ⟨a, xs, rfl, q1, l1⟩ := h1.tup_inv
    obtain ⟨b, ys, rfl, q2, l2⟩ := h2.tup_inv
    split at e
    · rename_i hz
      simp only [Bool.and_eq_true, decide_eq_true_eq, Bool.not_eq_true', List.isEmpty_eq_false_iff] at hz
      obtain ⟨⟨⟨z1, z2⟩, z3⟩, z4⟩ := hz
      have e' := Option.some.inj e
      subst e'
      have m1 := l1.ims z2
      have m2 := l2.ims z3
      have n1 := m1.length
      have n2 := m2.length
      refine ⟨_, _, rfl, .inr (.inr (.inr ⟨a, b, xs, ys, rfl, rfl, SqT.up hs q1, SqT.up hs q2, fun z => z4 ?_, by omega, fun z => ?_, fun z => ?_⟩))⟩
      · subst z
        exact List.length_eq_zero_iff.mp (by simpa using n1)
      · subst z
        have : es = [] := List.length_eq_zero_iff.mp (by simpa using n2)
        subst this
        rw [List.append_nil] at k
        exact ro_fin hs k (.tup q1 m1)
      · exact ro_newT hs k (m1.app m2)
    · cases e
  · rename_i a b _ _ _
    obtain ⟨v, u, S1, S2, rfl, h1, h2⟩ := o.two
    split at e
    · rename_i ds es e1 e2
      split at e
      · rename_i hz
        simp only [Bool.and_eq_true, decide_eq_true_eq] at hz
        obtain ⟨⟨z1, z2⟩, z3⟩ := hz
        have e' := Option.some.inj e
        subst e'
        obtain ⟨a1, xs, S3, rfl, q1, l1⟩ := h1.lit_inv hs e1
        obtain ⟨b1, ys, S4, rfl, q2, l2⟩ := h2.lit_inv hs e2
        have m1 := l1.ims z2
        have m2 := l2.ims z3
        have n1 := m1.length
        have n2 := m2.length
        exact ⟨_, _, rfl, .inr (.inr (.inl ⟨a1, b1, xs, ys, rfl, rfl, q1, q2, by omega, ro_newL hs k (m1.app m2)⟩))⟩
      · cases e
    · cases e
  · cases e
end
end B
set_option Elab.async false
set_option linter.all false
set_option maxRecDepth 100000
namespace B
open PySem PySem.Spec PyProof.Rows L2
variable [TabT]
section
variable {X : Cx} {P : Program} {w : World} {K : PySem.W.Frag} {F F' H H' : Hp} {S T : List Addr} {pins : List (Addr × Obj)} {σ : L2.St} {s : Shared}
mutual
theorem Ow.nis (I : Inv X pins σ H s) (hs : ∀ a o, F a = some o → H a = some o) : ∀ (d : Dat) (k : NestedKey) (v : V) (u : Value) (S : List Addr), Ow X.prog X.w X.K F H d v S → nkey d = some k → RelV v u → NestedIs s.heap k u
  | .non, k, v, u, S, o, e, r => by
    obtain ⟨rfl, _⟩ := o.non_inv
    cases r
    simp only [nkey, Option.some.injEq] at e
    subst e
    exact .none
  | .bl b, k, v, u, S, o, e, r => by
    obtain ⟨rfl, _⟩ := o.bl_inv
    cases r
    simp only [nkey, Option.some.injEq] at e
    subst e
    exact .bool rfl
  | .int i, k, v, u, S, o, e, r => by
    obtain ⟨rfl, _⟩ := o.int_inv
    obtain ⟨t, rfl⟩ := r
    simp only [nkey, Option.some.injEq] at e
    subst e
    exact .int i t
  | .str x, k, v, u, S, o, e, r => by
    obtain ⟨rfl, _⟩ := o.str_inv
    obtain ⟨t, rfl⟩ := r
    simp only [nkey, Option.some.injEq] at e
    subst e
    exact .text x t
  | .raw _, _, _, _, _, _, e, _ => by cases e
  | .ob _ _, _, _, _, _, _, e, _ => by cases e
  | .fn _, _, _, _, _, _, e, _ => by cases e
  | .tup ds, k, v, u, S, o, e, r => by
    obtain ⟨a, vs, rfl, q, l⟩ := o.tup_inv
    cases r
    rw [nkey] at e
    cases e1 : nkeys ds with
    | none => rw [e1] at e; cases e
    | some ks =>
      rw [e1] at e
      simp only [Option.map_some, Option.some.injEq] at e
      subst e
      obtain ⟨its, rv, ⟨ob, h1, h2, n, h3⟩, _⟩ := I.tuple (SqT.up hs q)
      exact .tup h1 h2 h3 (OwL.nis I hs ds ks vs its S l e1 rv)
  | .lst _, _, _, _, _, _, e, _ => by cases e
  | .dic _ _ _, _, _, _, _, _, e, _ => by cases e
  | .ol _, _, _, _, _, _, e, _ => by cases e
  | .od _ _ _, _, _, _, _, _, e, _ => by cases e
theorem OwL.nis (I : Inv X pins σ H s) (hs : ∀ a o, F a = some o → H a = some o) : ∀ (ds : List Dat) (ks : List NestedKey) (vs : List V) (us : List Value) (S : List Addr), OwL X.prog X.w X.K F H ds vs S → nkeys ds = some ks → Vals vs us → NestedAll s.heap ks us
  | [], ks, vs, us, S, o, e, r => by
    obtain ⟨rfl, _⟩ := o.nil_inv
    cases r
    simp only [nkeys, Option.some.injEq] at e
    subst e
    exact .nil
  | d :: ds, ks, vs, us, S, o, e, r => by
    obtain ⟨v, ws, S1, S2, rfl, _, h1, h2⟩ := o.cons_inv
    cases r with
    | cons r1 r2 =>
      rw [nkeys] at e
      cases e1 : nkey d with
      | none => rw [e1] at e; simp at e
      | some k =>
        cases e2 : nkeys ds with
        | none => rw [e1, e2] at e; simp at e
        | some ks' =>
          rw [e1, e2] at e
          simp only [Option.some.injEq] at e
          subst e
          exact .cons (Ow.nis I hs d k v _ S1 h1 e1 r1) (OwL.nis I hs ds ks' ws _ S2 h2 e2 r2)
end
theorem tkey_inv {d : Dat} {k : NestedKey} (e : tkey d = some k) : nkey d = some k ∧ k.depth ≤ 8 ∧ ∃ ds, d = .tup ds := by
  unfold tkey at e
  split at e
  · rename_i ds
    split at e
    · rename_i ks h
      split at e
      · rename_i hd
        have e' := Option.some.inj e
        subst e'
        refine ⟨?_, hd, ds, rfl⟩
        rw [nkey, h]; rfl
      · cases e
    · cases e
  · cases e
/-- the key as the library's kind has it -/
theorem Ow.key (I : Inv X pins σ H s) (hs : ∀ a o, F a = some o → H a = some o) {d : Dat} {k : NestedKey} {v : V} {u : Value} (o : Ow X.prog X.w X.K F H d v S) (e : tkey d = some k) (r : RelV v u) : ∃ a, v = .ref a ∧ u = .ref a ∧ (nestedKind X.prog X.w).is s.heap k a := by
  obtain ⟨e1, e2, ds, rfl⟩ := tkey_inv e
  obtain ⟨a, vs, rfl, _, _⟩ := id o.tup_inv
  have hn := Ow.nis I hs _ k _ u S o e1 r
  cases r
  exact ⟨a, rfl, rfl, hn, e2⟩
theorem KyL.keys (I : Inv X pins σ H s) (hs : ∀ a o, F a = some o → H a = some o) : ∀ {ks : List Dat} {kvs : List (NestedKey × Addr × V)}, KyL X.prog X.w X.K F H ks kvs → ∀ x ∈ kvs, (nestedKind X.prog X.w).is s.heap x.1 x.2.1
  | _, _, .nil, x, hx => nomatch hx
  | _, _, .cons o e l, x, hx => by
    rcases List.mem_cons.mp hx with rfl | hx
    · obtain ⟨a, h1, _, h2⟩ := Ow.key I hs o e rfl
      cases h1
      exact h2
    · exact KyL.keys I hs l x hx
abbrev PairN : List (NestedKey × Addr × V) → List (NestedKey × Addr × Value) → Prop := Paired fun (p : NestedKey × Addr × V) (q : NestedKey × Addr × Value) => p.1 = q.1 ∧ p.2.1 = q.2.1 ∧ RelV p.2.2 q.2.2
theorem PairN.mem {kvs : List (NestedKey × Addr × V)} {xs : List (NestedKey × Addr × Value)} (r : PairN kvs xs) : ∀ y ∈ xs, ∃ x ∈ kvs, x.1 = y.1 ∧ x.2.1 = y.2.1 ∧ RelV x.2.2 y.2.2 := by
  induction r with
  | nil => intro y hy; exact nomatch hy
  | cons h _ ih =>
    intro y hy
    rcases List.mem_cons.mp hy with rfl | hy
    · exact ⟨_, List.mem_cons_self, h⟩
    · obtain ⟨x, hx, q⟩ := ih y hy
      exact ⟨x, List.mem_cons_of_mem _ hx, q⟩
/-- what stands at a dict's address -/
theorem dn_of (I : Inv X pins σ H s) (hs : ∀ a o, F a = some o → H a = some o) {a : Addr} {kvs : List (NestedKey × Addr × V)} {ks : List Dat} (h : H a = some (dnO X.prog X.w a kvs)) (ky : KyL X.prog X.w X.K F H ks kvs) :
    kvs.length ≤ sizeLine ∧ (a == sysModules) = false ∧ ∃ xs, PairN kvs xs ∧ s.heap.DictOfH (nestedKind X.prog X.w) a xs := by
  obtain ⟨⟨z, hm, xs, r, o, es, ep, h1, h2, h3, h4, h5⟩, _, _⟩ := I.hok a _ h
  refine ⟨z, hm, xs, r, o, es, ep, h1, h2, h3, h4, fun y hy => ?_, h5⟩
  obtain ⟨x, hx, e1, e2, _⟩ := PairN.mem r y hy
  rw [← e1, ← e2]
  exact KyL.keys I hs ky x hx
/-- the value at a key -/
def dFind (k : NestedKey) : List Dat → List Dat → Option Dat
  | kd :: ks, v :: vs => if tkey kd = some k then some v else dFind k ks vs
  | _, _ => none
theorem dFind_at : ∀ {ks : List Dat} {kvs : List (NestedKey × Addr × V)}, KyL P w K F H ks kvs → ∀ {ds : List Dat} {xs : List (NestedKey × Addr × Value)} {S : List Addr} (k : NestedKey), OwL P w K F H ds (kvs.map (·.2.2)) S → PairN kvs xs →
    (dFind k ks ds = none → atKey xs k = none) ∧ ∀ d, dFind k ks ds = some d → ∃ b u v S1, atKey xs k = some (b, u) ∧ RelV v u ∧ Ow P w K F H d v S1 ∧ ∀ a ∈ S1, a ∈ S
  | _, _, .nil, ds, xs, S, k, o, r => by cases r; exact ⟨fun _ => rfl, fun d h => by unfold dFind at h; cases h⟩
  | _, _, @KyL.cons _ _ _ _ _ _ d0 k0 a0 v0 ks kvs o0 e0 l, ds, _, S, k, o, r => by
    cases r with
    | @cons _ q _ xs h rs =>
    obtain ⟨qk, qa, qv⟩ := q
    obtain ⟨h1, h2, h3⟩ := h
    have h1 : k0 = qk := h1
    have h2 : a0 = qa := h2
    have h3 : RelV v0 qv := h3
    subst h1 h2
    rw [List.map_cons] at o
    cases ds with
    | nil => have := o.length; simp at this
    | cons e1 ds =>
      obtain ⟨v, ws, S1, S2, ev, es, g1, g2⟩ := o.cons_inv
      simp only [List.cons.injEq] at ev
      obtain ⟨rfl, rfl⟩ := ev
      have t := dFind_at l k g2 rs
      unfold dFind
      rw [e0]
      by_cases hk : k0 = k
      · subst hk
        rw [if_pos rfl]
        refine ⟨fun z => (by cases z), fun d hd => ?_⟩
        have hd := Option.some.inj hd
        subst hd
        exact ⟨a0, qv, v0, S1, by simp [atKey], h3, g1, fun x hx => by rw [es]; exact List.mem_append_left _ hx⟩
      · have hne : ¬ some k0 = some k := fun z => hk (Option.some.inj z)
        rw [if_neg hne]
        have e2 : atKey ((k0, a0, qv) :: xs) k = atKey xs k := by simp [atKey, List.find?_cons, hk]
        rw [e2]
        refine ⟨t.1, fun d hd => ?_⟩
        obtain ⟨b, u, v, S3, t1, t2, t3, t4⟩ := t.2 d hd
        exact ⟨b, u, v, S3, t1, t2, t3, fun x hx => by rw [es]; exact List.mem_append_right _ (t4 x hx)⟩
def dHas (k : NestedKey) (ks : List Dat) : Bool := ks.any fun kd => decide (tkey kd = some k)
theorem dHas_at : ∀ {ks : List Dat} {kvs : List (NestedKey × Addr × V)}, KyL P w K F H ks kvs → ∀ {xs : List (NestedKey × Addr × Value)} (k : NestedKey), PairN kvs xs → (atKey xs k).isSome = dHas k ks
  | _, _, .nil, xs, k, r => by cases r; rfl
  | _, _, @KyL.cons _ _ _ _ _ _ d0 k0 a0 v0 ks kvs o0 e0 l, _, k, r => by
    cases r with
    | @cons _ q _ xs h rs =>
    obtain ⟨qk, qa, qv⟩ := q
    have h1 : k0 = qk := h.1
    subst h1
    have t := dHas_at l k rs
    unfold dHas
    rw [List.any_cons, e0]
    by_cases hk : k0 = k
    · subst hk; simp [atKey]
    · have e2 : atKey ((k0, qa, qv) :: xs) k = atKey xs k := by simp [atKey, List.find?_cons, hk]
      rw [e2, t]
      have : decide (some k0 = some k) = false := decide_eq_false fun z => hk (Option.some.inj z)
      rw [this, Bool.false_or]
      rfl
/-- a dict of the tuples' kind that is read -/
inductive Dk (P : Program) (w : World) (K : PySem.W.Frag) (F H : Hp) : Dat → V → List Dat → List Dat → Prop
  | mk {d : Dat} {a : Addr} {ks ds : List Dat} {S : List Addr} {kvs : List (NestedKey × Addr × V)} : H a = some (dnO P w a kvs) → KyL P w K F H ks kvs → OwL P w K F H ds (kvs.map (·.2.2)) S → Dk P w K F H d (.ref a) ks ds
def dit : Dat → Option (Bool × List Dat × List Dat)
  | .dic nk ks vs => some (nk, ks, vs)
  | .od nk ks vs => some (nk, ks, vs)
  | _ => none
theorem Ow.dk (hs : ∀ a o, F a = some o → H a = some o) {d : Dat} {v : V} {ks ds : List Dat} (o : Ow P w K F H d v S) (e : dit d = some (true, ks, ds)) : Dk P w K F H d v ks ds := by
  cases o <;> simp [dit] at e
  · rename_i h k l
    obtain ⟨rfl, rfl⟩ := e
    exact .mk (hs _ _ h) k l
  · rename_i h k l
    obtain ⟨rfl, rfl⟩ := e
    exact .mk h k l
def rInN (P : Program) (w : World) (K : PySem.W.Frag) (neg : Bool) : R2 := fun x y H Q => ∃ F d c k ks ds S, (∀ a o, F a = some o → H a = some o) ∧ Ow P w K F H d x S ∧ tkey d = some k ∧ Dk P w K F H c y ks ds ∧ Q (.bl (if neg then !dHas k ks else dHas k ks)) H
theorem op_notInN (hu : X.A.units + 65 < cLine) : OpR X (compareOp .NotIn) (rInN X.prog X.w X.K true) := by
  intro pins s σ H x y v u Q I rx ry h
  obtain ⟨F, d, c, k, ks, ds, S, hs, o, ek, dk, q⟩ := h
  obtain ⟨b, rfl, rfl, hk⟩ := Ow.key I hs o ek rx
  cases dk with
  | mk h ky l =>
    cases ry
    obtain ⟨_, hm, xs, r, D⟩ := dn_of I hs h ky
    show wpAny _ _ (do return Value.bool (!(← contains (.ref _) (.ref b)))) _ _ _
    refine wpAny_bind (wpAny_contains_heap (show X.A.in1.units + 8 < cLine by show X.A.units + 1 + 8 < cLine; omega) hk hm D (wpAny_pure ⟨.bl _, H, I.tok _, ?_, q⟩))
    show _ = Value.bool _
    rw [dHas_at ky k r]; rfl
def dInN (neg : Bool) : List Dat → Option Dat
  | [x, c] => match dit c, tkey x with
    | some (true, ks, _), some k => some (.bl (if neg then !dHas k ks else dHas k ks))
    | _, _ => none
  | _ => none
theorem ro_inN {neg : Bool} : RO X (r2 (rInN X.prog X.w X.K neg)) (dInN neg) := by
  intro F H l vs B d Q hs o e k
  unfold dInN at e
  split at e
  · split at e
    · rename_i ks ds kk e1 e2
      have e' := Option.some.inj e
      subst e'
      obtain ⟨v, u, S1, S2, rfl, h1, h2⟩ := o.two
      exact ⟨_, _, rfl, F, _, _, kk, ks, ds, S1, hs, h1, e2, h2.dk hs e1, ro_fin hs k (.bl _)⟩
    · cases e
  · cases e
theorem RO.or {r r' : List V → Hp → VK → Prop} {f f' : List Dat → Option Dat} (h : RO X r f) (h' : RO X r' f') : RO X (fun vs H Q => r vs H Q ∨ r' vs H Q) (fun ds => match f ds with | some d => some d | none => f' ds) := by
  intro F H ds vs B d Q hs o e k
  cases q : f ds with
  | some d' =>
    simp only [q] at e
    have e' := Option.some.inj e
    subst e'
    exact .inl (h F H ds vs B d' Q hs o q k)
  | none =>
    simp only [q] at e
    exact .inr (h' F H ds vs B d Q hs o e k)
theorem RO.or2 {r r' : R2} {f f' : List Dat → Option Dat} (h : RO X (r2 r) f) (h' : RO X (r2 r') f') : RO X (r2 fun x y H Q => r x y H Q ∨ r' x y H Q) (fun ds => match f ds with | some d => some d | none => f' ds) := by
  intro F H ds vs B d Q hs o e k
  rcases (RO.or h h') F H ds vs B d Q hs o e k with ⟨x, y, e, q⟩ | ⟨x, y, e, q⟩
  · exact ⟨x, y, e, .inl q⟩
  · exact ⟨x, y, e, .inr q⟩
def rIxN (P : Program) (w : World) (K : PySem.W.Frag) : R2 := fun x y H Q => ∃ F d c k ks ds S e, (∀ a o, F a = some o → H a = some o) ∧ Ow P w K F H d y S ∧ tkey d = some k ∧ Dk P w K F H c x ks ds ∧ dFind k ks ds = some e ∧ im e = true ∧ ∀ v, Ow P w K F H e v [] → Q v H
end
end B
set_option Elab.async false
set_option linter.all false
set_option maxRecDepth 100000
namespace B
open PySem PySem.Spec PyProof.Rows L2
variable [TabT]
section
variable {X : Cx} {P : Program} {w : World} {K : PySem.W.Frag} {F F' H H' : Hp} {S T : List Addr} {pins : List (Addr × Obj)} {σ : L2.St} {s : Shared}
theorem ix_dictN (hu : X.A.units + 65 < cLine) : IxR X (rIxN X.prog X.w X.K) := by
  intro value slice pins s σ H x y v u Q I rx ry h hsub
  obtain ⟨F, d, c, k, ks, ds, S, e, hs, o, ek, dk, hf, him, q⟩ := h
  obtain ⟨b, rfl, rfl, hk⟩ := Ow.key I hs o ek ry
  cases dk with
  | mk h ky l =>
    cases rx
    obtain ⟨_, hm, xs, r, D⟩ := dn_of I hs h ky
    obtain ⟨b', u', v', S1, h1, h2, h3, _⟩ := (dFind_at ky k l r).2 e hf
    refine subscriptTail_builtinR (x := u') D.typeIs PySem.F.slot_dict_getitem.lookup (wpAny_getItem_heap (show X.A.in1.units + 8 < cLine by show X.A.units + 1 + 8 < cLine; omega) hk D h1 ⟨rfl, ?_⟩) hsub
    exact ⟨v', H, I.tok _, h2, q v' (h3.ims him)⟩
def dIx : List Dat → Option Dat
  | [.str z, .int i] => if z.length ≤ sizeLine then (atI z.cps.toList i).map fun c => .str ⟨#[c]⟩ else none
  | [c, k] => match sit c, k with
    | some ds, .int i => match atI ds i with
      | some e => if im e then some e else none
      | none => none
    | _, _ => match dit c, tkey k with
      | some (true, ks, ds), some kk => match dFind kk ks ds with
        | some e => if im e then some e else none
        | none => none
      | _, _ => none
  | _ => none
theorem OwL.atI {ds : List Dat} {vs : List V} {i : Int} {d : Dat} (h : OwL P w K F H ds vs S) (e : L2.atI ds i = some d) : ∃ v S1, L2.atI vs i = some v ∧ Ow P w K F H d v S1 := by
  unfold L2.atI at e ⊢
  rw [← h.length]
  cases q : ixN ds.length i with
  | none => rw [q] at e; cases e
  | some j =>
    rw [q] at e
    obtain ⟨v, S1, h1, h2, _⟩ := h.at (i := j) e
    exact ⟨v, S1, h1, h2⟩
def rIxA (P : Program) (w : World) (K : PySem.W.Frag) : R2 := fun x y H Q => rIx K x y H Q ∨ rIxN P w K x y H Q
theorem ix_all (hu : X.A.units + 65 < cLine) : IxR X (rIxA X.prog X.w X.K) := ix_seq.or (ix_dictN hu)
theorem ro_ix : RO X (r2 (rIxA X.prog X.w X.K)) dIx := by
  intro F H l vs B d Q hs o e k
  unfold dIx at e
  split at e
  · rename_i z i
    split at e
    · rename_i hz
      obtain ⟨c, hc, rfl⟩ := Option.map_eq_some_iff.mp e
      obtain ⟨v, u, S1, S2, rfl, h1, h2⟩ := o.two
      obtain ⟨rfl, _⟩ := h1.str_inv
      obtain ⟨rfl, _⟩ := h2.int_inv
      exact ⟨_, _, rfl, .inl (.inr (.inr ⟨z, i, c, rfl, rfl, hz, hc, ro_fin hs k (.str _)⟩))⟩
    · cases e
  · rename_i c kk _
    obtain ⟨v, u, S1, S2, rfl, h1, h2⟩ := o.two
    split at e
    · rename_i ds i e1 _
      split at e
      · rename_i it hi
        split at e
        · rename_i him
          have e' := Option.some.inj e
          subst e'
          obtain ⟨rfl, _⟩ := h2.int_inv
          obtain ⟨a, xs, S3, rfl, q, l⟩ := h1.sit_inv hs e1
          obtain ⟨v', S4, e5, o5⟩ := l.atI hi
          refine ⟨_, _, rfl, .inl ?_⟩
          rcases q with q | q
          · exact .inl ⟨a, xs, i, v', rfl, rfl, q, e5, ro_fin hs k (o5.ims him)⟩
          · exact .inr (.inl ⟨a, xs, i, v', rfl, rfl, q, e5, ro_fin hs k (o5.ims him)⟩)
        · cases e
      · cases e
    · split at e
      · rename_i ks ds kk' e1 e2
        split at e
        · rename_i it hf
          split at e
          · rename_i him
            have e' := Option.some.inj e
            subst e'
            exact ⟨_, _, rfl, .inr ⟨F, _, _, kk', ks, ds, S2, it, hs, h2, e2, h1.dk hs e1, hf, him, fun v' o' => ro_fin hs k o'⟩⟩
          · cases e
        · cases e
      · cases e
  · cases e
def rLenN (P : Program) (w : World) (K : PySem.W.Frag) : List V → Hp → VK → Prop := fun xs H Q => ∃ F c v ks ds, xs = [v] ∧ (∀ a o, F a = some o → H a = some o) ∧ Dk P w K F H c v ks ds ∧ Q (.int ks.length) H
theorem KyL.length : ∀ {ks : List Dat} {kvs : List (NestedKey × Addr × V)}, KyL P w K F H ks kvs → ks.length = kvs.length
  | _, _, .nil => rfl
  | _, _, .cons _ _ l => by rw [List.length_cons, List.length_cons, KyL.length l]
theorem call_lenN : CallR X (.builtin "len") (rLenN X.prog X.w X.K) := by
  intro pins s σ H xs us Q I r h
  obtain ⟨F, c, v, ks, ds, rfl, hs, dk, q⟩ := h
  obtain ⟨u, rfl, ru⟩ := vals1 r
  cases dk with
  | mk hH ky l =>
    cases ru
    obtain ⟨hz, hm, xs, r, D⟩ := dn_of I hs hH ky
    have n1 := ky.length
    have n2 := Paired.length r
    have dkd : s.heap.DictKeyed (nestedKind X.prog X.w) _ (pairsH xs) := ⟨xs, D, rfl⟩
    refine PyProof.Rows.call_len_slot (n := (pairsH xs).length) dkd.typeIs PySem.F.slot_dict_len (fun Q' hq => len_keyed hm dkd hq) (by omega) (by rw [pairsH_length]; rw [sizeLine_eq] at hz; omega) ?_
    refine ⟨.int ks.length, H, I.tok _, ⟨s.toks + 1, ?_⟩, q⟩
    rw [pairsH_length, n1, n2]
def dLen : List Dat → Option Dat
  | [.str z] => if z.length ≤ sizeLine then some (.int z.length) else none
  | [c] => match sit c with
    | some ds => some (.int ds.length)
    | none => match dit c with
      | some (true, ks, _) => some (.int ks.length)
      | _ => none
  | _ => none
def rLenA (P : Program) (w : World) (K : PySem.W.Frag) : List V → Hp → VK → Prop := fun xs H Q => (∃ p ys, xs = [.ref p] ∧ (SqL K H p ys ∨ SqT K H p ys) ∧ Q (.int ys.length) H) ∨ (∃ z, xs = [.str z] ∧ z.length ≤ sizeLine ∧ Q (.int z.length) H) ∨ rLenN P w K xs H Q
theorem call_lenA : CallR X (.builtin "len") (rLenA X.prog X.w X.K) := call_len_seq.or (call_len_str.or call_lenN)
theorem ro_len : RO X (rLenA X.prog X.w X.K) dLen := by
  intro F H l vs B d Q hs o e k
  unfold dLen at e
  split at e
  · split at e
    · rename_i hz
      have e' := Option.some.inj e
      subst e'
      obtain ⟨v, S1, rfl, h1⟩ := o.one
      obtain ⟨rfl, _⟩ := h1.str_inv
      exact .inr (.inl ⟨_, rfl, hz, ro_fin hs k (.int _)⟩)
    · cases e
  · obtain ⟨v, S1, rfl, h1⟩ := o.one
    split at e
    · rename_i ds e1
      have e' := Option.some.inj e
      subst e'
      obtain ⟨a, xs, S3, rfl, q, l⟩ := h1.sit_inv hs e1
      rw [l.length] at k
      exact .inl ⟨a, xs, rfl, q, ro_fin hs k (.int _)⟩
    · split at e
      · rename_i ks ds e1
        have e' := Option.some.inj e
        subst e'
        exact .inr (.inr ⟨F, _, v, ks, ds, rfl, hs, h1.dk hs e1, ro_fin hs k (.int _)⟩)
      · cases e
  · cases e
/-- list(x), of a list, of a tuple -/
def dList : List Dat → Option Dat
  | [c] => match sit c with
    | some ds => if ims ds then some (.ol ds) else none
    | none => none
  | _ => none
theorem ro_list : RO X (fun xs H Q => ∃ p ys, xs = [.ref p] ∧ (SqL X.K H p ys ∨ SqT X.K H p ys) ∧ ∀ l, H l = none → Q (.ref l) (upd H l (.lst ys))) dList := by
  intro F H l vs B d Q hs o e k
  unfold dList at e
  split at e
  · obtain ⟨v, S1, rfl, h1⟩ := o.one
    split at e
    · rename_i ds e1
      split at e
      · rename_i him
        have e' := Option.some.inj e
        subst e'
        obtain ⟨a, xs, S3, rfl, q, l⟩ := h1.sit_inv hs e1
        exact ⟨a, xs, rfl, q, ro_newL hs k (l.ims him)⟩
      · cases e
    · cases e
  · cases e
/-- tuple(x) -/
def dTuple : List Dat → Option Dat
  | [.tup ds] => if ims ds then some (.tup ds) else none
  | [c] => match lit c with
    | some ds => if ims ds then some (.tup ds) else none
    | none => none
  | _ => none
theorem ro_tuple : RO X (fun xs H Q => ∃ p ys, xs = [.ref p] ∧ ((SqL X.K H p ys ∧ ∀ l, H l = none → Q (.ref l) (upd H l (.tup ys))) ∨ (SqT X.K H p ys ∧ Q (.ref p) H))) dTuple := by
  intro F H l vs B d Q hs o e k
  unfold dTuple at e
  split at e
  · obtain ⟨v, S1, rfl, h1⟩ := o.one
    split at e
    · rename_i him
      have e' := Option.some.inj e
      subst e'
      obtain ⟨a, xs, rfl, q, l⟩ := h1.tup_inv
      exact ⟨a, xs, rfl, .inr ⟨SqT.up hs q, ro_fin hs k (.tup q (l.ims him))⟩⟩
    · cases e
  · obtain ⟨v, S1, rfl, h1⟩ := o.one
    split at e
    · rename_i ds e1
      split at e
      · rename_i him
        have e' := Option.some.inj e
        subst e'
        obtain ⟨a, xs, S3, rfl, q, l⟩ := h1.lit_inv hs e1
        exact ⟨a, xs, rfl, .inl ⟨.inl q, ro_newT hs k (l.ims him)⟩⟩
      · cases e
    · cases e
  · cases e
def dAbs : List Dat → Option Dat
  | [.int i] => some (.int (if i < 0 then -i else i))
  | _ => none
theorem ro_abs : RO X (fun xs H Q => ∃ i, xs = [.int i] ∧ Q (.int (if i < 0 then -i else i)) H) dAbs := by
  intro F H l vs B d Q hs o e k
  unfold dAbs at e
  split at e
  · have e' := Option.some.inj e
    subst e'
    obtain ⟨v, S1, rfl, h1⟩ := o.one
    obtain ⟨rfl, _⟩ := h1.int_inv
    exact ⟨_, rfl, ro_fin hs k (.int _)⟩
  · cases e
def dToInt : List Dat → Option Dat
  | [.int i] => some (.int i)
  | [.bl b] => some (.int (if b then 1 else 0))
  | _ => none
theorem ro_toInt : RO X (fun xs H Q => (∃ i, xs = [.int i] ∧ Q (.int i) H) ∨ ∃ k, xs = [.bl k] ∧ Q (.int (if k then 1 else 0)) H) dToInt := by
  intro F H l vs B d Q hs o e k
  unfold dToInt at e
  split at e
  · have e' := Option.some.inj e
    subst e'
    obtain ⟨v, S1, rfl, h1⟩ := o.one
    obtain ⟨rfl, _⟩ := h1.int_inv
    exact .inl ⟨_, rfl, ro_fin hs k (.int _)⟩
  · have e' := Option.some.inj e
    subst e'
    obtain ⟨v, S1, rfl, h1⟩ := o.one
    obtain ⟨rfl, _⟩ := h1.bl_inv
    exact .inr ⟨_, rfl, ro_fin hs k (.int _)⟩
  · cases e
/-- the ints of a list -/
def intsOf : List Dat → Option (List Int)
  | [] => some []
  | .int i :: ds => (intsOf ds).map (i :: ·)
  | _ => none
def blsOf : List Dat → Option (List Bool)
  | [] => some []
  | .bl b :: ds => (blsOf ds).map (b :: ·)
  | _ => none
theorem intsOf_inv : ∀ {ds : List Dat} {ns : List Int}, intsOf ds = some ns → ds = ns.map Dat.int
  | [], ns, h => by simp [intsOf] at h; subst h; rfl
  | d :: ds, ns, h => by
    unfold intsOf at h
    split at h
    · rename_i e; cases e
    · rename_i i ds' e
      obtain ⟨e1, e2⟩ := List.cons.inj e
      subst e1 e2
      obtain ⟨m, hm, rfl⟩ := Option.map_eq_some_iff.mp h
      rw [List.map_cons, intsOf_inv hm]
    · cases h
theorem blsOf_inv : ∀ {ds : List Dat} {ns : List Bool}, blsOf ds = some ns → ds = ns.map Dat.bl
  | [], ns, h => by simp [blsOf] at h; subst h; rfl
  | d :: ds, ns, h => by
    unfold blsOf at h
    split at h
    · rename_i e; cases e
    · rename_i i ds' e
      obtain ⟨e1, e2⟩ := List.cons.inj e
      subst e1 e2
      obtain ⟨m, hm, rfl⟩ := Option.map_eq_some_iff.mp h
      rw [List.map_cons, blsOf_inv hm]
    · cases h
theorem OwL.intsOf : ∀ {ns : List Int} {vs : List V} {S : List Addr}, OwL P w K F H (ns.map Dat.int) vs S → vs = ns.map V.int
  | [], vs, S, h => h.nil_inv.1
  | n :: ns, vs, S, h => by
    obtain ⟨v, ws, S1, S2, rfl, _, h1, h2⟩ := h.cons_inv
    rw [h1.int_inv.1, OwL.intsOf h2]; rfl
theorem OwL.blsOf : ∀ {ns : List Bool} {vs : List V} {S : List Addr}, OwL P w K F H (ns.map Dat.bl) vs S → vs = ns.map V.bl
  | [], vs, S, h => h.nil_inv.1
  | n :: ns, vs, S, h => by
    obtain ⟨v, ws, S1, S2, rfl, _, h1, h2⟩ := h.cons_inv
    rw [h1.bl_inv.1, OwL.blsOf h2]; rfl
def dAgg (g : List Int → Option Int) : List Dat → Option Dat
  | [c] => match lit c with
    | some ds => match intsOf ds with
      | some ns => (g ns).map Dat.int
      | none => none
    | none => none
  | _ => none
theorem dAgg_inv {g : List Int → Option Int} {l : List Dat} {d : Dat} (h : dAgg g l = some d) : ∃ c ns i, l = [c] ∧ lit c = some (ns.map Dat.int) ∧ g ns = some i ∧ d = .int i := by
  unfold dAgg at h
  split at h
  · split at h
    · rename_i ds e1
      split at h
      · rename_i ns e2
        obtain ⟨i, hi, rfl⟩ := Option.map_eq_some_iff.mp h
        exact ⟨_, ns, i, rfl, by rw [← intsOf_inv e2]; exact e1, hi, rfl⟩
      · cases h
    · cases h
  · cases h
abbrev dSum := dAgg fun ns => some ns.sum
theorem ro_sum : RO X (rSum X.K) dSum := by
  intro F H l vs B d Q hs o e k
  obtain ⟨c, ns, i, rfl, e1, e2, rfl⟩ := dAgg_inv e
  have e2 := Option.some.inj e2
  subst e2
  obtain ⟨v, S1, rfl, h1⟩ := o.one
  obtain ⟨a, xs, S3, rfl, q, l⟩ := h1.lit_inv hs e1
  rw [l.intsOf] at q
  exact ⟨a, ns, rfl, .inl q, ro_fin hs k (.int _)⟩
abbrev dMax := dAgg fun ns => ns.max?
abbrev dMin := dAgg fun ns => ns.min?
theorem max_one {ns : List Int} {i m : Int} (h : ns.max? = some i) (hm : m ∈ ns) (hb : ∀ y, y ∈ ns → y ≤ m) : m = i := by
  obtain ⟨h1, h2⟩ := List.max?_eq_some_iff.mp h
  have h3 : i ≤ m := hb i h1
  have h4 : m ≤ i := h2 m hm
  omega
theorem min_one {ns : List Int} {i m : Int} (h : ns.min? = some i) (hm : m ∈ ns) (hb : ∀ y, y ∈ ns → m ≤ y) : m = i := by
  obtain ⟨h1, h2⟩ := List.min?_eq_some_iff.mp h
  have h3 : m ≤ i := hb i h1
  have h4 : i ≤ m := h2 m hm
  omega
theorem ro_max : RO X (rMax X.K) dMax := by
  intro F H l vs B d Q hs o e k
  obtain ⟨c, ns, i, rfl, e1, e2, rfl⟩ := dAgg_inv e
  obtain ⟨v, S1, rfl, h1⟩ := o.one
  obtain ⟨a, xs, S3, rfl, q, l⟩ := h1.lit_inv hs e1
  rw [l.intsOf] at q
  refine ⟨a, ns, rfl, .inl q, ?_, fun m hm hb => ?_⟩
  · cases ns with
    | nil => cases e2
    | cons _ _ => simp
  · rw [max_one e2 hm hb]; exact ro_fin hs k (.int _)
theorem ro_min : RO X (rMin X.K) dMin := by
  intro F H l vs B d Q hs o e k
  obtain ⟨c, ns, i, rfl, e1, e2, rfl⟩ := dAgg_inv e
  obtain ⟨v, S1, rfl, h1⟩ := o.one
  obtain ⟨a, xs, S3, rfl, q, l⟩ := h1.lit_inv hs e1
  rw [l.intsOf] at q
  refine ⟨a, ns, rfl, .inl q, ?_, fun m hm hb => ?_⟩
  · cases ns with
    | nil => cases e2
    | cons _ _ => simp
  · rw [min_one e2 hm hb]; exact ro_fin hs k (.int _)
def dBls (g : List Bool → Bool) : List Dat → Option Dat
  | [c] => match lit c with
    | some ds => match blsOf ds with
      | some bs => some (.bl (g bs))
      | none => none
    | none => none
  | _ => none
theorem dBls_inv {g : List Bool → Bool} {l : List Dat} {d : Dat} (h : dBls g l = some d) : ∃ c bs, l = [c] ∧ lit c = some (bs.map Dat.bl) ∧ d = .bl (g bs) := by
  unfold dBls at h
  split at h
  · split at h
    · rename_i ds e1
      split at h
      · rename_i bs e2
        exact ⟨_, bs, rfl, by rw [← blsOf_inv e2]; exact e1, (Option.some.inj h).symm⟩
      · cases h
    · cases h
  · cases h
abbrev dAll := dBls fun bs => bs.all id
abbrev dAny := dBls fun bs => bs.any id
theorem ro_all : RO X (rAll X.K) dAll := by
  intro F H l vs B d Q hs o e k
  obtain ⟨c, bs, rfl, e1, rfl⟩ := dBls_inv e
  obtain ⟨v, S1, rfl, h1⟩ := o.one
  obtain ⟨a, xs, S3, rfl, q, l⟩ := h1.lit_inv hs e1
  rw [l.blsOf] at q
  exact ⟨a, bs, rfl, .inl q, ro_fin hs k (.bl _)⟩
theorem ro_any : RO X (rAny X.K) dAny := by
  intro F H l vs B d Q hs o e k
  obtain ⟨c, bs, rfl, e1, rfl⟩ := dBls_inv e
  obtain ⟨v, S1, rfl, h1⟩ := o.one
  obtain ⟨a, xs, S3, rfl, q, l⟩ := h1.lit_inv hs e1
  rw [l.blsOf] at q
  exact ⟨a, bs, rfl, .inl q, ro_fin hs k (.bl _)⟩
end
end B
set_option Elab.async false
set_option linter.all false
set_option maxRecDepth 100000
namespace B
open PySem PySem.Spec PyProof.Rows L2
variable [TabT]
section
variable {X : Cx} {P : Program} {w : World} {K : PySem.W.Frag} {F F' H H' : Hp} {S T : List Addr} {pins : List (Addr × Obj)} {σ : L2.St} {s : Shared}
def tyD : Dat → Option String
  | .non => some "NoneType"
  | .bl _ => some "bool"
  | .int _ => some "int"
  | .str _ => some "str"
  | .raw (.ref f) => if TabT.fns.contains f then some "function" else none
  | .raw _ => none
  | .ob _ _ => none
  | .fn _ => none
  | .tup _ => some "tuple"
  | .lst _ => some "list"
  | .ol _ => some "list"
  | .dic _ _ _ => some "dict"
  | .od _ _ _ => some "dict"
theorem Ow.kit (hf : FnsOk X.K) (I : Inv X pins σ H s) (hs : ∀ a o, F a = some o → H a = some o) {d : Dat} {v : V} {u : Value} {t : String} (o : Ow X.prog X.w X.K F H d v S) (e : tyD d = some t) (r : RelV v u) :
    ∃ P : Heap → Prop, PySem.W.KitX X.K u (.type t) P ∧ P s.heap ∧ u ≠ .builtin "__main__.__loader__#opaque" := by
  have dN : ∀ (a : Addr) (kvs : List (NestedKey × Addr × V)), H a = some (dnO X.prog X.w a kvs) → ∃ o, s.heap.get? a = some o ∧ o.cls = .type "dict" := fun a kvs h => by
    obtain ⟨⟨_, _, _, _, ob, _, _, h1, h2, _⟩, _, _⟩ := I.hok a _ h
    exact ⟨ob, h1, h2.1⟩
  have dK : ∀ (a : Addr) (kvs : List (Key × V)), H a = some (.dK kvs) → ∃ o, s.heap.get? a = some o ∧ o.cls = .type "dict" := fun a kvs h => by
    obtain ⟨_, _, vs, _, ob, es, ep, h1, h2, _⟩ := (show ObjOk X.prog X.w H s.heap a (.dK kvs) from I.hok a _ h)
    exact ⟨ob, h1, h2.1⟩
  cases o <;> (try simp only [tyD, Option.some.injEq] at e) <;> (try subst e)
  · cases e
  · cases r; exact ⟨_, PySem.W.kitx_none, True.intro, fun z => nomatch z⟩
  · cases r; exact ⟨_, PySem.W.kitx_bool, True.intro, fun z => nomatch z⟩
  · obtain ⟨t, rfl⟩ := r; exact ⟨_, PySem.W.kitx_int, True.intro, fun z => nomatch z⟩
  · obtain ⟨t, rfl⟩ := r; exact ⟨_, PySem.W.kitx_str, True.intro, fun z => nomatch z⟩
  · cases v with
    | ref f =>
      simp only [tyD] at e
      split at e
      · rename_i hm
        have e' := Option.some.inj e
        subst e'
        cases r
        obtain ⟨o, h1, h2⟩ := hf f (by simpa using hm)
        exact ⟨_, Fn.kitx_fun, ⟨o, I.kIn f o h1, h2⟩, fun z => nomatch z⟩
      · cases e
    | _ => cases e
  · rename_i h l
    cases r
    obtain ⟨its, rv, ⟨ob, h1, h2, _⟩, _⟩ := I.tuple (SqT.up hs h)
    exact ⟨_, PySem.W.kitx_tuple, ⟨ob, h1, h2⟩, fun z => nomatch z⟩
  · rename_i h l
    cases r
    obtain ⟨_, its, n, _, h1⟩ := (Rd.mono hs h).ok I.hok
    exact ⟨_, PySem.W.kitx_list, ⟨_, h1, rfl⟩, fun z => nomatch z⟩
  · rename_i h l
    cases r
    obtain ⟨_, its, n, _, h1⟩ := I.hok _ _ h
    exact ⟨_, PySem.W.kitx_list, ⟨_, h1, rfl⟩, fun z => nomatch z⟩
  · rename_i h k l
    cases r
    exact ⟨_, PySem.W.kitx_dict, dN _ _ (hs _ _ h), fun z => nomatch z⟩
  · rename_i h k l
    cases r
    exact ⟨_, PySem.W.kitx_dict, dN _ _ h, fun z => nomatch z⟩
  · rename_i h k l
    cases r
    exact ⟨_, PySem.W.kitx_dict, dK _ _ (hs _ _ h), fun z => nomatch z⟩
  · rename_i h k l
    cases r
    exact ⟨_, PySem.W.kitx_dict, dK _ _ h, fun z => nomatch z⟩
  · cases e
  · cases e
/-- a type beneath another one -/
def isiT (t c : String) : Bool := t == c || (t == "bool" && c == "int")
def tys : List String := ["NoneType", "bool", "int", "str", "tuple", "list", "dict"]
def tysX : List String := "function" :: tys
theorem isiT_ok : ∀ t ∈ tysX, ∀ c ∈ tys, c ≠ "NoneType" → kitB t c = some (isiT t c) := by decide +kernel
theorem tyD_mem {d : Dat} {t : String} (e : tyD d = some t) : t ∈ tysX := by
  cases d with
  | raw v =>
    cases v with
    | ref f =>
      simp only [tyD] at e
      split at e
      · have e' := Option.some.inj e
        subst e'
        decide
      · cases e
    | _ => cases e
  | fn k => cases e
  | ob c ds => cases e
  | _ =>
    simp [tyD] at e
    subst e
    decide
/-- the classes -/
def clsD : Dat → Option (List String)
  | .raw (.ty c) => some [c]
  | .tup ds => ds.mapM fun d => match d with
    | .raw (.ty c) => some c
    | _ => none
  | _ => none
def okCs (cs : List String) : Bool := cs.all fun c => tys.contains c && !(c == "NoneType")
def dIsi : List Dat → Option Dat
  | [x, .raw (.ty c)] => match tyD x with
    | some t => if okCs [c] then some (.bl (isiT t c)) else none
    | none => none
  | [x, .tup ds] => match tyD x, clsD (.tup ds) with
    | some t, some cs => if okCs cs then some (.bl (cs.any (isiT t))) else none
    | _, _ => none
  | _ => none
theorem okCs_one {c : String} (h : okCs [c] = true) : c ∈ tys ∧ c ≠ "NoneType" := by
  simp only [okCs, List.all_cons, List.all_nil, Bool.and_true, Bool.and_eq_true, Bool.not_eq_true', beq_eq_false_iff_ne] at h
  exact ⟨by simpa using h.1, h.2⟩
theorem kitAny_tys {t : String} (ht : t ∈ tysX) : ∀ {cs : List String}, okCs cs = true → PySem.W.kitAny K (.type t) (cs.map Value.type) = some (cs.any (isiT t))
  | [], _ => rfl
  | c :: cs, h => by
    have h' : okCs [c] = true ∧ okCs cs = true := by simpa [okCs] using h
    obtain ⟨h1, h2⟩ := okCs_one h'.1
    refine kitAny_cons (b := isiT t c) (kit_ty (isiT_ok t ht c h1 h2)) (fun e => ?_) (fun e => ?_)
    · rw [kitAny_tys ht h'.2, List.any_cons, e, Bool.false_or]
    · rw [List.any_cons, e, Bool.true_or]
def rIsiD (X : Cx) : List V → Hp → VK → Prop := fun xs H Q => ∃ F x d t c S, xs = [x, .ty c] ∧ (∀ a o, F a = some o → H a = some o) ∧ Ow X.prog X.w X.K F H d x S ∧ tyD d = some t ∧ okCs [c] = true ∧ Q (.bl (isiT t c)) H
def rIsiDT (X : Cx) : List V → Hp → VK → Prop := fun xs H Q => ∃ F x d t a cs S, xs = [x, .ref a] ∧ (∀ a o, F a = some o → H a = some o) ∧ Ow X.prog X.w X.K F H d x S ∧ tyD d = some t ∧ okCs cs = true ∧ SqT X.K H a (cs.map V.ty) ∧ Q (.bl (cs.any (isiT t))) H
theorem call_isiD (hf : FnsOk X.K) : CallR X (.builtin "isinstance") (rIsiD X) := by
  intro pins s σ H xs us Q I r h
  obtain ⟨F, x, d, t, c, S, rfl, hs, o, e, ok, q⟩ := h
  obtain ⟨u1, u2, rfl, r1, r2⟩ := vals2 r
  cases r2
  obtain ⟨P, Z, p, hx⟩ := o.kit hf I hs e r1
  obtain ⟨h1, h2⟩ := okCs_one ok
  exact PySem.W.kia_one Z I.kIn p (kit_ty (isiT_ok t (tyD_mem e) c h1 h2)) hx fun tk => ⟨.bl _, H, I.tok tk, rfl, q⟩
theorem vals_ty : ∀ {cs : List String} {us : List Value}, Vals (cs.map V.ty) us → us = cs.map Value.type
  | [], _, .nil => rfl
  | c :: cs, _, .cons r t => by
    cases r
    rw [vals_ty t]; rfl
theorem call_isiDT (hf : FnsOk X.K) : CallR X (.builtin "isinstance") (rIsiDT X) := by
  intro pins s σ H xs us Q I r h
  obtain ⟨F, x, d, t, a, cs, S, rfl, hs, o, e, ok, hT, q⟩ := h
  obtain ⟨u1, u2, rfl, r1, r2⟩ := vals2 r
  cases r2
  obtain ⟨P, Z, p, hx⟩ := o.kit hf I hs e r1
  obtain ⟨its, rv, ⟨ob, h1, h2, n, h3⟩, _⟩ := I.tuple hT
  have e3 := vals_ty rv
  subst e3
  obtain ⟨oc, od, dt, sl⟩ := ob
  simp only at h2 h3
  subst h2 h3
  exact PySem.W.kia_tup Z I.kIn p h1 (kitAny_tys (tyD_mem e) ok) hx fun tk => ⟨.bl _, H, I.tok tk, rfl, q⟩
theorem call_isiA (hf : FnsOk X.K) : CallR X (.builtin "isinstance") (fun xs H Q => rIsiD X xs H Q ∨ rIsiDT X xs H Q) := (call_isiD hf).or (call_isiDT hf)
theorem clsD_vals : ∀ {ds : List Dat} {cs : List String} {vs : List V} {S : List Addr}, OwL P w K F H ds vs S → clsD (.tup ds) = some cs → vs = cs.map V.ty
  | [], cs, vs, S, o, e => by
    simp [clsD] at e
    subst e
    exact o.nil_inv.1
  | d :: ds, cs, vs, S, o, e => by
    obtain ⟨v, ws, S1, S2, rfl, _, h1, h2⟩ := o.cons_inv
    simp only [clsD, List.mapM_cons, Option.bind_eq_bind] at e
    cases d with
    | raw u =>
      cases u with
      | ty c =>
        simp only [Option.bind_some] at e
        cases q : clsD (.tup ds) with
        | none => simp only [clsD] at q; rw [q] at e; cases e
        | some cs' =>
          have q' := q
          simp only [clsD] at q
          rw [q] at e
          have e' := Option.some.inj e
          subst e'
          cases h1
          rw [clsD_vals h2 q']; rfl
      | _ => cases e
    | _ => cases e
theorem ro_isi : RO X (fun xs H Q => rIsiD X xs H Q ∨ rIsiDT X xs H Q) dIsi := by
  intro F H l vs B d Q hs o e k
  unfold dIsi at e
  split at e
  · split at e
    · rename_i t e1
      split at e
      · rename_i ok
        have e' := Option.some.inj e
        subst e'
        obtain ⟨v, u, S1, S2, rfl, h1, h2⟩ := o.two
        cases h2
        exact .inl ⟨F, v, _, t, _, S1, rfl, hs, h1, e1, ok, ro_fin hs k (.bl _)⟩
      · cases e
    · cases e
  · split at e
    · rename_i t cs e1 e2
      split at e
      · rename_i ok
        have e' := Option.some.inj e
        subst e'
        obtain ⟨v, u, S1, S2, rfl, h1, h2⟩ := o.two
        obtain ⟨a, ws, rfl, hT, l⟩ := h2.tup_inv
        rw [clsD_vals l e2] at hT
        exact .inr ⟨F, v, _, t, a, cs, S1, rfl, hs, h1, e1, ok, SqT.up hs hT, ro_fin hs k (.bl _)⟩
      · cases e
    · cases e
  · cases e
def dle (a b : Dat) : Bool := PySem.W.dataLe false pyd a b
end
end B
set_option Elab.async false
set_option linter.all false
set_option maxRecDepth 100000
namespace B
open PySem PySem.Calls PyProof.Rows PyProof.V PySem.Spec PySem.W
theorem kdu_collect2 {prog : Program} {w : World} {A : Around} {E : Value → Shared → Prop} {s : Shared} {T : String} {r d : Addr} {n : Nat} {P : Nat → Value → Prop} {OK : Heap → Prop} {R : List Value → Shared → Prop} (K : KdlSrc prog w T r d n P OK) (hh : A.handled = none) (hok : OK s.heap) (hn : n ≤ sizeLine)
    (h : ∀ (h' : Heap) (tk : Nat) (acc : Array Value), (∀ b o, s.heap.get? b = some o → h'.get? b = some o) → s.heap.objs.size ≤ h'.objs.size → ItemsOf P acc n → R acc.toList { s with heap := h', toks := tk }) :
    wpAny (model prog w) A (collect (.ref r)) R E s := by
  have hlt := K.there _ hok
  unfold collect
  refine wpAny_bind (wpAny_runValue (codeAny_builtin entry_proto_collect' ?_))
  rw [Around.under_plainId PySem.F.plain_proto_collect _]
  show wpAny _ A.in1 (newList [] >>= fun l => again (.builtin "list.__iadd__" ⟨[l, .ref r], []⟩)) _ _ s
  refine wpAny_bind (wpAny_newObj_type ?_)
  refine wpAny_pure ⟨plainId_quiet PySem.F.plain_list_iadd _, codeAny_builtin entry_list_iadd' ?_⟩
  rw [Around.under_plainId PySem.F.plain_list_iadd _]
  have hS₁ : (s.heap.push { cls := .type "list", data := .seq ([] : List Value).toArray }).get? s.heap.objs.size = some { cls := .type "list", data := .seq #[] } := Heap.get?_push_size _ rfl
  show wpAny _ A.in1 (Builtin.List.listExtendWith (.ref s.heap.objs.size) (.ref r) (.ref s.heap.objs.size)) _ _ _
  have key := kdl_extend (A := A) (s := { s with heap := s.heap.push { cls := .type "list", data := .seq ([] : List Value).toArray } })
    (R := fun (q : Result) (s' : Shared) => ∃ (h' : Heap) (tk : Nat) (acc' : Array Value) (c' : Nat), q = .ok (.ret (.ref s.heap.objs.size)) ∧ s' = { s with heap := h', toks := tk } ∧
      (∀ b o, s.heap.get? b = some o → h'.get? b = some o) ∧ h'.get? s.heap.objs.size = some { cls := .type "list", dict := none, data := .seq acc' c', slots := #[] } ∧ ItemsOf P acc' n)
    K hh (K.keep _ _ hok fun b _ o e => Heap.get?_push_of_some _ e) s.heap.objs.size (Nat.ne_of_gt hlt.1) (Nat.ne_of_gt hlt.2) (.ref s.heap.objs.size) 0 hS₁
    (fun h' tk acc' c' hk hS' hacc => ⟨h', tk, acc', c', rfl, rfl, fun b o e => hk b o (Nat.ne_of_lt (Heap.lt_size e)) (Heap.get?_push_of_some _ e), hS', hacc⟩) hn
  refine wpAny_mono key (fun fin s' x => ?_) fun e s' x => ?_
  · cases fin with
    | done f =>
      obtain ⟨h', tk, acc', c', e, rfl, hk, hS', hacc⟩ := x
      cases e
      show wpAny _ A (load s.heap.objs.size >>= _) _ _ _
      refine wpAny_bind (wpAny_load hS' ?_)
      exact wpAny_pure (h h' tk acc' hk (Nat.le_of_lt (Heap.lt_size hS')) hacc)
    | again c₁ =>
      refine ⟨x.1, codeAny_mono x.2 fun q s₂ y => ?_⟩
      obtain ⟨h', tk, acc', c', rfl, rfl, hk, hS', hacc⟩ := y
      show wpAny _ A (load s.heap.objs.size >>= _) _ _ _
      refine wpAny_bind (wpAny_load hS' ?_)
      exact wpAny_pure (h h' tk acc' hk (Nat.le_of_lt (Heap.lt_size hS')) hacc)
  · obtain ⟨_, _, _, _, e', _⟩ := x
    cases e'
end B
namespace B
open PySem PySem.Spec PyProof.Rows L2
variable [TabT]
mutual
theorem reads_there {h : Heap} : ∀ {v : Value} {d : PyData} {as : List Addr}, Reads h v d as → ∀ x ∈ as, ∃ o, h.get? x = some o
  | _, _, _, .none, x, hx => nomatch hx
  | _, _, _, .bool b, x, hx => nomatch hx
  | _, _, _, .int i t, x, hx => nomatch hx
  | _, _, _, .str y t, x, hx => nomatch hx
  | _, _, _, .list h1 h2 h3 h4, x, hx => (List.mem_cons.mp hx).elim (fun e => ⟨_, e ▸ h1⟩) fun hx => readsAll_there h4 x hx
  | _, _, _, .tuple h1 h2 h3 h4, x, hx => readsAll_there h4 x hx
  | _, _, _, .dict h1 h2 h3 h4 h5, x, hx => (List.mem_append.mp hx).elim (fun hx => (List.mem_cons.mp hx).elim (fun e => ⟨_, e ▸ h1⟩) fun hx => readsAll_there h4 x hx) fun hx => readsAll_there h5 x hx
theorem readsAll_there {h : Heap} : ∀ {vs : List Value} {ds : List PyData} {as : List Addr}, ReadsAll h vs ds as → ∀ x ∈ as, ∃ o, h.get? x = some o
  | _, _, _, .nil, x, hx => nomatch hx
  | _, _, _, .cons r l, x, hx => (List.mem_append.mp hx).elim (fun hx => reads_there r x hx) fun hx => readsAll_there l x hx
end
section
variable {X : Cx} {P : Program} {w : World} {K : PySem.W.Frag} {F F' H H' : Hp} {S T : List Addr} {pins : List (Addr × Obj)} {σ : L2.St} {s : Shared}
def Rof (P : Program) (w : World) (K : PySem.W.Frag) (F H : Hp) (u : Value) (d : Dat) : Prop := ∃ v, RelV v u ∧ Ow P w K F H d v []
theorem OwL.each : ∀ {ds : List Dat} {vs : List V} {us : List Value}, OwL P w K F H ds vs [] → Vals vs us → PySem.W.EachIs (Rof P w K F H) us ds
  | [], vs, us, o, r => by
    obtain ⟨rfl, _⟩ := o.nil_inv
    cases r
    exact .nil
  | d :: ds, vs, us, o, r => by
    obtain ⟨v, ws, S1, S2, rfl, e, h1, h2⟩ := o.cons_inv
    obtain ⟨rfl, rfl⟩ := List.append_eq_nil_iff.mp e.symm
    cases r with
    | cons r1 r2 => exact .cons ⟨v, r1, h1⟩ (OwL.each h2 r2)
theorem each_OwL {us : List Value} {ds : List Dat} (e : PySem.W.EachIs (Rof P w K F H) us ds) : ∃ vs, OwL P w K F H ds vs [] ∧ Vals vs us := by
  induction e with
  | nil => exact ⟨[], .nil, .nil⟩
  | cons h _ ih =>
    obtain ⟨v, r, o⟩ := h
    obtain ⟨vs, o2, r2⟩ := ih
    exact ⟨v :: vs, .cons (S := []) (T := []) o o2, .cons r r2⟩
/-- all are alike, and can be put in order -/
def sortOkB (ds : List Dat) : Bool := pls 60 ds && (ds.all fun a => ds.all fun b => PySem.W.alike (pyd a) (pyd b)) && ((ds.all fun d => match pyd d with | .tuple (_ :: _) => true | _ => false) || ds.all fun d => match pyd d with | .none => false | .tuple _ => false | _ => true)
theorem sortOk_inv {ds : List Dat} (h : sortOkB ds = true) : pls 60 ds = true ∧ PySem.W.AllAlike (ds.map pyd) ∧ PySem.W.Sortable (ds.map pyd) := by
  unfold sortOkB at h
  rw [Bool.and_eq_true, Bool.and_eq_true] at h
  obtain ⟨⟨h1, h2⟩, h3⟩ := h
  refine ⟨h1, fun d hd d' hd' => ?_, ?_⟩
  · obtain ⟨a, ha, rfl⟩ := List.mem_map.mp hd
    obtain ⟨b, hb, rfl⟩ := List.mem_map.mp hd'
    exact List.all_eq_true.mp (List.all_eq_true.mp h2 a ha) b hb
  · rw [Bool.or_eq_true] at h3
    rcases h3 with h3 | h3
    · refine .inl fun d hd => ?_
      obtain ⟨a, ha, rfl⟩ := List.mem_map.mp hd
      have q := List.all_eq_true.mp h3 a ha
      split at q
      · rename_i x r e; exact ⟨x, r, e⟩
      · cases q
    · refine .inr fun d hd => ?_
      obtain ⟨a, ha, rfl⟩ := List.mem_map.mp hd
      have q := List.all_eq_true.mp h3 a ha
      split at q
      · cases q
      · cases q
      · rename_i n1 n2
        exact ⟨n1, fun xs e => n2 xs e⟩
theorem pls_mem : ∀ {n : Nat} {ds : List Dat}, pls n ds = true → ∀ d ∈ ds, pl n d = true
  | 0, ds, h, d, hd => by simp [pls] at h
  | n + 1, [], h, d, hd => nomatch hd
  | n + 1, x :: ds, h, d, hd => by
    rw [pls, Bool.and_eq_true] at h
    rcases List.mem_cons.mp hd with rfl | hd
    · exact pl_mono h.1
    · exact pls_mem h.2 d hd
where
  pl_mono : ∀ {n : Nat} {d : Dat}, pl n d = true → pl (n + 1) d = true := by
    intro n d h
    exact plm n d h
  plm : ∀ (n : Nat) (d : Dat), pl n d = true → pl (n + 1) d = true := by
    intro n
    induction n with
    | zero => intro d h; cases d <;> simp [pl, pls] at h ⊢
    | succ n ih =>
      intro d h
      have l : ∀ ds : List Dat, pls (n + 1) ds = true → pls (n + 1 + 1) ds = true := by
        intro ds
        induction ds with
        | nil => intro _; rfl
        | cons a ds ihd =>
          intro h
          rw [pls, Bool.and_eq_true] at h
          rw [pls, Bool.and_eq_true]
          exact ⟨ih a h.1, ihd h.2⟩
      cases d <;> simp only [pl] at h ⊢ <;> first | exact l _ h | exact h
def rSortL (X : Cx) : List V → Hp → VK → Prop := fun xs H Q => ∃ F a vs ds, xs = [.ref a] ∧ (∀ a o, F a = some o → H a = some o) ∧ SqL X.K H a vs ∧ OwL X.prog X.w X.K F H ds vs [] ∧ sortOkB ds = true ∧
  ∀ vs', OwL X.prog X.w X.K F H (ds.mergeSort dle) vs' [] → ∀ p, H p = none → Q (.ref p) (upd H p (.lst vs'))
theorem call_sortL (hu : X.A.units + 70 < cLine) : CallR X (.builtin "sorted") (rSortL X) := by
  intro pins s σ H xs us Q I r h
  obtain ⟨F, a, vs, ds, rfl, hs, hl, o, ok, q⟩ := h
  obtain ⟨h1, h2, h3⟩ := sortOk_inv ok
  obtain ⟨its, rv, hL, hz⟩ := I.list hl
  rw [Vals.ref1 r]
  have e := o.each rv
  have er : PySem.W.EachIs (fun v b => ∃ as, Reads s.heap v (pyd b) as) its ds := by
    refine PySem.W.EachIs.of_zip (by rw [← rv.length, ← o.length]) fun p hp => ?_
    obtain ⟨v, r1, o1⟩ := e.zip p hp
    have hm : p.2 ∈ ds := (List.of_mem_zip hp).2
    exact Dp.reads I _ v _ (o1.dp hs (pls_mem h1 _ hm)) r1
  refine PySem.W.sorted_data hL.isList e er h2 h3 (by rw [o.length]; exact hz) (fun b hb => ?_) fun out ho hO => ?_
  · have := (pl_plain _ _ (pls_mem h1 b hb)).2
    omega
  · obtain ⟨vs', o', r'⟩ := each_OwL hO
    obtain ⟨ep, he'⟩ := PyProof.Rows.sortedAll_at s.heap its out.toArray
    have hlen : vs'.length ≤ sizeLine := by rw [r'.length, ho, o.length]; exact hz
    exact ⟨.ref _, upd H (s.heap.objs.size + 1) (.lst vs'), I.laid (t' := s.toks) (fun _ _ => PyProof.Rows.sortedAll_old) (Nat.le_succ _) ⟨hlen, out, ep, r', he'⟩, rfl, q vs' o' _ (I.hok.fresh (Nat.le_succ _))⟩
/-- sorted(d) of a dict with tuples for keys -/
def rSortN (X : Cx) : List V → Hp → VK → Prop := fun xs H Q => ∃ F c v ks ds, xs = [v] ∧ (∀ a o, F a = some o → H a = some o) ∧ Dk X.prog X.w X.K F H c v ks ds ∧ sortOkB ks = true ∧
  ∀ vs', OwL X.prog X.w X.K F H (ks.mergeSort dle) vs' [] → ∀ p, H p = none → Q (.ref p) (upd H p (.lst vs'))
theorem KyL.owl : ∀ {ks : List Dat} {kvs : List (NestedKey × Addr × V)}, KyL P w K F H ks kvs → OwL P w K F H ks (kvs.map fun x => V.ref x.2.1) []
  | _, _, .nil => .nil
  | _, _, .cons o e l => .cons (S := []) (T := []) o (KyL.owl l)
theorem call_sortN (hu : X.A.units + 70 < cLine) (hc : X.calm = true) : CallR X (.builtin "sorted") (rSortN X) := by
  intro pins s σ H xs us Q I r h
  obtain ⟨F, c, v, ks, ds, rfl, hs, dk, ok, q⟩ := h
  obtain ⟨h1, h2, h3⟩ := sortOk_inv ok
  obtain ⟨u, rfl, ru⟩ := vals1 r
  cases dk with
  | mk hH ky l =>
    rename_i a S kvs
    cases ru
    obtain ⟨hz, hm, xs, r, D⟩ := dn_of I hs hH ky
    obtain ⟨es, ep, hr, hsz, he⟩ := D.raw
    have n1 := ky.length
    have n2 := Paired.length r
    have eo : OwL X.prog X.w X.K F H ks (kvs.map fun x => V.ref x.2.1) [] := ky.owl
    have hval : ∀ i : Nat, (kvs.map fun x => V.ref x.2.1)[i]? = (xs[i]?).map fun y => V.ref y.2.1 := fun i => by
      rw [List.getElem?_map]
      cases q : kvs[i]? with
      | none =>
        have : xs[i]? = none := List.getElem?_eq_none (by have := List.getElem?_eq_none_iff.mp q; omega)
        rw [this]; rfl
      | some x =>
        obtain ⟨y, hy, e1, e2, _⟩ := paired_get r q
        rw [hy]
        simp [e2]
    refine PySem.Calls.call_function_entry PyProof.Rows.kind_sorted PyProof.Rows.plain_sorted PyProof.Rows.entry_sorted (PyProof.Rows.args_sorted1 _) ?_
    unfold Builtin.«sorted»
    refine wpAny_bind (m := checkCount "sorted" 1 1 _) (wpAny_pure ?_)
    refine wpAny_bind (kdu_collect2 (A := X.A.in1) (PySem.KdlSrc.rawDict (prog := X.prog) (w := X.w) (es := es) (ep := ep) hm) (I.ok.hd hc) hr (by rw [hsz, ← n2]; exact hz) fun h' tk acc hk hsz' hacc => ?_)
    have hl : acc.toList.length = ks.length := by rw [Array.length_toList, hacc.1, hsz, ← n2, n1]
    have hac : acc.toList = kvs.map fun x => Value.ref x.2.1 := by
      apply List.ext_getElem?
      intro i
      rw [List.getElem?_map]
      cases q : acc.toList[i]? with
      | none =>
        have : kvs[i]? = none := List.getElem?_eq_none (by have := List.getElem?_eq_none_iff.mp q; omega)
        rw [this]; rfl
      | some v =>
        obtain ⟨hi, hv⟩ := hacc.2 i v (by rw [← Array.getElem?_toList]; exact q)
        obtain ⟨y, hy, e1, _, _⟩ := he i hi
        cases q2 : kvs[i]? with
        | none =>
          have h1 := List.getElem?_eq_none_iff.mp q2
          rw [hsz, ← n2] at hi
          omega
        | some x =>
          obtain ⟨y', hy', e2, e3, _⟩ := paired_get r q2
          rw [hy] at hy'
          cases hy'
          simp [hv, e1, e3]
    have rv : Vals (kvs.map fun x => V.ref x.2.1) acc.toList := by
      rw [hac]
      clear hac hacc hl hval n2 n1 he hsz hr D r hz ky eo l hH q I
      induction kvs with
      | nil => exact .nil
      | cons x kvs ih => exact .cons rfl ih
    refine wpAny_bind (wpAny_newList ?_ (by rw [hl, n1]; exact hz))
    refine wpAny_bind (wpAny_holding ?_)
    have e := eo.each rv
    have hk2 : ∀ b o, s.heap.get? b = some o → (h'.push { cls := .type "list", data := .seq acc.toList.toArray }).get? b = some o := fun b o q => Heap.get?_push_of_some _ (hk b o q)
    have er : PySem.W.EachIs (fun v b => ∃ as, Reads (h'.push { cls := .type "list", data := .seq acc.toList.toArray }) v (pyd b) as ∧ h'.objs.size ∉ as) acc.toList ks := by
      refine PySem.W.EachIs.of_zip (by rw [hl]) fun p hp => ?_
      obtain ⟨v, r1, o1⟩ := e.zip p hp
      have hm : p.2 ∈ ks := (List.of_mem_zip hp).2
      obtain ⟨as, ra⟩ := Dp.reads I _ v _ (o1.dp hs (pls_mem h1 _ hm)) r1
      refine ⟨as, Reads.keeps hk2 ra, fun hx => ?_⟩
      obtain ⟨ob, hob⟩ := reads_there ra _ hx
      exact absurd (Heap.lt_size (hk _ _ hob)) (Nat.lt_irrefl _)
    refine PySem.W.list_sort_data (n := 0) (Heap.get?_push_size _ rfl) e er h2 h3 (by rw [n1]; exact hz) (fun b hb => ?_) fun out ho hO => ?_
    · have := (pl_plain _ _ (pls_mem h1 b hb)).2
      show X.A.units + 1 + 1 + _ < _
      omega
    · obtain ⟨vs', o', r'⟩ := each_OwL hO
      obtain ⟨ep, he'⟩ := PyProof.Rows.sortedHeap_at (h := h'.push { cls := .type "list", data := .seq acc.toList.toArray }) (a := h'.objs.size) (vs := acc.toList) (n := 0) (out := out.toArray) (Heap.get?_push_size _ rfl)
      have hlen : vs'.length ≤ sizeLine := by rw [r'.length, ho, n1]; exact hz
      have hold : ∀ b o, s.heap.get? b = some o → (PyProof.Rows.sortedHeap (h'.push { cls := .type "list", data := .seq acc.toList.toArray }) h'.objs.size acc.toList out.toArray).get? b = some o := fun b o q => by
        have q' := hk b o q
        have lt := Heap.lt_size q'
        rw [PyProof.Rows.sortedHeap_old (Nat.ne_of_lt lt) (by rw [size_push']; exact Nat.lt_succ_of_lt lt)]
        exact Heap.get?_push_of_some _ q'
      exact wpAny_pure ⟨_, rfl, .ref _, upd H h'.objs.size (.lst vs'), I.laid (t' := tk) hold hsz' ⟨hlen, out, ep, r', he'⟩, rfl, q vs' o' _ (I.hok.fresh hsz')⟩
theorem call_sort (hu : X.A.units + 70 < cLine) (hc : X.calm = true) : CallR X (.builtin "sorted") (fun xs H Q => rSortL X xs H Q ∨ rSortN X xs H Q) := by
  intro pins s σ H xs us Q I r h
  rcases h with h | h
  · exact call_sortL hu pins s σ H xs us Q I r h
  · exact call_sortN hu hc pins s σ H xs us Q I r h
def dSort : List Dat → Option Dat
  | [c] => match lit c with
    | some ds => if (sortOkB ds && ims ds) = true then some (.ol (ds.mergeSort dle)) else none
    | none => match dit c with
      | some (true, ks, _) => if sortOkB ks = true then some (.ol (ks.mergeSort dle)) else none
      | _ => none
  | _ => none
theorem ro_sort : RO X (fun xs H Q => rSortL X xs H Q ∨ rSortN X xs H Q) dSort := by
  intro F H l vs B d Q hs o e k
  unfold dSort at e
  split at e
  · obtain ⟨v, S1, rfl, h1⟩ := o.one
    split at e
    · rename_i ds e1
      split at e
      · rename_i ok
        rw [Bool.and_eq_true] at ok
        have e' := Option.some.inj e
        subst e'
        obtain ⟨a, xs, S3, rfl, q, l⟩ := h1.lit_inv hs e1
        exact .inl ⟨F, a, xs, ds, rfl, hs, .inl q, l.ims ok.2, ok.1, fun vs' o' => ro_newL hs k o'⟩
      · cases e
    · split at e
      · rename_i ks vs' e2
        split at e
        · rename_i ok
          have e' := Option.some.inj e
          subst e'
          exact .inr ⟨F, _, v, ks, _, rfl, hs, h1.dk hs e2, ok, fun vs' o' => ro_newL hs k o'⟩
        · cases e
      · cases e
  · cases e
end
end B
set_option Elab.async false
set_option linter.all false
set_option maxRecDepth 100000
namespace B
open PySem PySem.Spec PyProof.Rows L2
variable [TabT]
section
variable {P : Program} {w : World} {K : PySem.W.Frag} {F F' H H' : Hp} {σ : L2.St} {ρ : Ev} {S T : List Addr}
theorem set_same {σ : L2.St} {i : Nat} {x : Option V} (h : σ[i]? = some x) : σ.set i x = σ := by
  apply List.ext_getElem?
  intro j
  by_cases e : i = j
  · subst e
    obtain ⟨hl, _⟩ := List.getElem?_eq_some_iff.mp h
    rw [List.getElem?_set_self hl, h]
  · rw [List.getElem?_set_ne e]
/-- what a slot bears is taken out; it may be put back, changed -/
theorem Good.take (g : Good P w K F H σ ρ S) {i : Nat} {d : Dat} (h : ρ[i]? = some (some d)) :
    ∃ v S1 R, σ[i]? = some (some v) ∧ Ow P w K F H d v S1 ∧ S.Perm (S1 ++ R) ∧ Good P w K F H σ (ρ.set i none) R := by
  have hi : i < ρ.length := (List.getElem?_eq_some_iff.mp h).1
  obtain ⟨S1, R, p, q, u⟩ := g.env.at hi
  obtain ⟨v, h1, h2⟩ := q d h
  have e2 := (u F H (fun _ _ e => e) fun _ _ => rfl).1 (some v)
  rw [set_same h1] at e2
  exact ⟨v, S1, R, h1, h2, p, ⟨g.sub, e2, ((p.nodup_iff.mp g.nd).sublist (List.sublist_append_right S1 R)), fun a ha => g.fr a (p.mem_iff.mpr (List.mem_append_right _ ha)), g.tab, g.nt⟩⟩
/-- a slot's own value is put back -/
theorem Good.put (g : Good P w K F H σ ρ S) {i : Nat} {d : Dat} {v : V} (hi : σ[i]? = some (some v)) (o : Ow P w K F H d v T) (hn : (T ++ S).Nodup) (hf : ∀ a ∈ T, F a = none) :
    ∃ S', Good P w K F H σ (ρ.set i (some d)) S' ∧ ∀ a ∈ S', a ∈ T ++ S := by
  have hl : i < ρ.length := by rw [← g.env.length]; exact (List.getElem?_eq_some_iff.mp hi).1
  obtain ⟨S', g', h⟩ := g.set hl o hn hf
  rw [set_same hi] at g'
  exact ⟨S', g', h⟩
end
section
variable {X : Cx} {F F1 F' H H1 H' : Hp} {σ : L2.St} {ρ ρ' : Ev} {S S1 S' T T' : List Addr} {W : WX} {pos : Pos}
def eC (d : Dat) : DE := fun ρ => some (.ok d, ρ)
theorem ok_here (g : Good X.prog X.w X.K F H σ ρ S) {d : Dat} {v : V} {Q : VK} (o : Ow X.prog X.w X.K F H d v []) (h : okE X F S H σ ρ d Q) : Q v H :=
  h v F H [] S Step.refl g o g.nd fun _ q => nomatch q
theorem pd_c {e : Expr} {v : V} {d : Dat} (h : PE X e (tC v)) (o : ∀ P w K F H, Ow P w K F H d v []) : PD X W e (eC d) := PE.imp h fun σ H Q q => by
  obtain ⟨F, ρ, S, o', ρ', g, hd, ho⟩ := q
  unfold eC at hd
  simp only [Option.some.injEq, Prod.mk.injEq] at hd
  obtain ⟨rfl, rfl⟩ := hd
  exact ok_here g (o _ _ _ _ _) ho
theorem pd_int {i : Int} {j} : PD X W (.Constant (.int i) j pos) (eC (.int i)) := pd_c pe_int fun _ _ _ _ _ => .int i
theorem pd_bl {b : Bool} {j} : PD X W (.Constant (.bool b) j pos) (eC (.bl b)) := pd_c pe_bl fun _ _ _ _ _ => .bl b
theorem pd_non {j} : PD X W (.Constant .none j pos) (eC .non) := pd_c pe_non fun _ _ _ _ _ => .non
theorem pd_str {x : Str} {j} : PD X W (.Constant (.str x) j pos) (eC (.str x)) := pd_c pe_str fun _ _ _ _ _ => .str x
theorem pd_bltn {x : Str} {v : V} {u : Value} (hg : Gl X x) (hm : X.mg x = none) (hv : bootBuiltins x = some u) (r : RelV v u) (hn : x ≠ "__name__" := by decide) (hd : (x == ("__debug__" : Str)) = false := by decide) : PD X W (.Name x pos) (eC (.raw v)) :=
  pd_c (pe_bltn hg hm hv r hn hd) fun _ _ _ _ _ => .raw v
def dtsOf : List Arg → Option (List Dat)
  | [] => some []
  | .dt d :: as => match dtsOf as with
    | some ds => some (d :: ds)
    | none => none
  | .vw _ :: _ => none
theorem OwA.dts : ∀ {as : List Arg} {vs : List V} {T : List Addr} {ds : List Dat}, OwA X F H σ as vs T → dtsOf as = some ds → OwL X.prog X.w X.K F H ds vs T := by
  intro as
  induction as with
  | nil => intro vs T ds h e; cases h; simp only [dtsOf, Option.some.injEq] at e; subst e; exact .nil
  | cons a as ih =>
    intro vs T ds h e
    cases h with
    | vw _ _ => simp [dtsOf] at e
    | dt o ha =>
      simp only [dtsOf] at e
      split at e
      · rename_i ds' e2
        have e' := Option.some.inj e
        subst e'
        exact .cons o (ih ha e2)
      · cases e
def eTup (as : DA) : DE := fun ρ => bnd (as ρ) fun a ρ' => match dtsOf a with
  | some ds => if ds.length ≤ 1000 then some (.ok (.tup ds), ρ') else none
  | none => none
def eLst (as : DA) : DE := fun ρ => bnd (as ρ) fun a ρ' => match dtsOf a with
  | some ds => if ds.length ≤ 1000 then some (.ok (.ol ds), ρ') else none
  | none => none
theorem le1000 {n : Nat} (h : n ≤ 1000) : n ≤ sizeLine := Nat.le_of_lt (L2.small1000 h)
theorem pd_tup {es : List Expr} {x1} {as : DA} (h : PDA X W es as) : PD X W (.Tuple es x1 pos) (eTup as) := PE.imp (pe_tup h) fun σ H Q q => by
  obtain ⟨F, ρ, S, o, ρ', g, hd, ho⟩ := q
  unfold eTup at hd
  rcases bnd_inv hd with ⟨a, ρ1, h1, h2⟩ | ⟨x, h1, rfl⟩
  · split at h2
    · rename_i ds e
      split at h2
      · rename_i hl
        simp only [Option.some.injEq, Prod.mk.injEq] at h2
        obtain ⟨rfl, rfl⟩ := h2
        refine ⟨F, ρ, S, .ok a, ρ1, g, h1, fun vs F1 H1 T S1 st g1 oa nd fr => ⟨by rw [← (oa.dts e).length]; exact le1000 hl, fun p hp => ?_⟩⟩
        have ol := oa.dts e
        have hne : ∀ b u, H1 b = some u → b ≠ p := fun b u e z => by rw [z, hp] at e; cases e
        have hT : ∀ b ∈ T, b ≠ p := fun b hb => by obtain ⟨u, e, _⟩ := ol.inH b hb; exact hne b u e
        have hS : ∀ b ∈ S1, b ≠ p := fun b hb => by obtain ⟨u, e, _⟩ := g1.env.inH b hb; exact hne b u e
        have sF := step_newF (o := HO.tup vs) (fun _ z => by cases z) g1.sub hp
        have sb : Step F1 (T ++ S1) H1 (upd F1 p (.tup vs)) (T ++ S1) (upd H1 p (.tup vs)) := by
          have := sF.beside (R := T ++ S1)
          simpa using this
        have mF : ∀ a o, F1 a = some o → upd F1 p (.tup vs) a = some o := fun a u e => by rw [upd_ne (hne a u (g1.sub a u e))]; exact e
        exact ho (.ref p) _ _ T S1 (st.trans sb) (g1.step sF (sub_newF g1.sub) fun a _ q => nomatch q)
          (.tup (SqT.of upd_same) (ol.mono mF fun b hb => upd_ne (hT b hb))) nd fun b hb => by rw [upd_ne (hT b hb)]; exact fr b hb
      · cases h2
    · cases h2
  · exact ⟨F, ρ, S, .error x, ρ', g, h1, ho⟩
theorem pd_lst {es : List Expr} {as : DA} (h : PDA X W es as) : PD X W (.List es pos) (eLst as) := PE.imp (pe_lst h) fun σ H Q q => by
  obtain ⟨F, ρ, S, o, ρ', g, hd, ho⟩ := q
  unfold eLst at hd
  rcases bnd_inv hd with ⟨a, ρ1, h1, h2⟩ | ⟨x, h1, rfl⟩
  · split at h2
    · rename_i ds e
      split at h2
      · rename_i hl
        simp only [Option.some.injEq, Prod.mk.injEq] at h2
        obtain ⟨rfl, rfl⟩ := h2
        refine ⟨F, ρ, S, .ok a, ρ1, g, h1, fun vs F1 H1 T S1 st g1 oa nd fr => ⟨by rw [← (oa.dts e).length]; exact le1000 hl, fun p hp => ?_⟩⟩
        have ol := oa.dts e
        have hne : ∀ b u, H1 b = some u → b ≠ p := fun b u e z => by rw [z, hp] at e; cases e
        have hT : ∀ b ∈ T, b ≠ p := fun b hb => by obtain ⟨u, e, _⟩ := ol.inH b hb; exact hne b u e
        have hS : ∀ b ∈ S1, b ≠ p := fun b hb => by obtain ⟨u, e, _⟩ := g1.env.inH b hb; exact hne b u e
        have sF := step_new (F := F1) (o := HO.lst vs) hp
        have sb : Step F1 (T ++ S1) H1 F1 ((p :: T) ++ S1) (upd H1 p (.lst vs)) := by
          have := sF.beside (R := T ++ S1)
          simpa using this
        refine ho (.ref p) _ _ (p :: T) S1 (st.trans sb) (g1.step sF (sub_new g1.sub hp) fun a _ q => nomatch q)
          (.ol upd_same (ol.mono (fun _ _ e => e) fun b hb => upd_ne (hT b hb))) ?_ fun b hb => ?_
        · refine List.nodup_cons.mpr ⟨fun hm => ?_, nd⟩
          rcases List.mem_append.mp hm with q | q
          · exact hT p q rfl
          · exact hS p q rfl
        · rcases List.mem_cons.mp hb with rfl | hb
          · exact free_new g1.sub hp
          · exact fr b hb
      · cases h2
    · cases h2
  · exact ⟨F, ρ, S, .error x, ρ', g, h1, ho⟩
theorem outE.after {o : Rs Dat} {Q : VK} (h : outE X F S H σ W o ρ' Q) (st : Step F S H F1 S1 H1) : outE X F1 S1 H1 σ W o ρ' Q := by
  cases o with
  | error x =>
    have h' : errE X F S H σ ρ' x (fun c d H' => W c d σ H') := h
    exact h'.after st
  | ok d => exact fun v F' H' T S' s2 => h v F' H' T S' (st.trans s2)
theorem outT.after {o : Rs Bool} {Q : Bool → Hp → Prop} (h : outT X F S H σ W o ρ' Q) (st : Step F S H F1 S1 H1) : outT X F1 S1 H1 σ W o ρ' Q := by
  cases o with
  | error x =>
    have h' : errE X F S H σ ρ' x (fun c d H' => W c d σ H') := h
    exact h'.after st
  | ok d => exact fun F' H' S' s2 => h F' H' S' (st.trans s2)
/-- a test, then f -/
theorem tE_bndT {c : DT} {f : Bool → Ev → Option (Rs Dat × Ev)} {Q : VK} (h : tE X W (fun ρ => bnd (c ρ) f) σ H Q) : tT X W c σ H fun k H1 => tE X W (f k) σ H1 Q := by
  obtain ⟨F, ρ, S, o, ρ', g, hd, ho⟩ := h
  rcases bnd_inv hd with ⟨k, ρ1, h1, h2⟩ | ⟨x, h1, rfl⟩
  · exact ⟨F, ρ, S, .ok k, ρ1, g, h1, fun F1 H1 S1 st g1 => ⟨F1, ρ1, S1, o, ρ', g1, h2, ho.after st⟩⟩
  · exact ⟨F, ρ, S, .error x, ρ', g, h1, ho⟩
theorem tT_bndT {c : DT} {f : Bool → Ev → Option (Rs Bool × Ev)} {Q : Bool → Hp → Prop} (h : tT X W (fun ρ => bnd (c ρ) f) σ H Q) : tT X W c σ H fun k H1 => tT X W (f k) σ H1 Q := by
  obtain ⟨F, ρ, S, o, ρ', g, hd, ho⟩ := h
  rcases bnd_inv hd with ⟨k, ρ1, h1, h2⟩ | ⟨x, h1, rfl⟩
  · exact ⟨F, ρ, S, .ok k, ρ1, g, h1, fun F1 H1 S1 st g1 => ⟨F1, ρ1, S1, o, ρ', g1, h2, ho.after st⟩⟩
  · exact ⟨F, ρ, S, .error x, ρ', g, h1, ho⟩
theorem mono_T (den : DT) {Q Q' : Bool → Hp → Prop} (h : ∀ k H, Q k H → Q' k H) (t : tT X W den σ H Q) : tT X W den σ H Q' := by
  obtain ⟨F, ρ, S, o, ρ', g, hd, ho⟩ := t
  refine ⟨F, ρ, S, o, ρ', g, hd, ?_⟩
  cases o with
  | ok d => exact fun F' H' S' a b => h d H' (ho F' H' S' a b)
  | error x => exact ho
/-- a known answer of a test -/
theorem tT_ok {k : Bool} {Q : Bool → Hp → Prop} (h : tT X W (fun ρ => some (.ok k, ρ)) σ H Q) : Q k H := by
  obtain ⟨F, ρ, S, o, ρ', g, hd, ho⟩ := h
  simp only [Option.some.injEq, Prod.mk.injEq] at hd
  obtain ⟨rfl, rfl⟩ := hd
  exact ho F H S Step.refl g
def eIf (c : DT) (a b : DE) : DE := fun ρ => bnd (c ρ) fun k => if k = true then a else b
theorem pd_if {c a b : Expr} {dc : DT} {da db : DE} (hc : PDT X W c dc) (ha : PD X W a da) (hb : PD X W b db) : PD X W (.IfExp c a b pos) (eIf dc da db) := PE.imp (pe_ifExp hc ha hb) fun σ H Q h => by
  refine mono_T dc (fun k H1 q => ?_) (tE_bndT h)
  cases k <;> exact q
def cAnd (a b : DT) : DT := fun ρ => bnd (a ρ) fun k => if k = true then b else fun ρ => some (.ok false, ρ)
def cOr (a b : DT) : DT := fun ρ => bnd (a ρ) fun k => if k = true then fun ρ => some (.ok true, ρ) else b
def cNot (a : DT) : DT := fun ρ => bnd (a ρ) fun k => fun ρ => some (.ok (!k), ρ)
def PDW (X : Cx) (W : WX) (e : Expr) (den : DT) : Prop := PW X e (tT X W den)
theorem PW.imp {e : Expr} {t t' : TT} (h : PW X e t) (i : ∀ σ H Q, t' σ H Q → t σ H Q) : PW X e t' := ⟨fun wh pins s σ H Q I q => h.run wh pins s σ H Q I (i σ H Q q)⟩
theorem pdw_and1 {a : Expr} {d : DT} (h : PDT X W a d) : PDW X W (.BoolOp .And [a] pos) d := pw_and1 h
theorem pdw_or1 {a : Expr} {d : DT} (h : PDT X W a d) : PDW X W (.BoolOp .Or [a] pos) d := pw_or1 h
theorem pdw_and {a b : Expr} {rest : List Expr} {da db : DT} (ha : PDT X W a da) (hb : PDW X W (.BoolOp .And (b :: rest) pos) db) : PDW X W (.BoolOp .And (a :: b :: rest) pos) (cAnd da db) := PW.imp (pw_and ha hb) fun σ H Q h => by
  refine mono_T da (fun k H1 q => ?_) (tT_bndT h)
  cases k
  · exact tT_ok (k := false) q
  · exact q
theorem pdw_or {a b : Expr} {rest : List Expr} {da db : DT} (ha : PDT X W a da) (hb : PDW X W (.BoolOp .Or (b :: rest) pos) db) : PDW X W (.BoolOp .Or (a :: b :: rest) pos) (cOr da db) := PW.imp (pw_or ha hb) fun σ H Q h => by
  refine mono_T da (fun k H1 q => ?_) (tT_bndT h)
  cases k
  · exact q
  · exact tT_ok (k := true) q
theorem pdt_not {a : Expr} {da : DT} (ha : PDT X W a da) : PDT X W (.UnaryOp .Not a pos) (cNot da) := PT.imp (pt_not ha) fun σ H Q h => mono_T da (fun k H1 q => tT_ok (k := !k) q) (tT_bndT h)
end
end B
set_option Elab.async false
set_option linter.all false
set_option maxRecDepth 100000
namespace B
open PySem PySem.Spec PyProof.Rows L2
variable [TabT]
section
variable {X : Cx} {F F1 F' H H1 H' : Hp} {σ : L2.St} {ρ ρ' : Ev} {S S1 S' T T' : List Addr} {W : WX} {pos : Pos}
/-- what is a bool -/
def onB {α : Type} (f : Bool → Ev → Option (Rs α × Ev)) : Dat → Ev → Option (Rs α × Ev)
  | .bl k => f k
  | _ => fun _ => none
def eB (a : DE) : DT := fun ρ => bnd (a ρ) (onB fun k ρ => some (.ok k, ρ))
theorem onB_inv {α : Type} {f : Bool → Ev → Option (Rs α × Ev)} {d : Dat} {ρ : Ev} {r : Rs α × Ev} (h : onB f d ρ = some r) : ∃ k, d = .bl k ∧ f k ρ = some r := by
  cases d <;> first | cases h | exact ⟨_, rfl, h⟩
theorem tT_eB {a : DE} {Q : Bool → Hp → Prop} (h : tT X W (eB a) σ H Q) : tE X W a σ H fun v H1 => ∃ k, v = .bl k ∧ Q k H1 := by
  obtain ⟨F, ρ, S, o, ρ', g, hd, ho⟩ := h
  unfold eB at hd
  rcases bnd_inv hd with ⟨d, ρ1, h1, h2⟩ | ⟨x, h1, rfl⟩
  · obtain ⟨k, rfl, h3⟩ := onB_inv h2
    simp only [Option.some.injEq, Prod.mk.injEq] at h3
    obtain ⟨rfl, rfl⟩ := h3
    refine ⟨F, ρ, S, .ok (.bl k), ρ1, g, h1, fun v F1 H1 T S1 st g1 o nd fr => ?_⟩
    obtain ⟨rfl, rfl⟩ := o.bl_inv
    exact ⟨k, rfl, ho F1 H1 S1 st g1⟩
  · exact ⟨F, ρ, S, .error x, ρ', g, h1, ho⟩
theorem tE_bndB {a : DE} {f : Bool → DE} {Q : VK} (h : tE X W (fun ρ => bnd (a ρ) (onB f)) σ H Q) : tE X W a σ H fun v H1 => ∃ k, v = .bl k ∧ tE X W (f k) σ H1 Q := by
  obtain ⟨F, ρ, S, o, ρ', g, hd, ho⟩ := h
  rcases bnd_inv hd with ⟨d, ρ1, h1, h2⟩ | ⟨x, h1, rfl⟩
  · obtain ⟨k, rfl, h3⟩ := onB_inv h2
    refine ⟨F, ρ, S, .ok (.bl k), ρ1, g, h1, fun v F1 H1 T S1 st g1 o1 nd fr => ?_⟩
    obtain ⟨rfl, rfl⟩ := o1.bl_inv
    exact ⟨k, rfl, F1, ρ1, S1, o, ρ', g1, h3, ho.after st⟩
  · exact ⟨F, ρ, S, .error x, ρ', g, h1, ho⟩
/-- a known answer -/
theorem tE_bl {k : Bool} {Q : VK} (h : tE X W (fun ρ => some (.ok (.bl k), ρ)) σ H Q) : Q (.bl k) H := by
  obtain ⟨F, ρ, S, o, ρ', g, hd, ho⟩ := h
  simp only [Option.some.injEq, Prod.mk.injEq] at hd
  obtain ⟨rfl, rfl⟩ := hd
  exact ok_here g (.bl k) ho
def vAnd (a b : DE) : DE := fun ρ => bnd (a ρ) (onB fun k => if k = true then b else fun ρ => some (.ok (.bl false), ρ))
theorem pd_one {op} {a : Expr} {d : DE} (h : PD X W a d) : PD X W (.BoolOp op [a] pos) d := pe_one h
theorem pd_and {a b : Expr} {rest : List Expr} {da db : DE} (ha : PD X W a da) (hb : PD X W (.BoolOp .And (b :: rest) pos) db) : PD X W (.BoolOp .And (a :: b :: rest) pos) (vAnd da db) := PE.imp (pe_and ha hb) fun σ H Q h => by
  refine mono_E X W da σ H _ _ (fun v H1 ⟨k, e, q⟩ => ⟨k, e, ?_⟩) (tE_bndB h)
  cases k
  · exact tE_bl (k := false) q
  · exact q
/-- a test that is a comparison -/
theorem pdt_cmp {op : CmpOp} {r : R2} {a b : Expr} {ca cb : DA → DA} {f : List Dat → Option Dat} (ho : OpR X (compareOp op) r) (hr : RO X (r2 r) f) (ha : P1 X W a ca) (hb : P1 X W b cb) (hm : behindInMarks op b = false) :
    PDT X W (.Compare a [op] [b] pos) (eB (eOp f (ca (cb aNil)))) := by
  obtain ⟨ta, pa, qa, ma⟩ := ha
  obtain ⟨tb, pb, qb, mb⟩ := hb
  exact PT.imp (pt_cmpR ho pa pb hm) fun σ H Q h => two_use hr qa ma qb mb (tT_eB h)
/-- a test whose value is a bool -/
theorem pdt_val {e : Expr} {d : DE} (h : PD X W e d) (he : ∀ whole, isTrue e X.env whole = (do let v ← whole; standAt e.pos; holding [v] (truthy v)) := by intro _; rfl) : PDT X W e (eB d) :=
  PT.imp (pt_val h he) fun σ H Q h => tT_eB h
end
end B
set_option Elab.async false
set_option linter.all false
set_option maxRecDepth 100000
namespace B
open PySem PySem.Spec PyProof.Rows L2
variable [TabT]
inductive Fl where
  | nx | rt (d : Dat) | bk | ct | er (x : Exc)
abbrev DS := Ev → Option (Fl × Ev)
section
variable {X : Cx} {F F1 F' H H1 H' : Hp} {σ σ1 : L2.St} {ρ ρ' : Ev} {S S1 S' T T' : List Addr} {W : WX} {pos : Pos} {fix : Nat → Bool}
/-- the slots that stay as they are -/
structure Fixed (fix : Nat → Bool) (σ σ' : L2.St) : Prop where
  len : σ'.length = σ.length
  all : ∀ i, fix i = true → σ'[i]? = σ[i]?
theorem Fixed.refl : Fixed fix σ σ := ⟨rfl, fun _ _ => rfl⟩
theorem Fixed.trans {σ2 : L2.St} (a : Fixed fix σ σ1) (b : Fixed fix σ1 σ2) : Fixed fix σ σ2 := ⟨b.len.trans a.len, fun i hi => (b.all i hi).trans (a.all i hi)⟩
theorem Fixed.set {i : Nat} {x : Option V} (h : fix i = false) : Fixed fix σ (σ.set i x) := ⟨List.length_set, fun j hj => List.getElem?_set_ne fun e : i = j => by rw [e, hj] at h; cases h⟩
def outS (X : Cx) (W : WX) (fix : Nat → Bool) (F : Hp) (S : List Addr) (H : Hp) (σ : L2.St) (o : Fl) (ρ' : Ev) (D : Ends) : Prop :=
  match o with
  | .nx => ∀ σ' F' H' S', Step F S H F' S' H' → Good X.prog X.w X.K F' H' σ' ρ' S' → Fixed fix σ σ' → D.nx σ' H'
  | .bk => ∀ σ' F' H' S', Step F S H F' S' H' → Good X.prog X.w X.K F' H' σ' ρ' S' → Fixed fix σ σ' → D.bk σ' H'
  | .ct => ∀ σ' F' H' S', Step F S H F' S' H' → Good X.prog X.w X.K F' H' σ' ρ' S' → Fixed fix σ σ' → D.ct σ' H'
  | .rt d => ∀ v σ' F' H' T S', Step F S H F' (T ++ S') H' → Good X.prog X.w X.K F' H' σ' ρ' S' → Fixed fix σ σ' → Ow X.prog X.w X.K F' H' d v T → (T ++ S').Nodup → (∀ a ∈ T, F' a = none) → D.rt v H'
  | .er x => ∀ σ', Fixed fix σ σ' → errE X F S H σ' ρ' x fun c d H' => W c d σ' H'
def tS (X : Cx) (W : WX) (fix : Nat → Bool) (den : DS) : TS := fun D σ H => ∃ F ρ S o ρ', Good X.prog X.w X.K F H σ ρ S ∧ den ρ = some (o, ρ') ∧ outS X W fix F S H σ o ρ' D
def PDS (X : Cx) (W : WX) (fix : Nat → Bool) (st : Stmt) (den : DS) : Prop := PS X st (tS X W fix den)
def PDSs (X : Cx) (W : WX) (fix : Nat → Bool) (st : List Stmt) (den : DS) : Prop := PSs X st (tS X W fix den)
theorem outS.after {o : Fl} {D : Ends} (h : outS X W fix F S H σ o ρ' D) (st : Step F S H F1 S1 H1) (fx : Fixed fix σ σ1) : outS X W fix F1 S1 H1 σ1 o ρ' D := by
  cases o with
  | nx => exact fun σ' F' H' S' s2 g f2 => h σ' F' H' S' (st.trans s2) g (fx.trans f2)
  | bk => exact fun σ' F' H' S' s2 g f2 => h σ' F' H' S' (st.trans s2) g (fx.trans f2)
  | ct => exact fun σ' F' H' S' s2 g f2 => h σ' F' H' S' (st.trans s2) g (fx.trans f2)
  | rt d => exact fun v σ' F' H' T S' s2 g f2 => h v σ' F' H' T S' (st.trans s2) g (fx.trans f2)
  | er x => exact fun σ' f2 => (h σ' (fx.trans f2)).after st
/-- other ends, where nx, bk, ct, rt are implied -/
theorem outS.ends {o : Fl} {D D' : Ends} (h : outS X W fix F S H σ o ρ' D) (hn : ∀ σ H, D.nx σ H → D'.nx σ H) (hr : ∀ v H, D.rt v H → D'.rt v H) (hb : ∀ σ H, D.bk σ H → D'.bk σ H) (hc : ∀ σ H, D.ct σ H → D'.ct σ H) : outS X W fix F S H σ o ρ' D' := by
  cases o with
  | nx => exact fun σ' F' H' S' s2 g f2 => hn _ _ (h σ' F' H' S' s2 g f2)
  | bk => exact fun σ' F' H' S' s2 g f2 => hb _ _ (h σ' F' H' S' s2 g f2)
  | ct => exact fun σ' F' H' S' s2 g f2 => hc _ _ (h σ' F' H' S' s2 g f2)
  | rt d => exact fun v σ' F' H' T S' s2 g f2 h1 h2 h3 => hr _ _ (h v σ' F' H' T S' s2 g f2 h1 h2 h3)
  | er x => exact h
def sNx : DS := fun ρ => some (.nx, ρ)
def sThen (r : Option (Fl × Ev)) (b : DS) : Option (Fl × Ev) := match r with
  | some (.nx, ρ) => b ρ
  | some (.rt d, ρ) => some (.rt d, ρ)
  | some (.bk, ρ) => some (.bk, ρ)
  | some (.ct, ρ) => some (.ct, ρ)
  | some (.er x, ρ) => some (.er x, ρ)
  | none => none
def sSeq (a b : DS) : DS := fun ρ => sThen (a ρ) b
theorem sThen_inv {r : Option (Fl × Ev)} {b : DS} {o : Fl} {ρ' : Ev} (h : sThen r b = some (o, ρ')) : (∃ ρ1, r = some (.nx, ρ1) ∧ b ρ1 = some (o, ρ')) ∨ (r = some (o, ρ') ∧ o ≠ .nx) := by
  unfold sThen at h
  split at h
  · exact .inl ⟨_, rfl, h⟩
  all_goals first
    | (simp only [Option.some.injEq, Prod.mk.injEq] at h
       obtain ⟨rfl, rfl⟩ := h
       exact .inr ⟨rfl, fun z => nomatch z⟩)
    | cases h
theorem tS_seq {a b : DS} {D : Ends} (h : tS X W fix (sSeq a b) D σ H) : tS X W fix a { D with nx := tS X W fix b D } σ H := by
  obtain ⟨F, ρ, S, o, ρ', g, hd, ho⟩ := h
  rcases sThen_inv hd with ⟨ρ1, h1, h2⟩ | ⟨h1, hn⟩
  · exact ⟨F, ρ, S, .nx, ρ1, g, h1, fun σ' F' H' S' st g' fx => ⟨F', ρ1, S', o, ρ', g', h2, ho.after st fx⟩⟩
  · refine ⟨F, ρ, S, o, ρ', g, h1, ?_⟩
    cases o with
    | nx => exact absurd rfl hn
    | bk => exact ho
    | ct => exact ho
    | rt d => exact ho
    | er x => exact ho
theorem tS_nx {D : Ends} (h : tS X W fix sNx D σ H) : D.nx σ H := by
  obtain ⟨F, ρ, S, o, ρ', g, hd, ho⟩ := h
  unfold sNx at hd
  simp only [Option.some.injEq, Prod.mk.injEq] at hd
  obtain ⟨rfl, rfl⟩ := hd
  exact ho σ F H S Step.refl g Fixed.refl
theorem pdss_nil : PDSs X W fix [] sNx := PSs.imp pss_nil fun D σ H h => tS_nx h
theorem pdss_cons {st : Stmt} {rest : List Stmt} {a b : DS} (h1 : PDS X W fix st a) (h2 : PDSs X W fix rest b) : PDSs X W fix (st :: rest) (sSeq a b) := PSs.imp (pss_cons h1 h2) fun D σ H h => tS_seq h
def bndS {α : Type} (m : Option (Rs α × Ev)) (f : α → DS) : Option (Fl × Ev) := match m with
  | some (.ok a, ρ) => f a ρ
  | some (.error x, ρ) => some (.er x, ρ)
  | none => none
theorem bndS_inv {α : Type} {m : Option (Rs α × Ev)} {f : α → DS} {o : Fl} {ρ' : Ev} (h : bndS m f = some (o, ρ')) : (∃ a ρ1, m = some (.ok a, ρ1) ∧ f a ρ1 = some (o, ρ')) ∨ ∃ x, m = some (.error x, ρ') ∧ o = .er x := by
  unfold bndS at h
  split at h
  · exact .inl ⟨_, _, rfl, h⟩
  · simp only [Option.some.injEq, Prod.mk.injEq] at h
    obtain ⟨rfl, rfl⟩ := h
    exact .inr ⟨_, rfl, rfl⟩
  · cases h
/-- an expression's value, then a statement's way -/
theorem tE_bndS {e : DE} {f : Dat → DS} {D : Ends} {Q : VK} (h : tS X W fix (fun ρ => bndS (e ρ) f) D σ H)
    (hq : ∀ d v F1 H1 T S1 ρ1 o ρ', Good X.prog X.w X.K F1 H1 σ ρ1 S1 → Ow X.prog X.w X.K F1 H1 d v T → (T ++ S1).Nodup → (∀ a ∈ T, F1 a = none) → f d ρ1 = some (o, ρ') → outS X W fix F1 (T ++ S1) H1 σ o ρ' D → Q v H1) : tE X W e σ H Q := by
  obtain ⟨F, ρ, S, o, ρ', g, hd, ho⟩ := h
  rcases bndS_inv hd with ⟨d, ρ1, h1, h2⟩ | ⟨x, h1, rfl⟩
  · exact ⟨F, ρ, S, .ok d, ρ1, g, h1, fun v F1 H1 T S1 st g1 o1 nd fr => hq d v F1 H1 T S1 ρ1 o ρ' g1 o1 nd fr h2 (ho.after st Fixed.refl)⟩
  · exact ⟨F, ρ, S, .error x, ρ', g, h1, ho σ Fixed.refl⟩
def sDrop (e : DE) : DS := fun ρ => bndS (e ρ) fun _ => sNx
theorem pds_expr {e : Expr} {de : DE} (he : PD X W e de) (hs : swapsWith e none pos.line X.env = pure false := by rfl) : PDS X W fix (.Expr e pos) (sDrop de) := PS.imp (ps_expr he hs) fun D σ H h =>
  tE_bndS h fun d v F1 H1 T S1 ρ1 o ρ' g1 o1 nd fr hf ho => by
    unfold sNx at hf
    simp only [Option.some.injEq, Prod.mk.injEq] at hf
    obtain ⟨rfl, rfl⟩ := hf
    exact ho σ F1 H1 S1 (Step.refl.less fun x hx => List.mem_append_right _ hx) g1 Fixed.refl
def sRet (e : DE) : DS := fun ρ => bndS (e ρ) fun d ρ1 => some (.rt d, ρ1)
theorem pds_ret {e : Expr} {de : DE} (he : PD X W e de) : PDS X W fix (.Return (some e) pos) (sRet de) := PS.imp (ps_ret he) fun D σ H h =>
  tE_bndS h fun d v F1 H1 T S1 ρ1 o ρ' g1 o1 nd fr hf ho => by
    simp only [Option.some.injEq, Prod.mk.injEq] at hf
    obtain ⟨rfl, rfl⟩ := hf
    exact ho v σ F1 H1 T S1 Step.refl g1 Fixed.refl o1 nd fr
def sIf (c : DT) (a b : DS) : DS := fun ρ => bndS (c ρ) fun k => if k = true then a else b
theorem tT_bndS {c : DT} {f : Bool → DS} {D : Ends} (h : tS X W fix (fun ρ => bndS (c ρ) f) D σ H) : tT X W c σ H fun k H1 => tS X W fix (f k) D σ H1 := by
  obtain ⟨F, ρ, S, o, ρ', g, hd, ho⟩ := h
  rcases bndS_inv hd with ⟨k, ρ1, h1, h2⟩ | ⟨x, h1, rfl⟩
  · exact ⟨F, ρ, S, .ok k, ρ1, g, h1, fun F1 H1 S1 st g1 => ⟨F1, ρ1, S1, o, ρ', g1, h2, ho.after st Fixed.refl⟩⟩
  · exact ⟨F, ρ, S, .error x, ρ', g, h1, ho σ Fixed.refl⟩
theorem pds_if {c : Expr} {a b : List Stmt} {dc : DT} {da db : DS} (hc : PDT X W c dc) (ha : PDSs X W fix a da) (hb : PDSs X W fix b db) : PDS X W fix (.If c a b pos) (sIf dc da db) := PS.imp (ps_if hc ha hb) fun D σ H h => by
  refine mono_T dc (fun k H1 q => ?_) (tT_bndS h)
  cases k <;> exact q
def setS (i : Nat) (d : Dat) : DS := fun ρ => if i < ρ.length then some (.nx, ρ.set i (some d)) else none
def sSet (i : Nat) (e : DE) : DS := fun ρ => bndS (e ρ) (setS i)
/-- name = e, what is stored is frozen -/
def sSetF (i : Nat) (e : DE) : DS := fun ρ => bndS (e ρ) fun d => setS i (frz d)
theorem setS_inv {i : Nat} {d : Dat} {o : Fl} (h : setS i d ρ = some (o, ρ')) : i < ρ.length ∧ o = .nx ∧ ρ' = ρ.set i (some d) := by
  unfold setS at h
  split at h
  · rename_i hi
    simp only [Option.some.injEq, Prod.mk.injEq] at h
    exact ⟨hi, h.1.symm, h.2.symm⟩
  · cases h
/-- what a store of a slot gives -/
theorem set_nx {i : Nat} {d : Dat} {v : V} {o : Fl} {D : Ends} (hfix : fix i = false) (g : Good X.prog X.w X.K F H σ ρ S) (o1 : Ow X.prog X.w X.K F H d v T) (nd : (T ++ S).Nodup) (fr : ∀ a ∈ T, F a = none) (hf : setS i d ρ = some (o, ρ')) (ho : outS X W fix F (T ++ S) H σ o ρ' D) : D.nx (σ.set i (some v)) H := by
  obtain ⟨hi, rfl, rfl⟩ := setS_inv hf
  obtain ⟨S', g', hS⟩ := g.set hi o1 nd fr
  exact ho _ F H S' (Step.refl.less hS) g' (Fixed.set hfix)
theorem putF_nt (t : NoTbl F) (h : ∀ a ∈ T, Thr H a) : NoTbl (putF F H T) := fun a ps e => by
  by_cases ha : a ∈ T
  · rw [putF_in ha] at e
    obtain ⟨o, e2, n, _⟩ := h a ha
    rw [e2] at e
    exact n ps (Option.some.inj e)
  · rw [putF_out ha] at e; exact t a ps e
/-- the temporaries frozen -/
theorem freezeT {d : Dat} {v : V} (g : Good X.prog X.w X.K F H σ ρ S) (o1 : Ow X.prog X.w X.K F H d v T) (nd : (T ++ S).Nodup) (fr : ∀ a ∈ T, F a = none) :
    ∃ F2, Step F (T ++ S) H F2 S H ∧ Good X.prog X.w X.K F2 H σ ρ S ∧ Ow X.prog X.w X.K F2 H (frz d) v [] := by
  have dis : ∀ a ∈ S, a ∉ T := fun a h1 h2 => (List.nodup_append.mp nd).2.2 a h2 a h1 rfl
  refine ⟨putF F H T, ⟨putF_ext fr, fun a o e => ?_, fun x hx => .inl (List.mem_append_right _ hx), fun a o e _ _ => e, fun _ h => h, fun t => t, fun t => putF_nt t o1.inH⟩, g.ext (putF_ext fr) (fun a o e => ?_) (fun _ _ => rfl) (fun a ha => ?_) g.tab (putF_nt g.nt o1.inH), o1.freeze fr fun _ h => h⟩
  · by_cases ha : a ∈ T
    · exact .inr (.inr (.inl (List.mem_append_left _ ha)))
    · rw [putF_out ha] at e; exact .inl e
  · by_cases ha : a ∈ T
    · rw [putF_in ha] at e; exact e
    · rw [putF_out ha] at e; exact g.sub a o e
  · rw [putF_out (dis a ha)]; exact g.fr a ha
theorem pds_set {i : Nat} {x : Str} {e : Expr} {de : DE} {pos' : Pos} (hN : X.N.Nodup) (hi : X.N[i]? = some x) (hx : Loc X.env.scope x) (hfix : fix i = false) (he : PD X W e de) (hs : swapsWith e (some (.Name x pos')) pos.line X.env = pure false := by rfl)
    (hf : X.fn x = true ∨ X.env.scope.names.lookup x = some .local := by first | exact .inl rfl | exact .inr rfl | assumption) : PDS X W fix (.Assign [.Name x pos'] e pos) (sSet i de) := PS.imp (ps_set hN hi hx he hs hf) fun D σ H h =>
  tE_bndS h fun d v F1 H1 T S1 ρ1 o ρ' g1 o1 nd fr hf ho => set_nx hfix g1 o1 nd fr hf ho
theorem pds_setF {i : Nat} {x : Str} {e : Expr} {de : DE} {pos' : Pos} (hN : X.N.Nodup) (hi : X.N[i]? = some x) (hx : Loc X.env.scope x) (hfix : fix i = false) (he : PD X W e de) (hs : swapsWith e (some (.Name x pos')) pos.line X.env = pure false := by rfl)
    (hf : X.fn x = true ∨ X.env.scope.names.lookup x = some .local := by first | exact .inl rfl | exact .inr rfl | assumption) : PDS X W fix (.Assign [.Name x pos'] e pos) (sSetF i de) := PS.imp (ps_set hN hi hx he hs hf) fun D σ H h =>
  tE_bndS h fun d v F1 H1 T S1 ρ1 o ρ' g1 o1 nd fr hf ho => by
    obtain ⟨F2, st, g2, o2⟩ := freezeT g1 o1 nd fr
    exact set_nx (T := []) hfix g2 o2 g2.nd (fun _ q => nomatch q) hf (ho.after st Fixed.refl)
/-- a, b = c, d (both plain local names) -/
def sPar (fa fb : Bool) (i j : Nat) (as : DA) : DS := fun ρ => bndS (as ρ) fun a ρ1 => match a with
  | [.dt d, .dt e] => if i < ρ1.length ∧ j < ρ1.length then some (.nx, (ρ1.set i (some (if fa = true then frz d else d))).set j (some (if fb = true then frz e else e))) else none
  | _ => none
end
end B
set_option Elab.async false
set_option linter.all false
set_option maxRecDepth 100000
namespace B
open PySem PySem.Spec PyProof.Rows L2
variable [TabT]
abbrev DF := List Dat → Option (Rs Dat × Ev)
section
variable (P : Program) (w : World) (K : PySem.W.Frag) (mg : Str → Option Value)
/-- what an exception bears: of the call's arguments, where told -/
inductive PayF (F H : Hp) (as : List V) : List (Str × Dat × Option Nat) → List V → Prop
  | nil : PayF F H as [] []
  | cons {n : Str} {d : Dat} {src : Option Nat} {v : V} {fs : List (Str × Dat × Option Nat)} {vs : List V} : Ow P w K F H d v [] → (∀ i, src = some i → as[i]? = some v) → PayF F H as fs vs → PayF F H as ((n, d, src) :: fs) (v :: vs)
def errF (F : Hp) (S : List Addr) (H : Hp) (vs : List V) (x : Exc) (E : XK) : Prop :=
  ∀ C F' H' S' ps, mg x.cls = some (.ref C) → Step F S H F' S' H' → (∀ a o, F' a = some o → H' a = some o) → PayF P w K F' H' vs x.fs ps →
    (x.fs = [] → E (.ref C) none H') ∧ (x.fs ≠ [] → ∀ d', H' d' = none → E (.ref C) (some d') (upd H' d' (.xd ((x.fs.map (·.1)).zip ps))))
def outF (F : Hp) (S : List Addr) (H : Hp) (vs : List V) (ds' : Ev) (o : Rs Dat) (Q : VK) (E : XK) : Prop :=
  match o with
  | .ok d => ∀ v F' H' T S', Step F S H F' (T ++ S') H' → (∀ a o, F' a = some o → H' a = some o) → Ow P w K F' H' d v T → EnvR P w K F' H' (vs.map some) ds' S' → (T ++ S').Nodup → (∀ a ∈ T ++ S', F' a = none) → Q v H'
  | .error x => errF P w K mg F S H vs x E
def spD (f : DF) : Sp := fun vs H Q E => ∃ F S ds o ds', LamX.Tabs TabT.tabs H ∧ NoTbl F ∧ (∀ a o, F a = some o → H a = some o) ∧ OwL P w K F H ds vs S ∧ S.Nodup ∧ (∀ a ∈ S, F a = none) ∧ f ds = some (o, ds') ∧ outF P w K mg F S H vs ds' o Q E
end
/-- the arguments taken: what is owned leaves its slot -/
def takeA (ρ : Ev) : List Arg → Option (List Dat × Ev)
  | [] => some ([], ρ)
  | .vw i :: as => match ρ[i]? with
    | some (some d) => match takeA (if im d = true then ρ else ρ.set i none) as with
      | some (ds, ρ') => some (d :: ds, ρ')
      | none => none
    | _ => none
  | .dt d :: as => match takeA ρ as with
    | some (ds, ρ') => some (d :: ds, ρ')
    | none => none
/-- .. and put back -/
def putA (ρ : Ev) : List Arg → Ev → Ev
  | .vw i :: as, some d :: ds => match ρ[i]? with
    | some none => putA (ρ.set i (some d)) as ds
    | _ => putA ρ as ds
  | .vw _ :: as, none :: ds => putA ρ as ds
  | .dt _ :: as, _ :: ds => putA ρ as ds
  | _, _ => ρ
def srcA (as : List Arg) (n : Option Nat) : Option Nat := match n with
  | some j => match as[j]? with
    | some (.vw i) => some i
    | _ => none
  | none => none
def excA (as : List Arg) (x : Exc) : Exc := ⟨x.cls, x.fs.map fun p => (p.1, p.2.1, srcA as p.2.2)⟩
def eCall (f : DF) (as : DA) : DE := fun ρ => bnd (as ρ) fun a ρ1 => match takeA ρ1 a with
  | some (ds, ρ2) => match f ds with
    | some (.ok d, ds') => some (.ok d, putA ρ2 a ds')
    | some (.error x, _) => some (.error (excA a x), ρ2)
    | none => none
  | none => none
section
variable {X : Cx} {F F1 F' H H1 H' : Hp} {σ : L2.St} {ρ ρ' : Ev} {S S1 S' T T' : List Addr} {W : WX} {pos : Pos}
theorem Good.less (g : Good X.prog X.w X.K F H σ ρ S) : S.Nodup := g.nd
theorem take_ok : ∀ {as : List Arg} {vs : List V} {T S : List Addr} {ρ ρ' : Ev} {ds : List Dat}, Good X.prog X.w X.K F H σ ρ S → OwA X F H σ as vs T → (T ++ S).Nodup → (∀ a ∈ T, F a = none) → takeA ρ as = some (ds, ρ') →
    ∃ T2 S2, OwL X.prog X.w X.K F H ds vs T2 ∧ Good X.prog X.w X.K F H σ ρ' S2 ∧ (∀ a ∈ T2 ++ S2, a ∈ T ++ S) ∧ (T2 ++ S2).Nodup ∧ ∀ a ∈ T2, F a = none := by
  intro as
  induction as with
  | nil =>
    intro vs T S ρ ρ' ds g oa nd fr e
    cases oa
    simp only [takeA, Option.some.injEq, Prod.mk.injEq] at e
    obtain ⟨rfl, rfl⟩ := e
    exact ⟨[], S, .nil, g, fun _ h => h, g.nd, fun _ q => nomatch q⟩
  | cons a as ih =>
    intro vs T S ρ ρ' ds g oa nd fr e
    cases oa with
    | @vw i v as vs T hv oa =>
      rw [takeA] at e
      split at e
      · rename_i d hd
        split at e
        · rename_i ds' ρ2 e2
          simp only [Option.some.injEq, Prod.mk.injEq] at e
          obtain ⟨rfl, rfl⟩ := e
          obtain ⟨v', S1, R, h1, o1, p, g'⟩ := g.take hd
          rw [hv] at h1
          have ev : v = v' := Option.some.inj (Option.some.inj h1)
          subst ev
          by_cases him : im d = true
          · rw [if_pos him] at e2
            have := o1.im_nil him
            subst this
            obtain ⟨T2, S2, a1, a2, a3, a4, a5⟩ := ih g oa nd fr e2
            exact ⟨T2, S2, .cons (S := []) o1 a1, a2, a3, a4, a5⟩
          · rw [if_neg him] at e2
            have n1 := List.nodup_append.mp nd
            have nS := p.nodup_iff.mp g.nd
            have n2 := List.nodup_append.mp nS
            have hR : ∀ x ∈ R, x ∈ S := fun x hx => p.mem_iff.mpr (List.mem_append_right _ hx)
            have hS1 : ∀ x ∈ S1, x ∈ S := fun x hx => p.mem_iff.mpr (List.mem_append_left _ hx)
            have ndR : (T ++ R).Nodup := List.nodup_append.mpr ⟨n1.1, n2.2.1, fun a h1 b h2 => n1.2.2 a h1 b (hR b h2)⟩
            obtain ⟨T2, S2, a1, a2, a3, a4, a5⟩ := ih g' oa ndR fr e2
            refine ⟨S1 ++ T2, S2, .cons o1 a1, a2, fun x hx => ?_, ?_, fun x hx => ?_⟩
            · rw [List.append_assoc] at hx
              rcases List.mem_append.mp hx with q | q
              · exact List.mem_append_right _ (hS1 x q)
              · rcases List.mem_append.mp (a3 x q) with q | q
                · exact List.mem_append_left _ q
                · exact List.mem_append_right _ (hR x q)
            · rw [List.append_assoc]
              refine List.nodup_append.mpr ⟨n2.1, a4, fun a h1 b h2 e => ?_⟩
              subst e
              rcases List.mem_append.mp (a3 a h2) with q | q
              · exact n1.2.2 a q a (hS1 a h1) rfl
              · exact n2.2.2 a h1 a q rfl
            · rcases List.mem_append.mp hx with q | q
              · exact g.fr x (hS1 x q)
              · exact a5 x q
        · cases e
      · cases e
    | @dt d v as vs T1 T o1 oa =>
      rw [takeA] at e
      split at e
      · rename_i ds' ρ2 e2
        simp only [Option.some.injEq, Prod.mk.injEq] at e
        obtain ⟨rfl, rfl⟩ := e
        have nd' : (T1 ++ (T ++ S)).Nodup := by rw [← List.append_assoc]; exact nd
        have n1 := List.nodup_append.mp nd'
        obtain ⟨T2, S2, a1, a2, a3, a4, a5⟩ := ih g oa n1.2.1 (fun a ha => fr a (List.mem_append_right _ ha)) e2
        refine ⟨T1 ++ T2, S2, .cons o1 a1, a2, fun x hx => ?_, ?_, fun x hx => ?_⟩
        · rw [List.append_assoc] at hx ⊢
          rcases List.mem_append.mp hx with q | q
          · exact List.mem_append_left _ q
          · exact List.mem_append_right _ (a3 x q)
        · rw [List.append_assoc]
          exact List.nodup_append.mpr ⟨n1.1, a4, fun a h1 b h2 => n1.2.2 a h1 b (a3 b h2)⟩
        · rcases List.mem_append.mp hx with q | q
          · exact fr x (List.mem_append_left _ q)
          · exact a5 x q
      · cases e
theorem put_ok : ∀ {as : List Arg} {vs : List V} {T0 S3 S2 : List Addr} {ρ : Ev} {ds : Ev} {F0 H0 : Hp}, OwA X F0 H0 σ as vs T0 → Good X.prog X.w X.K F H σ ρ S2 → EnvR X.prog X.w X.K F H (vs.map some) ds S3 → (S3 ++ S2).Nodup → (∀ a ∈ S3, F a = none) →
    ∃ S4, Good X.prog X.w X.K F H σ (putA ρ as ds) S4 ∧ ∀ a ∈ S4, a ∈ S3 ++ S2 := by
  intro as
  induction as with
  | nil =>
    intro vs T0 S3 S2 ρ ds F0 H0 oa g e nd fr
    cases oa
    cases e
    exact ⟨S2, g, fun _ h => h⟩
  | cons a as ih =>
    intro vs T0 S3 S2 ρ ds F0 H0 oa g e nd fr
    cases oa with
    | @vw i v as vs T hv oa =>
      cases e with
      | no e => exact ih oa g e nd fr
      | @so _ d _ ds' T1 T2 o1 e =>
        have nd' : (T1 ++ (T2 ++ S2)).Nodup := by rw [← List.append_assoc]; exact nd
        have n1 := List.nodup_append.mp nd'
        show ∃ S4, Good _ _ _ F H σ (match ρ[i]? with
          | some none => putA (ρ.set i (some d)) as ds'
          | _ => putA ρ as ds') S4 ∧ _
        split
        · rename_i hi
          have n2 := List.nodup_append.mp n1.2.1
          have nd1 : (T1 ++ S2).Nodup := List.nodup_append.mpr ⟨n1.1, n2.2.1, fun a h1 b h2 => n1.2.2 a h1 b (List.mem_append_right _ h2)⟩
          obtain ⟨S5, g5, h5⟩ := g.put hv o1 nd1 fun a ha => fr a (List.mem_append_left _ ha)
          have nd5 : (T2 ++ S5).Nodup := List.nodup_append.mpr ⟨n2.1, g5.nd, fun a h1 b h2 e => by
            subst e
            rcases List.mem_append.mp (h5 a h2) with q | q
            · exact n1.2.2 a q a (List.mem_append_left _ h1) rfl
            · exact n2.2.2 a h1 a q rfl⟩
          obtain ⟨S4, g4, h4⟩ := ih oa g5 e nd5 fun a ha => fr a (List.mem_append_right _ ha)
          refine ⟨S4, g4, fun a ha => ?_⟩
          rcases List.mem_append.mp (h4 a ha) with q | q
          · exact List.mem_append_left _ (List.mem_append_right _ q)
          · rcases List.mem_append.mp (h5 a q) with q | q
            · exact List.mem_append_left _ (List.mem_append_left _ q)
            · exact List.mem_append_right _ q
        · obtain ⟨S4, g4, h4⟩ := ih oa g e n1.2.1 fun a ha => fr a (List.mem_append_right _ ha)
          refine ⟨S4, g4, fun a ha => ?_⟩
          rw [List.append_assoc]
          exact List.mem_append_right _ (h4 a ha)
    | @dt d v as vs T1 T o1 oa =>
      cases e with
      | no e => exact ih oa g e nd fr
      | @so _ d _ ds' T1 T2 o1 e =>
        have nd' : (T1 ++ (T2 ++ S2)).Nodup := by rw [← List.append_assoc]; exact nd
        obtain ⟨S4, g4, h4⟩ := ih oa g e (List.nodup_append.mp nd').2.1 fun a ha => fr a (List.mem_append_right _ ha)
        refine ⟨S4, g4, fun a ha => ?_⟩
        rw [List.append_assoc]
        exact List.mem_append_right _ (h4 a ha)
theorem OwA.at {F0 H0 : Hp} : ∀ {as : List Arg} {vs : List V} {T : List Addr} {j : Nat} {i : Nat} {v : V}, OwA X F0 H0 σ as vs T → as[j]? = some (.vw i) → vs[j]? = some v → σ[i]? = some (some v) := by
  intro as
  induction as with
  | nil => intro vs T j i v oa e; simp at e
  | cons a as ih =>
    intro vs T j i v oa e ev
    cases oa with
    | vw hv oa =>
      cases j with
      | zero => simp at e ev; subst e ev; exact hv
      | succ j => exact ih oa (by simpa using e) (by simpa using ev)
    | dt o oa =>
      cases j with
      | zero => simp at e
      | succ j => exact ih oa (by simpa using e) (by simpa using ev)
theorem payA {F0 H0 : Hp} {as : List Arg} {vs : List V} (oa : OwA X F0 H0 σ as vs T) : ∀ {fs : List (Str × Dat × Option Nat)} {ps : List V}, PayF X.prog X.w X.K F H vs fs ps → PayL X.prog X.w X.K F H σ (fs.map fun p => (p.1, p.2.1, srcA as p.2.2)) ps := by
  intro fs ps h
  induction h with
  | nil => exact .nil
  | @cons n d src v fs ps o hs _ ih =>
    refine .cons o (fun i e => ?_) ih
    unfold srcA at e
    split at e
    · rename_i j hj
      split at e
      · rename_i k hk
        have e' := Option.some.inj e
        subst e'
        exact oa.at hk (hs j hj)
      · cases e
    · cases e
theorem call_err {F0 H0 : Hp} {as : List Arg} {vs : List V} {x : Exc} (oa : OwA X F0 H0 σ as vs T') (g : Good X.prog X.w X.K F H σ ρ S1) (nd : (T ++ S1).Nodup) (h : errE X F (T ++ S1) H σ ρ (excA as x) fun c d H' => W c d σ H') :
    errF X.prog X.w X.K X.mg F T H vs x (WE W σ) := by
  intro C F' H' S' ps hm st hs hp
  have dis : ∀ a ∈ S1, a ∉ T := fun a h1 h2 => (List.nodup_append.mp nd).2.2 a h2 a h1 rfl
  have g' := g.step st hs dis
  have st' : Step F (T ++ S1) H F' S1 H' := (st.beside (R := S1)).less fun x hx => List.mem_append_right _ hx
  have q := h C F' H' S1 ps hm st' g' (payA oa hp)
  have e1 : (excA as x).fs.map (·.1) = x.fs.map (·.1) := by simp [excA, List.map_map, Function.comp_def]
  refine ⟨fun e => q.1 (by simp [excA, e]), fun e d' hd => ?_⟩
  have q2 := q.2 (by simpa [excA] using e) d' hd
  rw [e1] at q2
  exact q2
/-- f(e, ..) -/
theorem call_use {f : DF} {as : DA} {Q : VK} (h : tE X W (eCall f as) σ H Q) : tCallS (spD X.prog X.w X.K X.mg f) (WE W) (tA X W as) σ H Q := by
  obtain ⟨F, ρ, S, o, ρ', g, hd, ho⟩ := h
  unfold eCall at hd
  rcases bnd_inv hd with ⟨a, ρ1, h1, h2⟩ | ⟨x, h1, rfl⟩
  · refine ⟨F, ρ, S, .ok a, ρ1, g, h1, fun vs F1 H1 T1 S1 st g1 oa nd fr => ?_⟩
    split at h2
    · rename_i ds ρ2 e
      obtain ⟨T2, S2, o2, g2, sub2, nd2, fr2⟩ := take_ok g1 oa nd fr e
      have n2 := List.nodup_append.mp nd2
      split at h2
      · rename_i d ds' e2
        simp only [Option.some.injEq, Prod.mk.injEq] at h2
        obtain ⟨rfl, rfl⟩ := h2
        refine ⟨F1, T2, ds, .ok d, ds', g1.tab, g1.nt, g1.sub, o2, n2.1, fr2, e2, fun v F' H' T' S' s2 hs2 ov er nd3 fr3 => ?_⟩
        have dis : ∀ a ∈ S2, a ∉ T2 := fun a h1 h2 => n2.2.2 a h2 a h1 rfl
        have g3 := g2.step s2 hs2 dis
        have dis3 : ∀ a ∈ T' ++ S', a ∉ S2 := fun a h1 h2 => by
          rcases s2.snew a h1 with q | q
          · exact dis a h2 q
          · exact q (g2.env.inH a h2).there
        have n3 := List.nodup_append.mp nd3
        have nd4 : (S' ++ S2).Nodup := List.nodup_append.mpr ⟨n3.2.1, g2.nd, fun a h1 b h2 e => dis3 a (List.mem_append_right _ h1) (e ▸ h2)⟩
        obtain ⟨S4, g4, h4⟩ := put_ok oa g3 er nd4 fun a ha => fr3 a (List.mem_append_right _ ha)
        have s3 : Step F1 (T2 ++ S2) H1 F' (T' ++ S4) H' := (s2.beside (R := S2)).less fun x hx => by
          rcases List.mem_append.mp hx with q | q
          · exact List.mem_append_left _ (List.mem_append_left _ q)
          · rcases List.mem_append.mp (h4 x q) with q | q
            · exact List.mem_append_left _ (List.mem_append_right _ q)
            · exact List.mem_append_right _ q
        refine ho v F' H' T' S4 (st.trans (s3.more sub2)) g4 ov ?_ fun a ha => fr3 a (List.mem_append_left _ ha)
        refine List.nodup_append.mpr ⟨n3.1, g4.nd, fun a h1 b h2 e => ?_⟩
        subst e
        rcases List.mem_append.mp (h4 a h2) with q | q
        · exact n3.2.2 a h1 a q rfl
        · exact dis3 a (List.mem_append_left _ h1) q
      · rename_i x ds' e2
        simp only [Option.some.injEq, Prod.mk.injEq] at h2
        obtain ⟨rfl, rfl⟩ := h2
        have ho' : errE X F S H σ ρ2 (excA a x) (fun c d H' => W c d σ H') := ho
        exact ⟨F1, T2, ds, .error x, ds', g1.tab, g1.nt, g1.sub, o2, n2.1, fr2, e2, call_err oa g2 nd2 (ho'.after (st.trans ((Step.refl.less sub2))))⟩
      · cases h2
    · cases h2
  · exact ⟨F, ρ, S, .error x, ρ', g, h1, ho⟩
theorem pd_call {f : Addr} {fd : FuncData} {ps : List Str} {D : DF} {k : Nat} {x : Str} {p : Pos} {e : Expr} {es : List Expr} {as : DA} (G : FnOk X.prog X.w X.K X.mg X.base (L2.CX X.prog X.w) k f fd ps (spD X.prog X.w X.K X.mg D)) (hr : Room k X.A) (hg : Gl X x) (hm : X.mg x = some (.ref f))
    (hk : PySem.W.keepIn X.K (.ref f) = true) (hb : Binds X.K fd ps []) (tk : Takes X W) (ha : PDA X W (e :: es) as) (hdb : (x == ("__debug__" : Str)) = false := by decide) (he : starEach (e :: es) X.env = (false, eval e X.env) :: starEach es X.env := by rfl)
    (hpl : (backTo pos (starEach es X.env)).any (·.1) = false := by rfl) : PD X W (.Call (.Name x p) (e :: es) [] pos) (eCall D as) := PE.imp (pe_callS G hr hg hm hk hb (fun σ => passAt tk σ) ha hdb he hpl) fun σ H Q h => call_use h
end
def keepAt (fix : Nat → Bool) : Nat → Nat → Ev → Ev
  | _, 0, _ => []
  | _, _ + 1, [] => []
  | k, n + 1, x :: ρ => (if fix k = true then x else none) :: keepAt fix (k + 1) n ρ
def excP (fix : Nat → Bool) (np : Nat) (x : Exc) : Exc := ⟨x.cls, x.fs.map fun p => (p.1, p.2.1, match p.2.2 with | some i => if fix i = true ∧ i < np then some i else none | none => none)⟩
def fnD (n np : Nat) (fix : Nat → Bool) (body : DS) : DF := fun ds => if ds.length = np then match body (ds.map some ++ List.replicate (n - np) none) with
    | some (.rt d, ρ) => some (.ok d, keepAt fix 0 np ρ)
    | some (.nx, ρ) => some (.ok .non, keepAt fix 0 np ρ)
    | some (.er x, ρ) => some (.error (excP fix np x), keepAt fix 0 np ρ)
    | _ => none
  else none
section
variable {P : Program} {w : World} {K : PySem.W.Frag} {F F' H H' : Hp} {S T : List Addr}
theorem EnvR.keep {fix : Nat → Bool} {σ : L2.St} {ρ : Ev} (e : EnvR P w K F H σ ρ S) : ∀ (vs : List V) (k : Nat), vs.length ≤ σ.length → (∀ i v, vs[i]? = some v → fix (k + i) = true → σ[i]? = some (some v)) → ∃ S1, EnvR P w K F H (vs.map some) (keepAt fix k vs.length ρ) S1 ∧ S1.Sublist S := by
  induction e with
  | nil =>
    intro vs k hl _
    cases vs with
    | nil => exact ⟨[], .nil, List.Sublist.refl _⟩
    | cons v vs => simp at hl
  | @no x σ ρ S e ih =>
    intro vs k hl h
    cases vs with
    | nil => exact ⟨[], .nil, List.nil_sublist _⟩
    | cons v vs =>
      obtain ⟨S1, h1, h2⟩ := ih vs (k + 1) (by simpa using hl) fun i u e m => by simpa using h (i + 1) u (by simpa using e) (by rw [Nat.add_right_comm] at m; exact m)
      refine ⟨S1, ?_, h2⟩
      show EnvR P w K F H (some v :: vs.map some) ((if fix k = true then none else none) :: keepAt fix (k + 1) vs.length ρ) S1
      split <;> exact .no h1
  | @so u d σ ρ S T o e ih =>
    intro vs k hl h
    cases vs with
    | nil => exact ⟨[], .nil, List.nil_sublist _⟩
    | cons v vs =>
      obtain ⟨S1, h1, h2⟩ := ih vs (k + 1) (by simpa using hl) fun i u e m => by simpa using h (i + 1) u (by simpa using e) (by rw [Nat.add_right_comm] at m; exact m)
      show ∃ S1, EnvR P w K F H (some v :: vs.map some) ((if fix k = true then some d else none) :: keepAt fix (k + 1) vs.length ρ) S1 ∧ _
      split
      · rename_i hk
        have q := h 0 v rfl (by simpa using hk)
        simp at q
        subst q
        exact ⟨S ++ S1, .so o h1, List.Sublist.append (List.Sublist.refl _) h2⟩
      · exact ⟨S1, .no h1, h2.trans (List.sublist_append_right _ _)⟩
theorem EnvR.of_args : ∀ {ds : List Dat} {vs : List V} {S : List Addr} (m : Nat), OwL P w K F H ds vs S → EnvR P w K F H (vs.map some ++ List.replicate m none) (ds.map some ++ List.replicate m none) S
  | [], _, _, 0, .nil => .nil
  | [], _, _, m + 1, .nil => .no (EnvR.of_args m .nil)
  | d :: ds, _, _, m, .cons o l => .so o (EnvR.of_args m l)
end
section
variable {P : Program} {w : World} {K : PySem.W.Frag} {mg : Str → Option Value} {base : Heap}
theorem start_get {N : List Str} {vs : List V} {i : Nat} {v : V} (h : vs[i]? = some v) : (L2.start N vs)[i]? = some (some v) := by
  unfold L2.start
  have hl : i < vs.length := (List.getElem?_eq_some_iff.mp h).1
  rw [List.getElem?_append_left (by simpa using hl), List.getElem?_map, h]
  rfl
theorem payP {F H : Hp} {N : List Str} {vs : List V} {np : Nat} {fix : Nat → Bool} {σ : L2.St} (hn : vs.length = np) (fx : Fixed fix (L2.start N vs) σ) {X : Cx} (hP : X.prog = P) (hw : X.w = w) (hK : X.K = K) : ∀ {fs : List (Str × Dat × Option Nat)} {ps : List V}, PayL X.prog X.w X.K F H σ fs ps →
    PayF P w K F H vs (fs.map fun p => (p.1, p.2.1, match p.2.2 with | some i => if fix i = true ∧ i < np then some i else none | none => none)) ps := by
  subst hP hw hK
  intro fs ps h
  induction h with
  | nil => exact .nil
  | @cons n d src v fs vs' o hs _ ih =>
    refine .cons o (fun i e => ?_) ih
    dsimp only at e
    split at e
    · rename_i j
      split at e
      · rename_i hj
        have e' := Option.some.inj e
        subst e'
        have q := hs j rfl
        rw [fx.all j hj.1] at q
        have hl : j < vs.length := by rw [hn]; exact hj.2
        rw [start_get (List.getElem?_eq_getElem hl)] at q
        rw [List.getElem?_eq_getElem hl]
        exact Option.some.inj q
      · cases e
    · cases e
/-- the def's body by its promise -/
theorem body_end {X : Cx} {N : List Str} {np : Nat} {fix : Nat → Bool} {body : DS} {vs : List V} {H : Hp} {Q : VK} {E : XK} (hP : X.prog = P) (hw : X.w = w) (hK : X.K = K) (hmg : X.mg = mg) (h : spD P w K mg (fnD N.length np fix body) vs H Q E) :
    tS X (fun cls d _ H => E cls d H) fix body { nx := fun _ H' => Q .non H', rt := Q } (L2.start N vs) H := by
  subst hP hw hK hmg
  obtain ⟨F, S, ds, o, ds', htab, hnt, hs, ol, nd, fr, hf, ho⟩ := h
  unfold fnD at hf
  split at hf
  · rename_i hl
    have hlv : vs.length = np := by rw [← ol.length, hl]
    have g : Good X.prog X.w X.K F H (L2.start N vs) (ds.map some ++ List.replicate (N.length - np) none) S := ⟨hs, by
      unfold L2.start
      rw [hlv]
      exact EnvR.of_args _ ol, nd, fr, htab, hnt⟩
    have fin : ∀ {σ' : L2.St} {ρ' : Ev} {F' H' : Hp} {S' : List Addr}, Good X.prog X.w X.K F' H' σ' ρ' S' → Fixed fix (L2.start N vs) σ' → ∃ S1, EnvR X.prog X.w X.K F' H' (vs.map some) (keepAt fix 0 np ρ') S1 ∧ S1.Sublist S' := fun {σ' ρ' F' H' S'} g' fx => by
      have := g'.env.keep (fix := fix) vs 0 (by rw [fx.len]; unfold L2.start; simp) fun i v e m => by
        rw [Nat.zero_add] at m
        rw [fx.all i m]; exact start_get e
      rw [hlv] at this
      exact this
    split at hf
    · rename_i d ρ e
      simp only [Option.some.injEq, Prod.mk.injEq] at hf
      obtain ⟨rfl, rfl⟩ := hf
      refine ⟨F, _, S, .rt d, ρ, g, e, fun v σ' F' H' T S' st g' fx ov nd' fr' => ?_⟩
      obtain ⟨S1, e1, s1⟩ := fin g' fx
      have sub : ∀ a ∈ T ++ S1, a ∈ T ++ S' := fun a ha => (List.mem_append.mp ha).elim (List.mem_append_left _) fun q => List.mem_append_right _ (s1.subset q)
      exact ho v F' H' T S1 (st.less sub) g'.sub ov e1 (nd'.sublist (List.Sublist.append (List.Sublist.refl _) s1)) fun a ha => (List.mem_append.mp (sub a ha)).elim (fr' a) (g'.fr a)
    · rename_i ρ e
      simp only [Option.some.injEq, Prod.mk.injEq] at hf
      obtain ⟨rfl, rfl⟩ := hf
      refine ⟨F, _, S, .nx, ρ, g, e, fun σ' F' H' S' st g' fx => ?_⟩
      obtain ⟨S1, e1, s1⟩ := fin g' fx
      exact ho .non F' H' [] S1 (st.less fun a ha => s1.subset ha) g'.sub .non e1 (g'.nd.sublist s1) fun a ha => g'.fr a (s1.subset ha)
    · rename_i x ρ e
      simp only [Option.some.injEq, Prod.mk.injEq] at hf
      obtain ⟨rfl, rfl⟩ := hf
      refine ⟨F, _, S, .er x, ρ, g, e, fun σ' fx C F' H' S' ps hm st g' hp => ?_⟩
      have q := ho C F' H' S' ps hm st g'.sub (payP hlv fx rfl rfl rfl hp)
      have e1 : (excP fix np x).fs.map (·.1) = x.fs.map (·.1) := by simp [excP, List.map_map, Function.comp_def]
      refine ⟨fun e => q.1 (by simp [excP, e]), fun e d' hd => ?_⟩
      have q2 := q.2 (by simpa [excP] using e) d' hd
      rw [e1] at q2
      exact q2
    · cases hf
  · cases hf
theorem spD_len {D : DF} {np : Nat} {vs : List V} {H : Hp} {Q : VK} {E : XK} (hD : ∀ ds r, D ds = some r → ds.length = np) (h : spD P w K mg D vs H Q E) : vs.length = np := by
  obtain ⟨F, S, ds, o, ds', htab, hnt, hs, ol, nd, fr, hf, ho⟩ := h
  rw [← ol.length]; exact hD _ _ hf
theorem fnD_len {n np : Nat} {fix : Nat → Bool} {body : DS} : ∀ ds r, fnD n np fix body ds = some r → ds.length = np := fun ds r h => by
  unfold fnD at h
  split at h
  · assumption
  · cases h
/-- THE RULE for a def -/
theorem ok_def {x : Str} {st : Stmt} {f : Addr} {fd : FuncData} {N ps : List Str} {k : Nat} {fix : Nat → Bool} {body : DS} (Fu : Fun K x x st f fd) (S : FnScope N ps (defScope st))
    (hb : ∀ (cdv : Value) (A : Around) (outer : List Env) (s : Shared) (H : Hp) (E : XK), Room k (A.deeper (envOfC x (defScope st) s.heap.objs.size f cdv)) →
      PDSs (cxOf (L2.CX P w) P w K mg base N x (defScope st) f cdv A outer s H E) (fun cls d _ H => E cls d H) fix (defBody st) body) :
    FnOk P w K mg base (L2.CX P w) (k + 1) f fd ps (spD P w K mg (fnD N.length ps.length fix body)) :=
  Fu.okX S (fun vs H Q E h => spD_len fnD_len h) fun cdv A outer s H vs Q E hr h => ⟨_, hb cdv A outer s H E hr, body_end rfl rfl rfl rfl h⟩
end
end B
set_option Elab.async false
set_option linter.all false
set_option maxRecDepth 100000
namespace B
open PySem PySem.Spec PyProof.Rows L2
variable [TabT]
abbrev DI := Ev → Option (Rs (List Dat) × Ev)
abbrev DG := Dat → Ev → Option Ev
section
variable (P : Program) (w : World) (K : PySem.W.Frag)
structure WalkD (F : Hp) (ds : List Dat) (J : It) : Prop where
  goes : ∀ i H, i < ds.length → (∀ a o, F a = some o → H a = some o) → J.go i H
  stops : ∀ H, (∀ a o, F a = some o → H a = some o) → J.stop ds.length H
  yields : ∀ i H x H' F1, i < ds.length → (∀ a o, F a = some o → F1 a = some o) → (∀ a o, F1 a = some o → H a = some o) → J.yld i H x H' →
    ∃ F2 d, ds[i]? = some d ∧ Step F1 [] H F2 [] H' ∧ (∀ a o, F2 a = some o → H' a = some o) ∧ Ow P w K F2 H' d x []
end
section
variable (X : Cx)
def outI (F : Hp) (S : List Addr) (H : Hp) (σ : L2.St) (W : WX) (o : Rs (List Dat)) (ρ' : Ev) (R : It → Hp → Prop) : Prop :=
  match o with
  | .ok ds => ∀ J F' H' S', Step F S H F' S' H' → Good X.prog X.w X.K F' H' σ ρ' S' → WalkD X.prog X.w X.K F' ds J → R J H'
  | .error x => errE X F S H σ ρ' x fun c d H' => W c d σ H'
def tI (W : WX) (den : DI) : TI := fun σ H R => ∃ F ρ S o ρ', Good X.prog X.w X.K F H σ ρ S ∧ den ρ = some (o, ρ') ∧ outI X F S H σ W o ρ' R
def PDI (W : WX) (tg iter : Expr) (den : DI) : Prop := PI X tg iter (tI X W den)
/-- a target that is given what is not owned -/
def tG (fix : Nat → Bool) (g : DG) : TG := fun v σ H Q => ∃ F ρ S d ρ', Good X.prog X.w X.K F H σ ρ S ∧ Ow X.prog X.w X.K F H d v [] ∧ g d ρ = some ρ' ∧ ∀ σ' S', Good X.prog X.w X.K F H σ' ρ' S' → (∀ a ∈ S', a ∈ S) → Fixed fix σ σ' → Q σ' H
def PDG (fix : Nat → Bool) (tg : Expr) (g : DG) : Prop := PG X tg (tG X fix g)
end
theorem PI.imp {X : Cx} {tg iter : Expr} {t t' : TI} (h : PI X tg iter t) (i : ∀ σ H Q, t' σ H Q → t σ H Q) : PI X tg iter t' := ⟨fun pins s σ H Q I q => h.run pins s σ H Q I (i σ H Q q)⟩
theorem PG.imp {X : Cx} {tg : Expr} {t t' : TG} (h : PG X tg t) (i : ∀ v σ H Q, t' v σ H Q → t v σ H Q) : PG X tg t' := ⟨fun pins s σ H v u Q I r q => h.run pins s σ H v u Q I r (i v σ H Q q)⟩
theorem PGs.imp {X : Cx} {tg : List Expr} {t t' : TGs} (h : PGs X tg t) (i : ∀ v σ H Q, t' v σ H Q → t v σ H Q) : PGs X tg t' := ⟨fun pins s σ H v u Q I r q => h.run pins s σ H v u Q I r (i v σ H Q q)⟩
section
variable {X : Cx} {F F1 F' H H1 H' : Hp} {σ σ1 : L2.St} {ρ ρ' : Ev} {S S1 S' T T' : List Addr} {W : WX} {pos : Pos} {fix : Nat → Bool}
def gSet (i : Nat) : DG := fun d ρ => if i < ρ.length then some (ρ.set i (some d)) else none
abbrev DGs := List Dat → Ev → Option Ev
def gsNil : DGs := fun ds ρ => match ds with | [] => some ρ | _ => none
def gsCons (g : DG) (r : DGs) : DGs := fun ds ρ => match ds with
  | d :: ds => match g d ρ with
    | some ρ1 => r ds ρ1
    | none => none
  | [] => none
def gUnp (n : Nat) (r : DGs) : DG := fun d ρ => match d with
  | .tup ds => if ds.length = n then r ds ρ else none
  | _ => none
def tGs (X : Cx) (fix : Nat → Bool) (g : DGs) : TGs := fun vs σ H Q => ∃ F ρ S ds ρ', Good X.prog X.w X.K F H σ ρ S ∧ OwL X.prog X.w X.K F H ds vs [] ∧ g ds ρ = some ρ' ∧ ∀ σ' S', Good X.prog X.w X.K F H σ' ρ' S' → (∀ a ∈ S', a ∈ S) → Fixed fix σ σ' → Q σ' H
def PDGs (X : Cx) (fix : Nat → Bool) (ts : List Expr) (g : DGs) : Prop := PGs X ts (tGs X fix g)
theorem pdg_name {i : Nat} {x : Str} (hN : X.N.Nodup) (hi : X.N[i]? = some x) (hx : Loc X.env.scope x) (hfix : fix i = false) (hf : X.fn x = true ∨ X.env.scope.names.lookup x = some .local := by first | exact .inl rfl | exact .inr rfl | assumption) : PDG X fix (.Name x pos) (gSet i) := PG.imp (pg_name hN hi hx hf) fun v σ H Q h => by
  obtain ⟨F, ρ, S, d, ρ', g, o, hg, q⟩ := h
  unfold gSet at hg
  split at hg
  · rename_i hi
    have e := Option.some.inj hg
    subst e
    obtain ⟨S', g', hS⟩ := g.set hi o g.nd fun _ q => nomatch q
    exact q _ S' g' hS (Fixed.set hfix)
  · cases hg
theorem pdgs_nil : PDGs X fix [] gsNil := PGs.imp pgs_nil fun vs σ H Q h => by
  obtain ⟨F, ρ, S, ds, ρ', g, o, hg, q⟩ := h
  unfold gsNil at hg
  split at hg
  · have e := Option.some.inj hg
    subst e
    obtain ⟨rfl, _⟩ := o.nil_inv
    exact ⟨rfl, q σ S g (fun _ h => h) Fixed.refl⟩
  · cases hg
theorem pdgs_cons {e : Expr} {es : List Expr} {a : DG} {r : DGs} (h1 : PDG X fix e a) (h2 : PDGs X fix es r) (hs : (assignEach (e :: es) X.env).map (·.2) = assign e X.env :: (assignEach es X.env).map (·.2) := by rfl) : PDGs X fix (e :: es) (gsCons a r) := PGs.imp (pgs_cons h1 h2 hs) fun vs σ H Q h => by
  obtain ⟨F, ρ, S, ds, ρ', g, o, hg, q⟩ := h
  unfold gsCons at hg
  split at hg
  · rename_i d ds
    split at hg
    · rename_i ρ1 e1
      obtain ⟨v, ws, S1, S2, rfl, e, o1, o2⟩ := o.cons_inv
      obtain ⟨rfl, rfl⟩ := List.append_eq_nil_iff.mp e.symm
      exact ⟨v, ws, rfl, F, ρ, S, d, ρ1, g, o1, e1, fun σ1 S1 g1 hS fx => ⟨F, ρ1, S1, ds, ρ', g1, o2, hg, fun σ2 S2 g2 hS2 fx2 => q σ2 S2 g2 (fun a ha => hS a (hS2 a ha)) (fx.trans fx2)⟩⟩
    · cases hg
  · cases hg
theorem pdg_tup {es : List Expr} {k : Nat} {r : DGs} {n : Nat} (hc : X.calm = true) (h : PDGs X fix es r) (hn : (assignEach es X.env).length = n := by rfl) (hst : (assignEach es X.env).findIdx? (·.1) = none := by rfl) : PDG X fix (.Tuple es k pos) (gUnp n r) := PG.imp (pg_tup hc h hn hst) fun v σ H Q hh => by
  obtain ⟨F, ρ, S, d, ρ', g, o, hg, q⟩ := hh
  unfold gUnp at hg
  split at hg
  · rename_i ds
    split at hg
    · rename_i hl
      obtain ⟨a, vs, rfl, hT, l⟩ := o.tup_inv
      exact ⟨a, vs, rfl, SqT.up g.sub hT, by rw [← l.length]; exact hl, F, ρ, S, ds, ρ', g, l, hg, q⟩
    · cases hg
  · cases hg
/-- target = e: what is stored is frozen -/
def sAsg (g : DG) (e : DE) : DS := fun ρ => bndS (e ρ) fun d ρ1 => match g (frz d) ρ1 with
  | some ρ2 => some (.nx, ρ2)
  | none => none
theorem pds_asg {tg e : Expr} {de : DE} {g : DG} (he : PD X W e de) (hg : PDG X fix tg g) (hs : swapsWithSole [tg] e pos.line X.env = pure false := by rfl) (hw : swappedStores [tg] e X.env = pure none := by rfl)
    (h1 : (assignEach [tg] X.env).map (·.2) = [assign tg X.env] := by rfl) : PDS X W fix (.Assign [tg] e pos) (sAsg g de) := PS.imp (ps_asg he hg hs hw h1) fun D σ H h =>
  tE_bndS h fun d v F1 H1 T S1 ρ1 o ρ' g1 o1 nd fr hf ho => by
    split at hf
    · rename_i ρ2 e2
      simp only [Option.some.injEq, Prod.mk.injEq] at hf
      obtain ⟨rfl, rfl⟩ := hf
      obtain ⟨F2, st, g2, o2⟩ := freezeT g1 o1 nd fr
      exact ⟨F2, ρ1, S1, frz d, ρ2, g2, o2, e2, fun σ' S' g' hS fx => ho σ' F2 H1 S' (st.trans (Step.refl.less hS)) g' fx⟩
    · cases hf
def forD (g : DG) (body : DS) : List Dat → DS
  | [] => sNx
  | d :: ds => fun ρ => match g d ρ with
    | some ρ1 => match body ρ1 with
      | some (.nx, ρ2) => forD g body ds ρ2
      | some (.ct, ρ2) => forD g body ds ρ2
      | some (.bk, ρ2) => some (.nx, ρ2)
      | some (.rt d, ρ2) => some (.rt d, ρ2)
      | some (.er x, ρ2) => some (.er x, ρ2)
      | none => none
    | none => none
def sFor (di : DI) (g : DG) (body : DS) : DS := fun ρ => bndS (di ρ) (forD g body)
theorem forD_use {g : DG} {body : DS} {tb : TS} {J : It} {F0 : Hp} {all : List Dat} {D : Ends} {tg : TG} (hg : ∀ v σ H Q, tG X fix g v σ H Q → tg v σ H Q) (hb : ∀ D σ H, tS X W fix body D σ H → tb D σ H) (hw : WalkD X.prog X.w X.K F0 all J)
    (h : ∃ F ρ S o ρ', (∀ a o, F0 a = some o → F a = some o) ∧ Good X.prog X.w X.K F H σ ρ S ∧ forD g body all ρ = some (o, ρ') ∧ outS X W fix F S H σ o ρ' D) :
    ∃ W' : Nat → Nat → L2.St → Hp → Prop, (∃ m, W' 0 m σ H) ∧ ∀ i m σ H, W' i m σ H →
      (J.stop i H ∧ D.nx σ H) ∨ (J.go i H ∧ ∃ N : L2.St → Hp → Prop, (∀ σ' H', N σ' H' → ∃ m', m' < m ∧ W' (i + 1) m' σ' H') ∧ ∀ x H', J.yld i H x H' → tg x σ H' fun σ2 H2 => tb { D with nx := N, ct := N, bk := D.nx } σ2 H2) := by
  let Pv : Nat → L2.St → Hp → Prop := fun i σ H => ∃ F ρ S o ρ', (∀ a o, F0 a = some o → F a = some o) ∧ Good X.prog X.w X.K F H σ ρ S ∧ forD g body (all.drop i) ρ = some (o, ρ') ∧ outS X W fix F S H σ o ρ' D
  refine ⟨fun i m σ H => m = all.length - i ∧ i ≤ all.length ∧ Pv i σ H, ⟨all.length, by simp, Nat.zero_le _, by simpa [Pv] using h⟩, ?_⟩
  rintro i m σ H ⟨rfl, hi, F, ρ, S, o, ρ', hF0, gd, hd, ho⟩
  by_cases hlt : i < all.length
  · right
    have hs0 : ∀ a o, F0 a = some o → H a = some o := fun a o e => gd.sub a o (hF0 a o e)
    refine ⟨hw.goes i H hlt hs0, Pv (i + 1), fun σ' H' p' => ⟨all.length - (i + 1), by omega, rfl, hlt, p'⟩, fun x H' y => ?_⟩
    obtain ⟨F2, d, e1, st, sub2, ov⟩ := hw.yields i H x H' F hlt hF0 gd.sub y
    have hdrop : all.drop i = d :: all.drop (i + 1) := by
      rw [List.drop_eq_getElem_cons hlt]
      rw [List.getElem?_eq_getElem hlt] at e1
      rw [Option.some.inj e1]
    rw [hdrop] at hd
    have g2 := gd.step st sub2 fun _ _ q => nomatch q
    have st2 : Step F S H F2 S H' := by
      have := st.beside (R := S)
      simpa using this
    have hF2 : ∀ a o, F0 a = some o → F2 a = some o := fun a o e => st.fsub a o (hF0 a o e)
    rw [forD] at hd; dsimp only at hd
    split at hd
    · rename_i ρ1 e2
      refine hg _ _ _ _ ⟨F2, ρ, S, d, ρ1, g2, ov, e2, fun σ3 S3 g3 hS3 fx3 => hb _ _ _ ?_⟩
      have st3 : Step F S H F2 S3 H' := st2.trans (Step.refl.less hS3)
      split at hd
      · rename_i ρ2 e3
        exact ⟨F2, ρ1, S3, .nx, ρ2, g3, e3, fun σ' F' H'' S' s4 g4 fx4 => ⟨F', ρ2, S', o, ρ', fun a o e => s4.fsub a o (hF2 a o e), g4, hd, ho.after (st3.trans s4) (fx3.trans fx4)⟩⟩
      · rename_i ρ2 e3
        exact ⟨F2, ρ1, S3, .ct, ρ2, g3, e3, fun σ' F' H'' S' s4 g4 fx4 => ⟨F', ρ2, S', o, ρ', fun a o e => s4.fsub a o (hF2 a o e), g4, hd, ho.after (st3.trans s4) (fx3.trans fx4)⟩⟩
      · rename_i ρ2 e3
        simp only [Option.some.injEq, Prod.mk.injEq] at hd
        obtain ⟨rfl, rfl⟩ := hd
        exact ⟨F2, ρ1, S3, .bk, ρ2, g3, e3, fun σ' F' H'' S' s4 g4 fx4 => ho σ' F' H'' S' (st3.trans s4) g4 (fx3.trans fx4)⟩
      · rename_i d' ρ2 e3
        simp only [Option.some.injEq, Prod.mk.injEq] at hd
        obtain ⟨rfl, rfl⟩ := hd
        exact ⟨F2, ρ1, S3, .rt d', ρ2, g3, e3, fun v σ' F' H'' T S' s4 g4 fx4 => ho v σ' F' H'' T S' (st3.trans s4) g4 (fx3.trans fx4)⟩
      · rename_i x' ρ2 e3
        simp only [Option.some.injEq, Prod.mk.injEq] at hd
        obtain ⟨rfl, rfl⟩ := hd
        exact ⟨F2, ρ1, S3, .er x', ρ2, g3, e3, fun σ' fx4 => (ho σ' (fx3.trans fx4)).after st3⟩
      · cases hd
    · cases hd
  · left
    have e : i = all.length := by omega
    subst e
    rw [List.drop_length] at hd
    simp only [forD, sNx, Option.some.injEq, Prod.mk.injEq] at hd
    obtain ⟨rfl, rfl⟩ := hd
    exact ⟨hw.stops H fun a o e => gd.sub a o (hF0 a o e), ho σ F H S Step.refl gd Fixed.refl⟩
theorem pds_for {tg iter : Expr} {body : List Stmt} {di : DI} {g : DG} {db : DS} (hp : PassesOwn (model X.prog X.w) X.A X.env X.xe) (hc : X.calm = true) (hi : PDI X W tg iter di) (hg : PDG X fix tg g) (hb : PDSs X W fix body db)
    (hs : ∀ x, foldedSetIterable iter X.env x = pure x := by intro _; rfl) : PDS X W fix (.For tg iter body [] pos) (sFor di g db) := PS.imp (ps_for hp hc hi hg hb hs) fun D σ H h => by
  obtain ⟨F, ρ, S, o, ρ', gd, hd, ho⟩ := h
  rcases bndS_inv hd with ⟨ds, ρ1, h1, h2⟩ | ⟨x, h1, rfl⟩
  · refine ⟨F, ρ, S, .ok ds, ρ1, gd, h1, fun J F' H' S' st g' wk => forD_use (fun _ _ _ _ h => h) (fun _ _ _ h => h) wk ⟨F', ρ1, S', o, ρ', fun _ _ e => e, g', h2, ho.after st Fixed.refl⟩⟩
  · exact ⟨F, ρ, S, .error x, ρ', gd, h1, ho σ Fixed.refl⟩
def whileD (c : DT) (body : DS) : Nat → DS
  | 0 => fun _ => none
  | n + 1 => fun ρ => bndS (c ρ) fun k ρ1 => if k = true then match body ρ1 with
      | some (.nx, ρ2) => whileD c body n ρ2
      | some (.ct, ρ2) => whileD c body n ρ2
      | some (.bk, ρ2) => some (.nx, ρ2)
      | some (.rt d, ρ2) => some (.rt d, ρ2)
      | some (.er x, ρ2) => some (.er x, ρ2)
      | none => none
    else some (.nx, ρ1)
def sWhile (fuel : Ev → Nat) (c : DT) (body : DS) : DS := fun ρ => whileD c body (fuel ρ) ρ
theorem pds_while {c : Expr} {body : List Stmt} {dc : DT} {db : DS} (fuel : Ev → Nat) (hp : PassesOwn (model X.prog X.w) X.A X.env X.xe) (hc : PDT X W c dc) (hb : PDSs X W fix body db) : PDS X W fix (.While c body [] pos) (sWhile fuel dc db) := PS.imp (ps_while hp hc hb) fun D σ H h => by
  obtain ⟨F, ρ, S, o, ρ', gd, hd, ho⟩ := h
  refine ⟨fun m σ H => ∃ F ρ S o ρ', Good X.prog X.w X.K F H σ ρ S ∧ whileD dc db m ρ = some (o, ρ') ∧ outS X W fix F S H σ o ρ' D, ⟨fuel ρ, F, ρ, S, o, ρ', gd, hd, ho⟩, ?_⟩
  rintro m σ H ⟨F, ρ, S, o, ρ', gd, hd, ho⟩
  cases m with
  | zero => cases hd
  | succ m =>
    rw [whileD] at hd; dsimp only at hd
    refine mono_T dc (fun k H1 q => ?_) (tT_bndS (fix := fix) ⟨F, ρ, S, o, ρ', gd, hd, ho⟩)
    obtain ⟨F, ρ, S, o, ρ', gd, hd, ho⟩ := q
    cases k with
    | false =>
      simp only [Bool.false_eq_true, if_false, Option.some.injEq, Prod.mk.injEq] at hd
      obtain ⟨rfl, rfl⟩ := hd
      exact ho σ F H1 S Step.refl gd Fixed.refl
    | true =>
      simp only [if_true] at hd
      refine ⟨fun σ' H' => ∃ F ρ S o ρ', Good X.prog X.w X.K F H' σ' ρ S ∧ whileD dc db m ρ = some (o, ρ') ∧ outS X W fix F S H' σ' o ρ' D, fun σ' H' n => ⟨m, Nat.lt_succ_self m, n⟩, ?_⟩
      split at hd
      · rename_i ρ2 e3
        exact ⟨F, ρ, S, .nx, ρ2, gd, e3, fun σ' F' H'' S' s4 g4 fx4 => ⟨F', ρ2, S', o, ρ', g4, hd, ho.after s4 fx4⟩⟩
      · rename_i ρ2 e3
        exact ⟨F, ρ, S, .ct, ρ2, gd, e3, fun σ' F' H'' S' s4 g4 fx4 => ⟨F', ρ2, S', o, ρ', g4, hd, ho.after s4 fx4⟩⟩
      · rename_i ρ2 e3
        simp only [Option.some.injEq, Prod.mk.injEq] at hd
        obtain ⟨rfl, rfl⟩ := hd
        exact ⟨F, ρ, S, .bk, ρ2, gd, e3, ho⟩
      · rename_i d' ρ2 e3
        simp only [Option.some.injEq, Prod.mk.injEq] at hd
        obtain ⟨rfl, rfl⟩ := hd
        exact ⟨F, ρ, S, .rt d', ρ2, gd, e3, ho⟩
      · rename_i x' ρ2 e3
        simp only [Option.some.injEq, Prod.mk.injEq] at hd
        obtain ⟨rfl, rfl⟩ := hd
        exact ⟨F, ρ, S, .er x', ρ2, gd, e3, ho⟩
      · cases hd
end
end B
set_option Elab.async false
set_option linter.all false
set_option maxRecDepth 100000
namespace B
open PySem PySem.Spec PyProof.Rows L2
variable [TabT]
def wipeD (ρ : Ev) : List Nat → Ev
  | [] => ρ
  | v :: vs => (wipeD ρ vs).set v none
/-- the block's names as they were (what is not owned) -/
def backD (ρ0 ρe : Ev) : List Nat → Ev
  | [] => ρe
  | v :: vs => match ρ0[v]? with
    | some (some d) => if im d = true then (backD ρ0 ρe vs).set v (some d) else backD ρ0 ρe vs
    | _ => backD ρ0 ρe vs
def lcD (g : DG) (c : DT) (e : DE) (vs : List Nat) : List Dat → Ev → Option (List Dat × Ev)
  | [], ρ => some ([], ρ)
  | d :: ds, ρ => match g d ρ with
    | some ρ1 => match c ρ1 with
      | some (.ok true, ρ2) => match e ρ2 with
        | some (.ok y, ρ3) => match lcD g c e vs ds (wipeD ρ3 vs) with
          | some (ys, ρ4) => some (y :: ys, ρ4)
          | none => none
        | _ => none
      | some (.ok false, ρ2) => lcD g c e vs ds (wipeD ρ2 vs)
      | _ => none
    | none => none
def eLc (di : DI) (g : DG) (c : DT) (e : DE) (vs : List Nat) : DE := fun ρ => bnd (di ρ) fun ds ρ1 => if ds.length ≤ 1000000 then match lcD g c e vs ds (wipeD ρ1 vs) with
    | some (ys, ρ2) => some (.ok (.ol ys), backD ρ1 ρ2 vs)
    | none => none
  else none
def WF : WX := fun _ _ _ _ => False
theorem million : (1000000 : Nat) < sizeLine := by decide
section
variable {X : Cx} {F F1 F' H H1 H' : Hp} {σ σ1 : L2.St} {ρ ρ' : Ev} {S S1 S' T T' : List Addr} {W : WX} {pos : Pos}
variable {P : Program} {w : World} {K : PySem.W.Frag}
theorem wipeD_length (ρ : Ev) : ∀ vs : List Nat, (wipeD ρ vs).length = ρ.length
  | [] => rfl
  | v :: vs => by rw [wipeD, List.length_set, wipeD_length ρ vs]
theorem EnvR.any (e : EnvR P w K F H σ ρ S) : ∀ {σ' : L2.St}, σ'.length = σ.length → (∀ (i : Nat) (v : V), σ[i]? = some (some v) → ρ[i]? ≠ some none → σ'[i]? = some (some v)) → EnvR P w K F H σ' ρ S := by
  induction e with
  | nil =>
    intro σ' hl _
    cases σ' with
    | nil => exact .nil
    | cons x σ' => simp at hl
  | no e ih =>
    intro σ' hl h
    cases σ' with
    | nil => simp at hl
    | cons y σ' => exact .no (ih (by simpa using hl) fun i v q n => by simpa using h (i + 1) v (by simpa using q) (by simpa using n))
  | so o e ih =>
    intro σ' hl h
    cases σ' with
    | nil => simp at hl
    | cons y σ' =>
      have q := h 0 _ rfl (by simp)
      simp at q
      subst q
      exact .so o (ih (by simpa using hl) fun i v q n => by simpa using h (i + 1) v (by simpa using q) (by simpa using n))
theorem Good.any (g : Good P w K F H σ ρ S) {σ' : L2.St} (hl : σ'.length = σ.length) (h : ∀ (i : Nat) (v : V), σ[i]? = some (some v) → ρ[i]? ≠ some none → σ'[i]? = some (some v)) : Good P w K F H σ' ρ S := ⟨g.sub, g.env.any hl h, g.nd, g.fr, g.tab, g.nt⟩
/-- the block's names told of nothing -/
theorem Good.wipeD (g : Good P w K F H σ ρ S) : ∀ vs : List Nat, ∃ S', Good P w K F H σ (wipeD ρ vs) S' ∧ ∀ a ∈ S', a ∈ S
  | [] => ⟨S, g, fun _ h => h⟩
  | v :: vs => by
    obtain ⟨S1, g1, h1⟩ := Good.wipeD g vs
    by_cases hv : v < (B.wipeD ρ vs).length
    · cases q : σ[v]? with
      | none =>
        rw [← g1.env.length] at hv
        exact absurd q (by simp; exact hv)
      | some x =>
        obtain ⟨S2, g2, h2⟩ := g1.drop x hv
        rw [set_same q] at g2
        exact ⟨S2, g2, fun a ha => h1 a (h2 a ha)⟩
    · have e : (B.wipeD ρ vs).set v none = B.wipeD ρ vs := List.set_eq_of_length_le (Nat.le_of_not_lt hv)
      rw [B.wipeD, e]
      exact ⟨S1, g1, h1⟩
theorem wipeD_none : ∀ {vs : List Nat} {v : Nat}, v ∈ vs → v < ρ.length → (wipeD ρ vs)[v]? = some none
  | u :: vs, v, h, hl => by
    rw [wipeD]
    by_cases e : u = v
    · subst e
      rw [List.getElem?_set_self (by rw [wipeD_length]; exact hl)]
    · rw [List.getElem?_set_ne e]
      exact wipeD_none ((List.mem_cons.mp h).resolve_left fun q => e q.symm) hl
/-- slots told of nothing may hold what they will -/
theorem Good.toWipe (g : Good P w K F H σ ρ S) {vs : List Nat} (h : ∀ v ∈ vs, v < ρ.length → ρ[v]? = some none) : Good P w K F H (wipe σ vs) ρ S :=
  g.any (wipe_length σ vs) fun i v e n => by
    by_cases hi : i ∈ vs
    · have hl : i < ρ.length := by rw [← g.env.length]; exact (List.getElem?_eq_some_iff.mp e).1
      exact absurd (h i hi hl) n
    · rw [wipe_out hi]; exact e
theorem Good.ofWipe {σ2 : L2.St} (g : Good P w K F H σ2 ρ S) {vs : List Nat} (hw : wipe σ2 vs = wipe σ vs) (h : ∀ v ∈ vs, v < ρ.length → ρ[v]? = some none) : Good P w K F H σ ρ S :=
  g.any (by rw [← wipe_length σ vs, ← hw, wipe_length]) fun i v e n => by
    by_cases hi : i ∈ vs
    · have hl : i < ρ.length := by rw [← g.env.length]; exact (List.getElem?_eq_some_iff.mp e).1
      exact absurd (h i hi hl) n
    · rw [← wipe_out (σ := σ) hi, ← hw, wipe_out hi]; exact e
theorem wipe_in {i : Nat} : ∀ {vs : List Nat}, i ∈ vs → (wipe σ vs)[i]? = if i < σ.length then some none else none
  | u :: vs, h => by
    unfold wipe
    by_cases e : u = i
    · subst e
      by_cases hl : u < σ.length
      · rw [if_pos hl, List.getElem?_set_self (by rw [wipe_length]; exact hl)]
      · rw [if_neg hl]; exact List.getElem?_eq_none (by rw [List.length_set, wipe_length]; omega)
    · rw [List.getElem?_set_ne e]
      exact wipe_in ((List.mem_cons.mp h).resolve_left fun q => e q.symm)
theorem fixed_wipe {σ2 : L2.St} {vs : List Nat} (fx : Fixed (fun i => !vs.contains i) σ σ2) : wipe σ2 vs = wipe σ vs := by
  apply List.ext_getElem?
  intro i
  by_cases hi : i ∈ vs
  · rw [wipe_in hi, wipe_in hi, fx.len]
  · rw [wipe_out hi, wipe_out hi]
    exact fx.all i (by simpa using hi)
theorem fixed_toWipe {vs : List Nat} {σ2 : L2.St} (fx : Fixed (fun i => !vs.contains i) (wipe σ vs) σ2) : wipe σ2 vs = wipe σ vs := by
  have := fixed_wipe fx
  rw [this]
  apply List.ext_getElem?
  intro i
  by_cases hi : i ∈ vs
  · rw [wipe_in hi, wipe_in hi, wipe_length]
  · rw [wipe_out hi]
theorem wipeD_off {v : Nat} : ∀ {vs : List Nat}, v ∈ vs → v < (wipeD ρ vs).length → (wipeD ρ vs)[v]? = some none := fun h hl => wipeD_none h (by rw [wipeD_length] at hl; exact hl)
/-- behind the block -/
theorem back_ok {ρ0 : Ev} {F0 H0 : Hp} {S0 : List Addr} (g0 : Good P w K F0 H0 σ ρ0 S0) (hF : ∀ a o, F0 a = some o → F a = some o) (hl : ρ0.length = ρ.length) (g : Good P w K F H σ ρ S) : ∀ vs : List Nat, ∃ S', Good P w K F H σ (backD ρ0 ρ vs) S' ∧ ∀ a ∈ S', a ∈ S
  | [] => ⟨S, g, fun _ h => h⟩
  | v :: vs => by
    obtain ⟨S1, g1, h1⟩ := back_ok g0 hF hl g vs
    rw [backD]
    split
    · rename_i d hd
      split
      · rename_i him
        obtain ⟨x, hx, ox⟩ := g0.getIm hd him
        obtain ⟨S2, g2, h2⟩ := g1.put (T := []) hx (ox.mono hF fun _ q => nomatch q) g1.nd fun _ q => nomatch q
        exact ⟨S2, g2, fun a ha => h1 a (h2 a ha)⟩
      · exact ⟨S1, g1, h1⟩
    · exact ⟨S1, g1, h1⟩
/-- the block's turns -/
theorem lc_use {g : DG} {c : DT} {e : DE} {vs : List Nat} {J : It} {ds ys : List Dat} {ρ1 ρ2 : Ev} {D : Addr} {Q : VK} {tg : TG} {tt : TT} {te : TE} (hg : ∀ v σ H Q, tG X (fun i => !vs.contains i) g v σ H Q → tg v σ H Q) (ht : ∀ σ H Q, tT X WF c σ H Q → tt σ H Q) (he : ∀ σ H Q, tE X WF e σ H Q → te σ H Q)
    (hw : WalkD X.prog X.w X.K F ds J) (gd : Good X.prog X.w X.K F H σ ρ1 S) (hD : H D = none) (hz : ds.length ≤ 1000000) (hd : lcD g c e vs ds (wipeD ρ1 vs) = some (ys, ρ2))
    (hq : ∀ F' H' S' acc T, Step F S H F' (D :: T ++ S') H' → (∀ a o, F a = some o → F' a = some o) → Good X.prog X.w X.K F' H' σ ρ2 S' → H' D = some (.lst acc) → OwL X.prog X.w X.K F' H' ys acc T → (D :: T ++ S').Nodup → (∀ a ∈ D :: T, F' a = none) → Q (.ref D) H') :
    ∃ W' : Nat → Nat → Hp → Prop, (∃ m, W' 0 m (upd H D (.lst []))) ∧ ∀ i m H, W' i m H →
      (J.stop i H ∧ Q (.ref D) H) ∨ (J.go i H ∧ ∃ Nx : Hp → Prop, (∀ H', Nx H' → ∃ m', m' < m ∧ W' (i + 1) m' H') ∧ ∀ x H', J.yld i H x H' → tg x (wipe σ vs) H' fun σ2 H2 => wipe σ2 vs = wipe σ vs ∧ tt σ2 H2 fun b H3 =>
        if b = true then te σ2 H3 fun y H4 => ∃ acc, H4 D = some (.lst acc) ∧ acc.length < sizeLine ∧ Nx (upd H4 D (.lst (acc ++ [y]))) else Nx H3) := by
  let Pv : Nat → Hp → Prop := fun i H' => ∃ F' ρ S' acc accd T ys', (∀ a o, F a = some o → F' a = some o) ∧ Step F S H F' (D :: T ++ S') H' ∧ Good X.prog X.w X.K F' H' σ ρ S' ∧ (∀ v ∈ vs, v < ρ.length → ρ[v]? = some none) ∧ H' D = some (.lst acc) ∧ OwL X.prog X.w X.K F' H' accd acc T ∧
    (D :: T ++ S').Nodup ∧ (∀ a ∈ D :: T, F' a = none) ∧ lcD g c e vs (ds.drop i) ρ = some (ys', ρ2) ∧ accd ++ ys' = ys ∧ accd.length ≤ i
  have h0 : Pv 0 (upd H D (.lst [])) := by
    obtain ⟨S0, g0, hS0⟩ := gd.wipeD vs
    have hne : ∀ b u, H b = some u → b ≠ D := fun b u e z => by rw [z, hD] at e; cases e
    have st := step_new (F := F) (o := HO.lst []) hD
    have g1 := g0.step st (sub_new gd.sub hD) fun _ _ q => nomatch q
    have st' : Step F S H F (D :: S0) (upd H D (.lst [])) := by
      have := st.beside (R := S)
      refine (Step.more (S := [] ++ S) this (fun _ h => by simpa using h)).less fun x hx => ?_
      rcases List.mem_cons.mp hx with q | q
      · rw [q]; simp
      · simp; exact .inr (hS0 x q)
    refine ⟨F, _, S0, [], [], [], ys, fun _ _ e => e, st', g1, fun v hv hl => wipeD_off hv hl, upd_same, .nil, List.nodup_cons.mpr ⟨fun hm => ?_, g1.nd⟩, fun a ha => ?_, hd, rfl, Nat.le_refl _⟩
    · obtain ⟨u, e, _⟩ := g0.env.inH D hm
      exact hne D u e rfl
    · simp at ha; subst ha; exact free_new gd.sub hD
  refine ⟨fun i m H => m = ds.length - i ∧ i ≤ ds.length ∧ Pv i H, ⟨ds.length, by simp, Nat.zero_le _, h0⟩, ?_⟩
  rintro i m H5 ⟨rfl, hi, F5, ρ5, S5, acc, accd, T5, ys', hF5, st5, g5, hw5, hD5, ol5, nd5, fr5, hd5, hy5, hn5⟩
  by_cases hlt : i < ds.length
  · right
    refine ⟨hw.goes i H5 hlt fun a o q => g5.sub a o (hF5 a o q), Pv (i + 1), fun H' p' => ⟨ds.length - (i + 1), by omega, rfl, hlt, p'⟩, fun x H6 y => ?_⟩
    obtain ⟨F6, d, e1, s6, sub6, ov⟩ := hw.yields i H5 x H6 F5 hlt hF5 g5.sub y
    have hdrop : ds.drop i = d :: ds.drop (i + 1) := by
      rw [List.drop_eq_getElem_cons hlt]
      rw [List.getElem?_eq_getElem hlt] at e1
      rw [Option.some.inj e1]
    rw [hdrop, lcD] at hd5
    -- what is beside is kept by what follows
    have keepAll : ∀ {F7 H7 : Hp} {Sx S7 : List Addr}, Step F5 S5 H5 F7 S7 H7 → H7 D = some (.lst acc) ∧ OwL X.prog X.w X.K F7 H7 accd acc T5 ∧ (∀ a ∈ D :: T5, F7 a = none) ∧ (∀ a ∈ D :: T5, a ∉ S7) ∧ Step F S H F7 (D :: T5 ++ S7) H7 := fun {F7 H7 Sx S7} s7 => by
      have hin : ∀ a ∈ D :: T5, Thr H5 a := fun a ha => by
        rcases List.mem_cons.mp ha with q | q
        · exact ⟨HO.lst acc, q ▸ hD5, lst_tc⟩
        · exact ol5.inH a q
      have dis : ∀ a ∈ D :: T5, a ∉ S5 := fun a h1 h2 => (List.nodup_append.mp nd5).2.2 a h1 a h2 rfl
      have sm := s7.same hin dis
      have fr := s7.free hin dis fr5
      refine ⟨(sm D (List.mem_cons_self ..)).trans hD5, ol5.mono s7.fsub fun a ha => sm a (List.mem_cons_of_mem _ ha), fr, fun a h1 h2 => ?_, ?_⟩
      · rcases s7.snew a h2 with q | q
        · exact dis a h1 q
        · exact q (hin a h1).there
      · refine (st5.trans (((s7.beside (R := D :: T5)).more fun x hx => ?_))).less fun x hx => ?_
        · exact List.mem_append.mpr (List.mem_append.mp hx).symm
        · exact List.mem_append.mpr (List.mem_append.mp hx).symm
    have g6 := g5.step s6 sub6 fun _ _ q => nomatch q
    have s6' : Step F5 S5 H5 F6 S5 H6 := by
      have := s6.beside (R := S5)
      simpa using this
    split at hd5
    · rename_i ρ6 e6
      refine hg _ _ _ _ ⟨F6, ρ5, S5, d, ρ6, g6.toWipe hw5, ov, e6, fun σ7 S7 g7 hS7 fx7 => ⟨fixed_toWipe fx7, ht _ _ _ ?_⟩⟩
      have wp := fixed_toWipe fx7
      have s7 : Step F5 S5 H5 F6 S7 H6 := s6'.trans (Step.refl.less hS7)
      split at hd5
      · rename_i ρ7 e7
        refine ⟨F6, ρ6, S7, .ok true, ρ7, g7, e7, fun F8 H8 S8 s8 g8 => ?_⟩
        simp only [if_true]
        split at hd5
        · rename_i yd ρ8 e8
          split at hd5
          · rename_i ys2 ρ9 e9
            simp only [Option.some.injEq, Prod.mk.injEq] at hd5
            obtain ⟨rfl, rfl⟩ := hd5
            refine he _ _ _ ⟨F8, ρ7, S8, .ok yd, ρ8, g8, e8, fun v F9 H9 T9 S9 s9 g9 o9 nd9 fr9 => ?_⟩
            have sAll : Step F5 S5 H5 F9 (T9 ++ S9) H9 := (s7.trans s8).trans s9
            obtain ⟨k1, k2, k3, k4, k5⟩ := keepAll (Sx := []) sAll
            obtain ⟨S10, g10, h10⟩ := g9.wipeD vs
            have hlen : acc.length < sizeLine := by
              rw [← ol5.length]
              exact Nat.lt_of_le_of_lt hn5 (Nat.lt_of_lt_of_le hlt (Nat.le_of_lt (Nat.lt_of_le_of_lt hz million)))
            refine ⟨acc, k1, hlen, ?_⟩
            have hT9 : ∀ a ∈ T9, a ≠ D := fun a ha e => k4 D (List.mem_cons_self ..) (List.mem_append_left _ (e ▸ ha))
            have hT5 : ∀ a ∈ T5, a ≠ D := fun a ha e => by
              have n := List.nodup_cons.mp (show (D :: (T5 ++ S5)).Nodup from nd5)
              exact n.1 (List.mem_append_left _ (e ▸ ha))
            have hS9 : ∀ a ∈ S9, a ≠ D := fun a ha e => k4 D (List.mem_cons_self ..) (List.mem_append_right _ (e ▸ ha))
            have n9 := List.nodup_append.mp nd9
            have sw : Step F9 (D :: T5 ++ (T9 ++ S9)) H9 F9 (D :: (T5 ++ T9) ++ S10) (upd H9 D (.lst (acc ++ [v]))) := ⟨fun _ _ e => e, fun _ _ e => .inl e, fun x hx => .inl (by
                simp only [List.mem_append, List.mem_cons, List.cons_append] at hx ⊢
                rcases hx with q | (q | q) | q
                · exact .inl q
                · exact .inr (.inl q)
                · exact .inr (.inr (.inl q))
                · exact .inr (.inr (.inr (h10 x q)))), fun a o q hx _ => by
                  rw [upd_ne fun z => hx (by rw [z]; simp)]; exact q, fun a ⟨o, q, t⟩ => by
                  by_cases z : a = D
                  · exact ⟨_, by rw [z]; exact upd_same, kept_tbl (a := D) (.inl ⟨_, rfl⟩)⟩
                  · exact ⟨o, by rw [upd_ne z]; exact q, t⟩, fun t => tabs_upd t k1 (.inl ⟨_, rfl⟩), fun t => t⟩
            have sub9 : ∀ a o, F9 a = some o → upd H9 D (.lst (acc ++ [v])) a = some o := fun a o q => by
              rw [upd_ne fun z => by rw [z, k3 D (List.mem_cons_self ..)] at q; cases q]
              exact g9.sub a o q
            have g11 : Good X.prog X.w X.K F9 (upd H9 D (.lst (acc ++ [v]))) σ (wipeD ρ8 vs) S10 := by
              have := g10.ext (F' := F9) (H' := upd H9 D (.lst (acc ++ [v]))) (fun _ _ e => e) sub9 (fun a ha => upd_ne (hS9 a (h10 a ha))) g10.fr (sw.tabs g10.tab) g10.nt
              exact this.ofWipe wp fun v hv hl => wipeD_off hv hl
            refine ⟨F9, wipeD ρ8 vs, S10, acc ++ [v], accd ++ [yd], T5 ++ T9, ys2, fun a o q => sAll.fsub a o (hF5 a o q), k5.trans sw, g11, fun v hv hl => wipeD_off hv hl, upd_same, ?_, ?_, ?_, e9, by rw [← hy5]; simp, by simp; omega⟩
            · have o1 : OwL X.prog X.w X.K F9 (upd H9 D (.lst (acc ++ [v]))) accd acc T5 := k2.mono (fun _ _ e => e) fun a ha => upd_ne (hT5 a ha)
              have o2 : OwL X.prog X.w X.K F9 (upd H9 D (.lst (acc ++ [v]))) [yd] [v] T9 := by
                have := OwL.cons (o9.mono (H' := upd H9 D (.lst (acc ++ [v]))) (fun _ _ e => e) fun a ha => upd_ne (hT9 a ha)) .nil
                simpa using this
              exact o1.app o2
            · show (D :: ((T5 ++ T9) ++ S10)).Nodup
              have n5 := List.nodup_cons.mp (show (D :: (T5 ++ S5)).Nodup from nd5)
              have n5' := List.nodup_append.mp n5.2
              refine List.nodup_cons.mpr ⟨fun hm => ?_, ?_⟩
              · simp only [List.mem_append] at hm
                rcases hm with (q | q) | q
                · exact hT5 D q rfl
                · exact hT9 D q rfl
                · exact hS9 D (h10 D q) rfl
              · rw [List.append_assoc]
                refine List.nodup_append.mpr ⟨n5'.1, List.nodup_append.mpr ⟨n9.1, g10.nd, fun a h1 b h2 => n9.2.2 a h1 b (h10 b h2)⟩, fun a h1 b h2 e => ?_⟩
                subst e
                refine k4 a (List.mem_cons_of_mem _ h1) ?_
                rcases List.mem_append.mp h2 with q | q
                · exact List.mem_append_left _ q
                · exact List.mem_append_right _ (h10 a q)
            · intro a ha
              rcases List.mem_cons.mp ha with q | q
              · rw [q]; exact k3 D (List.mem_cons_self ..)
              · rcases List.mem_append.mp q with q | q
                · exact k3 a (List.mem_cons_of_mem _ q)
                · exact fr9 a q
          · cases hd5
        · cases hd5
      · rename_i ρ7 e7
        refine ⟨F6, ρ6, S7, .ok false, ρ7, g7, e7, fun F8 H8 S8 s8 g8 => ?_⟩
        simp only [Bool.false_eq_true, if_false]
        obtain ⟨k1, k2, k3, k4, k5⟩ := keepAll (Sx := []) (s7.trans s8)
        obtain ⟨S10, g10, h10⟩ := g8.wipeD vs
        refine ⟨F8, wipeD ρ7 vs, S10, acc, accd, T5, ys', fun a o q => (s7.trans s8).fsub a o (hF5 a o q), k5.less (fun x hx => ?_), g10.ofWipe wp fun v hv hl => wipeD_off hv hl, fun v hv hl => wipeD_off hv hl, k1, k2, ?_, k3, hd5, hy5, by omega⟩
        · rcases List.mem_append.mp hx with q | q
          · exact List.mem_append_left _ q
          · exact List.mem_append_right _ (h10 x q)
        · have n5 := List.nodup_append.mp nd5
          exact List.nodup_append.mpr ⟨n5.1, g10.nd, fun a h1 b h2 e => k4 a h1 (h10 a (e ▸ h2))⟩
      · cases hd5
    · cases hd5
  · left
    have e : i = ds.length := by omega
    subst e
    rw [List.drop_length, lcD] at hd5
    simp only [Option.some.injEq, Prod.mk.injEq] at hd5
    obtain ⟨rfl, rfl⟩ := hd5
    rw [List.append_nil] at hy5
    subst hy5
    exact ⟨hw.stops H5 fun a o q => g5.sub a o (hF5 a o q), hq F5 H5 S5 acc T5 st5 hF5 g5 hD5 ol5 nd5 fr5⟩
/-- [elt for target in iter if ..] as a value -/
theorem pd_lc {elt tg iter : Expr} {ifs : List Expr} {scope : Scope} {own : List (Str × Nat)} {di : DI} {g : DG} {c : DT} {e : DE} (hc : X.calm = true) (hN : X.N.Nodup) (hi : PDI X W tg iter di) (ok : BlkOk X.N X.env.scope scope own)
    (hg : ∀ (s : Shared) (H : Hp) (C : Addr) (cl : List (Str × Addr)) (fp : List Addr), PDG (X.blk s H scope (compEnvC scope cl C X.env) fp) (fun i => !(own.map Prod.snd).contains i) tg g)
    (ht : ∀ (s : Shared) (H : Hp) (C : Addr) (cl : List (Str × Addr)) (fp : List Addr), PTs (X.blk s H scope (compEnvC scope cl C X.env) fp) ifs (tT X WF c))
    (he : ∀ (s : Shared) (H : Hp) (C : Addr) (cl : List (Str × Addr)) (fp : List Addr), PD (X.blk s H scope (compEnvC scope cl C X.env) fp) WF elt e) (hs : ∀ x, foldedSetIterable iter X.env x = pure x := by intro _; rfl) :
    PD X W (.ListComp elt [⟨tg, iter, ifs, 0⟩] scope pos) (eLc di g c e (own.map (·.2))) :=
  PE.imp (pe_lc (g := tG X (fun i => !(own.map Prod.snd).contains i) g) (tt := tT X WF c) (te := tE X WF e) hc hN hi ok hg ht he hs) fun σ H Q h => by
    obtain ⟨F, ρ, S, o, ρ', gd, hd, ho⟩ := h
    unfold eLc at hd
    rcases bnd_inv hd with ⟨ds, ρ1, h1, h2⟩ | ⟨x, h1, rfl⟩
    · split at h2
      · rename_i hz
        split at h2
        · rename_i ys ρ2 e2
          simp only [Option.some.injEq, Prod.mk.injEq] at h2
          obtain ⟨rfl, rfl⟩ := h2
          refine ⟨F, ρ, S, .ok ds, ρ1, gd, h1, fun J F1 H1 S1 st g1 wk D hD => ?_⟩
          refine lc_use (fun _ _ _ _ h => h) (fun _ _ _ h => h) (fun _ _ _ h => h) wk g1 hD hz e2 fun F2 H2 S2 acc T st2 hF2 g2 hD2 ol nd fr => ?_
          obtain ⟨S3, g3, h3⟩ := back_ok (ρ := ρ2) g1 hF2 (by rw [← g1.env.length, ← g2.env.length]) g2 (own.map (·.2))
          refine ho (.ref D) F2 H2 (D :: T) S3 ((st.trans st2).less fun x hx => ?_) g3 (.ol hD2 ol) ?_ fr
          · rcases List.mem_append.mp hx with q | q
            · exact List.mem_append_left _ q
            · exact List.mem_append_right _ (h3 x q)
          · have n := List.nodup_append.mp nd
            exact List.nodup_append.mpr ⟨n.1, g3.nd, fun a h1 b h2 => n.2.2 a h1 b (h3 b h2)⟩
        · cases h2
      · cases h2
    · exact ⟨F, ρ, S, .error x, ρ', gd, h1, ho⟩
theorem pts_none : PTs X [] (tT X WF fun ρ => some (.ok true, ρ)) := ⟨fun pins s σ H Q I h => pts_nil.run pins s σ H Q I (tT_ok (k := true) h)⟩
end
end B
set_option Elab.async false
set_option linter.all false
set_option maxRecDepth 100000
namespace B
open PySem
open Sem (wp)
open AutoSeq1 (wpAny_loadPart')
set_option maxHeartbeats 1000000 in
/-- enumerate(v), v told by how its iterator begins -/
theorem meets_enum1 {v : Value} {o : Obj} {H : Heap → Prop} (B : Begins v o H) :
    Meets (Builtin.«enumerate.__new__» ⟨[.type "enumerate", v], []⟩) (fun _ R s => H s.heap ∧
      R (.ok (.ret (.ref (s.heap.push o).objs.size))) { s with heap := (s.heap.push o).push { cls := .type "enumerate", data := .fields #[.none, .bool false, .ref s.heap.objs.size, rawInt 0, .none, .none] } }) :=
  .of_wp fun prog w A R s h => by
    obtain ⟨hp, g, d, tk, os⟩ := s; obtain ⟨h1, h⟩ := h
    have hsub := sub_enumerate
    have q1 : ∀ {A' : Around} {E : Value → Shared → Prop} {Q : Value → Shared → Prop}, Q (.ref hp.objs.size) ⟨hp.push o, g, d, tk, os⟩ → wpAny (model prog w) A' (pyIter v) Q E ⟨hp, g, d, tk, os⟩ :=
      fun q => B.iter prog w _ _ ⟨hp, g, d, tk, os⟩ _ h1 q
    wp_walk using q1
    refine wpAny_stack_any fun st => wpAny_pure ?_
    split
    · rename_i c _ _ _ _ _
      cases (c == Value.type "enumerate")
      · wp_walk using q1
        exact ⟨_, rfl, h⟩
      · wp_walk using q1
        exact ⟨_, rfl, h⟩
    · wp_walk using q1
      exact ⟨_, rfl, h⟩
theorem enum1_begins {prog : Program} {w : World} {A : Around} {E : Value → Shared → Prop} {s : Shared} {v : Value} {o : Obj} {H : Heap → Prop} {Q : Value → Shared → Prop} (B : Begins v o H) (h1 : H s.heap)
    (h : ∀ h', IsEnum h' (s.heap.objs.size + 1) s.heap.objs.size 0 .none → h'.get? s.heap.objs.size = some o → h'.objs.size = s.heap.objs.size + 2 →
      (∀ b o, s.heap.get? b = some o → h'.get? b = some o) → Q (.ref (s.heap.objs.size + 1)) { s with heap := h' }) :
    wpAny (model prog w) A (call (.type "enumerate") [v]) Q E s := by
  refine callType_new F.called_enumerate (by decide) (F.typeCall_enumerate_1 _) (F.newCall_enumerate_1 _) (fun obj => F.args_object_init_2 obj _) F.entry_enumerate_new
    (meets_enum1 B) ⟨h1, ?_⟩
  have hz : (s.heap.push o).objs.size = s.heap.objs.size + 1 := Heap.size_push ..
  show _ ∧ _
  rw [hz]
  have he : IsEnum ((s.heap.push o).push { cls := .type "enumerate", data := .fields #[.none, .bool false, .ref s.heap.objs.size, rawInt 0, .none, .none] }) (s.heap.objs.size + 1) s.heap.objs.size 0 .none := by
    have := Heap.get?_push_size (s.heap.push o) (o := { cls := .type "enumerate", data := .fields #[.none, .bool false, .ref s.heap.objs.size, rawInt 0, .none, .none] }) rfl
    rw [hz] at this; exact this
  refine ⟨⟨_, he, rfl⟩, h _ he (Heap.get?_push_of_some _ (Heap.get?_push_size _ B.free)) (by rw [Heap.size_push, hz]) fun b o x => Heap.get?_push_of_some _ (Heap.get?_push_of_some _ x)⟩
end B
namespace B
open PySem PySem.Spec PyProof.Rows L2
variable [TabT]
/-- enumerate(tuple) -/
def IteT (K : PySem.W.Frag) (a : Addr) : It :=
  ⟨fun i H => ∃ (xs : List V) (x : V), SqT K H a xs ∧ xs[i]? = some x, fun i H v H' => ∃ T x, v = .ref T ∧ H T = none ∧ H' = upd H T (.tup [.int (i : Nat), x]) ∧ ∀ xs, SqT K H a xs → xs[i]? = some x, fun i H => ∃ xs : List V, SqT K H a xs ∧ xs.length = i⟩
theorem turn_enumT {P : Program} {w : World} {K : PySem.W.Frag} {elts : List Expr} {kk : Nat} {tpos : Pos} (a e it : Addr) (hae : a ≠ e) (hai : a ≠ it) :
    Turn P w K (.Tuple elts kk tpos) (IteT K a) [e, it] e (fun i h => (∃ old, IsEnum h e it ((i : Nat) : Int) old) ∧ h.IsTupleIter it a i ∧ e ≠ it) where
  mem := by simp
  obj := fun i h st b hb => by
    obtain ⟨⟨old, he⟩, ⟨o, ho, hc, hd⟩, _⟩ := st
    have e' : b = e ∨ b = it := by simpa using hb
    rcases e' with z | z
    · rw [z]; exact ⟨_, he, fun v q => nomatch q⟩
    · rw [z]; exact ⟨o, ho, fun v q => by rw [hd] at q; cases q⟩
  keep := fun i h h' st k => let ⟨⟨old, he⟩, hi, hne⟩ := st; ⟨⟨old, k e (by simp) _ he⟩, hi.at fun o q => k it (by simp) o q, hne⟩
  item := by
    intro X hP hw hK hc i pins s σ H E I hf st hg
    subst hP hw hK
    obtain ⟨⟨old, he⟩, hit, hne⟩ := st
    obtain ⟨xs, x, hq, hx⟩ := hg
    obtain ⟨its, rv, p, hz⟩ := I.tuple hq
    obtain ⟨u, hu, ru⟩ := rv.get hx
    have hel : e < s.heap.objs.size := Heap.lt_size he
    have hil : it < s.heap.objs.size := by obtain ⟨_, q, _⟩ := hit; exact Heap.lt_size q
    have hlt : i < its.toArray.size := by
      have := (List.getElem?_eq_some_iff.mp hu).1
      simpa using this
    refine wpAny_pyNext_enum_itemD (Draws.tuple (A := X.A.in1) (I.ok.hd hc) it a hai its.toArray) he ⟨hit, (show s.heap.IsTuple a its.toArray from p)⟩ hlt hne (by simp; exact ⟨hne, Ne.symm hae⟩) fun x' h' tk hP ho hst' hT hsz hk => ?_
    have ex : x' = u := by
      have hP' : its.toArray[i]? = some x' := hP
      rw [List.getElem?_toArray, hu] at hP'
      exact (Option.some.inj hP').symm
    subst ex
    refine ⟨_, rfl, wpAny_letOwnedTupleGo_enum (s := { s with heap := h', toks := tk + 1 }) ho fun h'' he' sb => ?_⟩
    have hT2 : h''.get? s.heap.objs.size = some { cls := .type "tuple", data := .seq #[.int i tk, x'] } := (sb.2 _ (Nat.ne_of_gt hel)).trans hT
    have new : ObjOk X.prog X.w (upd H s.heap.objs.size (.tup [.int (i : Nat), x])) h'' s.heap.objs.size (.tup [.int (i : Nat), x]) :=
      ⟨by show 2 ≤ sizeLine; decide, [.int i tk, x'], .cons ⟨_, rfl⟩ (.cons ru .nil), ⟨_, hT2, rfl, _, rfl⟩⟩
    have I1 : Inv X pins σ (upd H s.heap.objs.size (.tup [.int (i : Nat), x])) { s with heap := h'', toks := tk + 1 } :=
      I.turnedNew (ch := [e, it]) (fun b ob hb q => (sb.2 b (fun z => hb (by simp [z]))).trans (hk b ob (fun z => hb (by simp [z])) (fun z => hb (by simp [z])) q)) hf (Nat.le_refl _) new
    refine ⟨.ref s.heap.objs.size, _, I1, rfl, ⟨_, x, rfl, I.hok.fresh (Nat.le_refl _), rfl, fun ys hy => by rw [I.tuple_inj hy hq]; exact hx⟩, ⟨⟨x', ?_⟩, hst'.1.at fun o q => (sb.2 it (Ne.symm hne)).trans q, hne⟩, fun b hb => ?_⟩
    · have e1 : ((i + 1 : Nat) : Int) = (i : Int) + 1 := by omega
      rw [e1]; exact he'
    · have hb' : b < s.heap.objs.size := by
        have e' : b = e ∨ b = it := by simpa using hb
        rcases e' with z | z
        · rw [z]; exact hel
        · rw [z]; exact hil
      rw [upd_ne (Nat.ne_of_lt hb')]
      exact (hf b hb).1
  done := by
    intro X hP hw hK hc i pins s σ H E I hf st hg
    subst hP hw hK
    obtain ⟨⟨old, he⟩, hit, hne⟩ := st
    obtain ⟨xs, hq, hx⟩ := hg
    obtain ⟨its, rv, p, hz⟩ := I.tuple hq
    obtain ⟨f0, f1, f2, f3, f4, f5⟩ := hf it (by simp)
    have hl := rv.length
    have hi : i = its.toArray.size := by simp; omega
    subst hi
    exact wpAny_pyNext_enum_endD (Draws.tuple (A := X.A.in1) (I.ok.hd hc) it a hai its.toArray) he ⟨hit, (show s.heap.IsTuple a its.toArray from p)⟩ fun h' eb => ⟨rfl, I.turned (t' := s.toks) (fun b o hb q => eb b o hb q) f0 f1 f3 f4 f5⟩
  self := fun A i s Q E st h => let ⟨⟨_, he⟩, _⟩ := st; wpAny_pyIter_enum he h
def iEnumA (K : PySem.W.Frag) (ta : TA) : TI := fun σ H R => ta σ H fun vs H1 => ∃ a xs, vs = [.ref a] ∧ ((SqL K H1 a xs ∧ R (Ite K a) H1) ∨ (SqT K H1 a xs ∧ R (IteT K a) H1))
theorem pi_enumA {X : Cx} {e : Expr} {ta : TA} {p pos tpos : Pos} {elts : List Expr} {kk : Nat} (hg : Gl X "enumerate") (hm : X.mg "enumerate" = none) (ha : PA X [e] ta) (hs : starEach [e] X.env = [(false, eval e X.env)] := by rfl) :
    PI X (.Tuple elts kk tpos) (.Call (.Name "enumerate" p) [e] [] pos) (iEnumA X.K ta) := by
  refine ⟨fun pins s σ H R I h => ?_⟩
  refine Call_ (ld_blt I hg hm boot_enumerate (PyProof.Rows.callWith_type1 (thn (ha.run pos pins s σ H _ I h) fun us s1 ⟨vs, H1, I1, r1, q1⟩ => ?_) hs rfl))
  obtain ⟨a, xs, ex, q1⟩ := q1
  subst ex
  cases r1 with
  | cons r rr =>
    cases rr
    cases r
    have fresh2 : ∀ b ∈ [s1.heap.objs.size + 1, s1.heap.objs.size], FpOk X pins H1 b := fun b hb => by
      have e' : b = s1.heap.objs.size + 1 ∨ b = s1.heap.objs.size := by simpa using hb
      have hle : s1.heap.objs.size ≤ b := by
        rcases e' with z | z
        · rw [z]; exact Nat.le_add_right _ _
        · rw [z]; exact Nat.le_refl _
      exact I1.fpOk hle (I1.hok.fresh hle)
    rcases q1 with ⟨hq, q⟩ | ⟨hq, q⟩
    · obtain ⟨its, rv, p', hz⟩ := I1.list hq
      refine call_enumerate_list p'.isList fun h' he hit hsz hk => wpAny_pyIter_enum he ?_
      have I2 : Inv X pins σ H1 { s1 with heap := h' } := I1.kept (t' := s1.toks) hk
      exact ⟨s1.heap.objs.size + 1, [s1.heap.objs.size + 1, s1.heap.objs.size], _, _, H1, rfl, I2, turn_enum a (s1.heap.objs.size + 1) s1.heap.objs.size, ⟨⟨.none, he⟩, hit, Nat.succ_ne_self _⟩, fresh2, q⟩
    · obtain ⟨its, rv, p', hz⟩ := I1.tuple hq
      have hT : s1.heap.IsTuple a its.toArray := p'
      have hlt : a < s1.heap.objs.size := by obtain ⟨o, ho, _⟩ := hT; exact Heap.lt_size ho
      refine enum1_begins (begins_tuple a its.toArray) hT fun h' he hit hsz hk => wpAny_pyIter_enum he ?_
      have I2 : Inv X pins σ H1 { s1 with heap := h' } := I1.kept (t' := s1.toks) hk
      exact ⟨s1.heap.objs.size + 1, [s1.heap.objs.size + 1, s1.heap.objs.size], _, _, H1, rfl, I2, turn_enumT a (s1.heap.objs.size + 1) s1.heap.objs.size (Nat.ne_of_lt (Nat.lt_succ_of_lt hlt)) (Nat.ne_of_lt hlt), ⟨⟨.none, he⟩, ⟨_, hit, rfl, rfl⟩, Nat.succ_ne_self _⟩, fresh2, q⟩
end B
set_option Elab.async false
set_option linter.all false
set_option maxRecDepth 100000
namespace B
open PySem PySem.Spec PyProof.Rows L2
variable [TabT]
section
variable {X : Cx} {F F1 F' H H1 H' : Hp} {σ σ1 : L2.St} {ρ ρ' : Ev} {S S1 S' T T' : List Addr} {W : WX} {pos : Pos} {tg : Expr}
variable {P : Program} {w : World} {K : PySem.W.Frag}
def iSeqT (K : PySem.W.Frag) (tl : TE) : TI := fun σ H R => tl σ H fun x H1 => ∃ a, x = .ref a ∧ (((∃ xs, SqL K H1 a xs) ∧ R (Itl K a) H1) ∨ ((∃ xs, SqT K H1 a xs) ∧ R (Itt K a) H1))
theorem pi_seqT {l : Expr} {tl : TE} (hl : PE X l tl) : PI X tg l (iSeqT X.K tl) := by
  refine ⟨fun pins s σ H R I h => ?_⟩
  refine thn (hl.run pins s σ H _ I h) fun v s1 ⟨x, H1, I1, r1, q1⟩ => ?_
  obtain ⟨a, e, q1⟩ := q1
  subst e
  cases r1
  have fr : ∀ b ∈ [s1.heap.objs.size], FpOk X pins H1 b := fun b hb => by
    have e : b = s1.heap.objs.size := by simpa using hb
    subst e
    exact I1.fpOk (Nat.le_refl _) (I1.hok.fresh (Nat.le_refl _))
  rcases q1 with ⟨⟨xs, hq⟩, q⟩ | ⟨⟨xs, hq⟩, q⟩
  · obtain ⟨its, rv, p, hz⟩ := I1.list hq
    refine wpAny_pyIter_list p.isList ?_
    exact ⟨s1.heap.objs.size, [s1.heap.objs.size], _, _, H1, rfl, I1.kept (t' := s1.toks) fun b o e => Heap.get?_push_of_some _ e, turn_list a _, ⟨_, Heap.get?_push_size _ rfl, rfl, rfl⟩, fr, q⟩
  · obtain ⟨its, rv, p, hz⟩ := I1.tuple hq
    refine wpAny_pyIter_tuple (show s1.heap.IsTuple a its.toArray from p) ?_
    exact ⟨s1.heap.objs.size, [s1.heap.objs.size], _, _, H1, rfl, I1.kept (t' := s1.toks) fun b o e => Heap.get?_push_of_some _ e, turn_tuple a _, ⟨_, Heap.get?_push_size _ rfl, rfl, rfl⟩, fr, q⟩
/-- a walk that gives the items of vs -/
theorem WalkD.of {J : It} {G : Hp → Prop} {vs : List V} {ds : List Dat} {H0 : Hp} (w' : Walk J vs.length G (YAt vs)) (hG : ∀ H, (∀ a o, F a = some o → H a = some o) → G H) (ol : OwL P w K F H0 ds vs []) : WalkD P w K F ds J where
  goes := fun i H hi hs => w'.goes i H (by rw [← ol.length]; exact hi) (hG H hs)
  stops := fun H hs => by rw [ol.length]; exact w'.stops H (hG H hs)
  yields := fun i H x H' F1 hi hF hs y => by
    obtain ⟨e, hx⟩ := w'.yields i H x H' (by rw [← ol.length]; exact hi) (hG H fun a o q => hs a o (hF a o q)) y
    subst e
    have hd : ds[i]? = some ds[i] := List.getElem?_eq_getElem hi
    obtain ⟨v, S1, hv, o, hS⟩ := ol.at hd
    have e1 : S1 = [] := List.eq_nil_iff_forall_not_mem.mpr fun a ha => by simpa using hS a ha
    subst e1
    rw [hv] at hx
    have e2 := Option.some.inj hx
    subst e2
    exact ⟨F1, ds[i], hd, Step.refl, hs, o.mono hF fun _ q => nomatch q⟩
theorem WalkD.pair {J : It} {n : Nat} {G : Hp → Prop} {xs ys : Nat → Option V} {ds : List Dat} (w' : Walk J n G (YPair xs ys)) (hn : ds.length = n) (hG : ∀ H, (∀ a o, F a = some o → H a = some o) → G H)
    (hd : ∀ i, i < n → ∃ a b, ds[i]? = some (.tup [a, b]) ∧ ∀ x y, xs i = some x → ys i = some y → ∃ H0, Ow P w K F H0 a x [] ∧ Ow P w K F H0 b y []) : WalkD P w K F ds J where
  goes := fun i H hi hs => w'.goes i H (by rw [← hn]; exact hi) (hG H hs)
  stops := fun H hs => by rw [hn]; exact w'.stops H (hG H hs)
  yields := fun i H x H' F1 hi hF hs y => by
    obtain ⟨T, x1, y1, rfl, hT, rfl, e1, e2⟩ := w'.yields i H x H' (by rw [← hn]; exact hi) (hG H fun a o q => hs a o (hF a o q)) y
    obtain ⟨a, b, h1, h2⟩ := hd i (by rw [← hn]; exact hi)
    obtain ⟨H0, o1, o2⟩ := h2 x1 y1 e1 e2
    have mF : ∀ c o, F1 c = some o → upd F1 T (.tup [x1, y1]) c = some o := fun c u e => by
      rw [upd_ne (fun z => by rw [z] at e; have := hs _ _ e; rw [hT] at this; cases this)]; exact e
    refine ⟨upd F1 T (.tup [x1, y1]), _, h1, step_newF (fun _ z => by cases z) hs hT, sub_newF hs, .tup (SqT.of upd_same) ?_⟩
    exact .cons (S := []) (T := []) (o1.mono (fun c o e => mF c o (hF c o e)) fun _ q => nomatch q) (.cons (S := []) (T := []) (o2.mono (fun c o e => mF c o (hF c o e)) fun _ q => nomatch q) .nil)
/-- a list, a tuple -/
def iSeq (de : DE) : DI := fun ρ => bnd (de ρ) fun d ρ' => match sit (frz d) with
  | some ds => some (.ok ds, ρ')
  | none => none
theorem sit_walk {d : Dat} {ds : List Dat} {v : V} (o : Ow P w K F H d v []) (e : sit d = some ds) : ∃ a vs, v = .ref a ∧ OwL P w K F H ds vs [] ∧ ((Rd F a (.lst vs) ∧ WalkD P w K F ds (Itl K a)) ∨ (SqT K F a vs ∧ WalkD P w K F ds (Itt K a))) := by
  cases d <;> simp [sit] at e
  · subst e
    obtain ⟨a, vs, rfl, h1, h2⟩ := o.tup_inv
    exact ⟨a, vs, rfl, h2, .inr ⟨h1, WalkD.of walk_tup (fun H hs => SqT.up hs h1) h2⟩⟩
  · subst e
    obtain ⟨a, vs, rfl, h1, h2, _⟩ := o.lst_inv
    exact ⟨a, vs, rfl, h2, .inl ⟨h1, WalkD.of walk_list (fun H hs => .inl (Rd.mono hs h1)) h2⟩⟩
  · obtain ⟨a, vs, S1, rfl, h1, h2, e2⟩ := o.ol_inv
    cases e2
theorem pdi_seq {e : Expr} {de : DE} (he : PD X W e de) : PDI X W tg e (iSeq de) := PI.imp (pi_seqT he) fun σ H R h => by
  obtain ⟨F, ρ, S, o, ρ', g, hd, ho⟩ := h
  unfold iSeq at hd
  rcases bnd_inv hd with ⟨d, ρ1, h1, h2⟩ | ⟨x, h1, rfl⟩
  · split at h2
    · rename_i ds e1
      simp only [Option.some.injEq, Prod.mk.injEq] at h2
      obtain ⟨rfl, rfl⟩ := h2
      refine ⟨F, ρ, S, .ok d, ρ1, g, h1, fun v F1 H1 T S1 st g1 o1 nd fr => ?_⟩
      obtain ⟨F2, s2, g2, o2⟩ := freezeT g1 o1 nd fr
      obtain ⟨a, vs, rfl, ol, q⟩ := sit_walk o2 e1
      refine ⟨a, rfl, ?_⟩
      rcases q with ⟨q1, q2⟩ | ⟨q1, q2⟩
      · exact .inl ⟨⟨vs, .inl (Rd.mono g2.sub q1)⟩, ho _ F2 H1 S1 (st.trans s2) g2 q2⟩
      · exact .inr ⟨⟨vs, SqT.up g2.sub q1⟩, ho _ F2 H1 S1 (st.trans s2) g2 q2⟩
    · cases h2
  · exact ⟨F, ρ, S, .error x, ρ', g, h1, ho⟩
/-- range -/
def rngD (lo : Int) (n : Nat) : List Dat := (List.range n).map fun i : Nat => .int (lo + (i : Int))
theorem rng_walk (lo : Int) (n : Nat) : WalkD P w K F (rngD lo n) (Itr lo n) where
  goes := fun i H hi hs => show i < n by simpa [rngD] using hi
  stops := fun H hs => show n ≤ (rngD lo n).length by simp [rngD]
  yields := fun i H x H' F1 hi hF hs y => by
    obtain ⟨rfl, rfl⟩ := y
    have hi' : i < n := by simpa [rngD] using hi
    exact ⟨F1, .int (lo + (i : Int)), by simp [rngD, hi'], Step.refl, hs, .int _⟩
def iRange1 (as : DA) : DI := fun ρ => bnd (as ρ) fun a ρ' => match res ρ' a with
  | some [.int j] => if -(2 ^ 62) ≤ j ∧ j < 2 ^ 62 then some (.ok (rngD 0 j.toNat), ρ') else none
  | _ => none
theorem pdi_range1 {a : Expr} {as : DA} {p : Pos} (hg : Gl X "range") (hm : X.mg "range" = none) (ha : PDA X W [a] as) (hs : starEach [a] X.env = [(false, eval a X.env)] := by rfl) : PDI X W tg (.Call (.Name "range" p) [a] [] pos) (iRange1 as) := PI.imp (pi_range1 hg hm ha hs) fun σ H R h => by
  obtain ⟨F, ρ, S, o, ρ', g, hd, ho⟩ := h
  unfold iRange1 at hd
  rcases bnd_inv hd with ⟨l, ρ1, h1, h2⟩ | ⟨x, h1, rfl⟩
  · refine ⟨F, ρ, S, .ok l, ρ1, g, h1, fun vs F1 H1 T S1 st g1 oa nd fr => ?_⟩
    split at h2
    · rename_i j e
      split at h2
      · rename_i hj
        simp only [Option.some.injEq, Prod.mk.injEq] at h2
        obtain ⟨rfl, rfl⟩ := h2
        obtain ⟨B, ol⟩ := res_ok g1 oa e
        obtain ⟨v, S2, rfl, o1⟩ := ol.one
        obtain ⟨rfl, _⟩ := o1.int_inv
        exact ⟨j, rfl, hj.1, hj.2, ho _ F1 H1 S1 (st.less fun x hx => List.mem_append_right _ hx) g1 (rng_walk 0 j.toNat)⟩
      · cases h2
    · cases h2
  · exact ⟨F, ρ, S, .error x, ρ', g, h1, ho⟩
/-- enumerate -/
def enumD : Nat → List Dat → List Dat
  | _, [] => []
  | i, d :: ds => .tup [.int (i : Int), d] :: enumD (i + 1) ds
theorem enumD_length : ∀ (ds : List Dat) (i : Nat), (enumD i ds).length = ds.length
  | [], _ => rfl
  | d :: ds, i => by simp [enumD, enumD_length ds]
theorem enumD_get : ∀ (ds : List Dat) (i j : Nat), j < ds.length → ∃ d, ds[j]? = some d ∧ (enumD i ds)[j]? = some (.tup [.int ((i + j : Nat) : Int), d])
  | d :: ds, i, 0, _ => ⟨d, rfl, rfl⟩
  | d :: ds, i, j + 1, h => by
    obtain ⟨e, h1, h2⟩ := enumD_get ds (i + 1) j (by simpa using h)
    refine ⟨e, by simpa using h1, ?_⟩
    rw [enumD, List.getElem?_cons_succ, h2]
    have : i + 1 + j = i + (j + 1) := by omega
    rw [this]
theorem OwL.atF {ds : List Dat} {vs : List V} {j : Nat} {d : Dat} {v : V} {H0 : Hp} (ol : OwL P w K F H0 ds vs []) (hd : ds[j]? = some d) (hv : vs[j]? = some v) : Ow P w K F H0 d v [] := by
  obtain ⟨u, S1, hu, o, hS⟩ := ol.at hd
  rw [hu] at hv
  have e := Option.some.inj hv
  subst e
  have e1 : S1 = [] := List.eq_nil_iff_forall_not_mem.mpr fun a ha => by simpa using hS a ha
  subst e1
  exact o
/-- the arguments' values, frozen: what is walked -/
def walkA (f : List Dat → Option (List Dat)) (as : DA) : DI := fun ρ => bnd (as ρ) fun a ρ' => match dtsOf a with
  | some ds => match f (frzs ds) with
    | some l => some (.ok l, ρ')
    | none => none
  | none => none
theorem walkA_use {f : List Dat → Option (List Dat)} {as : DA} {R : It → Hp → Prop} {r : List V → Hp → Prop} (h : tI X W (walkA f as) σ H R)
    (hf : ∀ (F H : Hp) ds vs l, (∀ a o, F a = some o → H a = some o) → OwL X.prog X.w X.K F H ds vs [] → f ds = some l → (∀ J, WalkD X.prog X.w X.K F l J → R J H) → r vs H) : tA X W as σ H r := by
  obtain ⟨F, ρ, S, o, ρ', g, hd, ho⟩ := h
  unfold walkA at hd
  rcases bnd_inv hd with ⟨a, ρ1, h1, h2⟩ | ⟨x, h1, rfl⟩
  · refine ⟨F, ρ, S, .ok a, ρ1, g, h1, fun vs F1 H1 T S1 st g1 oa nd fr => ?_⟩
    split at h2
    · rename_i ds e
      split at h2
      · rename_i l e2
        simp only [Option.some.injEq, Prod.mk.injEq] at h2
        obtain ⟨rfl, rfl⟩ := h2
        have ol := oa.dts e
        have dis : ∀ a ∈ S1, a ∉ T := fun a h1 h2 => (List.nodup_append.mp nd).2.2 a h2 a h1 rfl
        have s2 : Step F1 (T ++ S1) H1 (putF F1 H1 T) S1 H1 := ⟨putF_ext fr, fun a o e => by
          by_cases ha : a ∈ T
          · exact .inr (.inr (.inl (List.mem_append_left _ ha)))
          · rw [putF_out ha] at e; exact .inl e, fun x hx => .inl (List.mem_append_right _ hx), fun a o e _ _ => e, fun _ h => h, fun t => t, fun t => putF_nt t ol.inH⟩
        have g2 : Good X.prog X.w X.K (putF F1 H1 T) H1 σ ρ1 S1 := g1.ext (putF_ext fr) (fun a o e => by
          by_cases ha : a ∈ T
          · rw [putF_in ha] at e; exact e
          · rw [putF_out ha] at e; exact g1.sub a o e) (fun _ _ => rfl) (fun a ha => by rw [putF_out (dis a ha)]; exact g1.fr a ha) g1.tab (putF_nt g1.nt ol.inH)
        exact hf _ H1 (frzs ds) vs l g2.sub (ol.freeze fr fun _ h => h) e2 fun J wk => ho J _ H1 S1 (st.trans s2) g2 wk
      · cases h2
    · cases h2
  · exact ⟨F, ρ, S, .error x, ρ', g, h1, ho⟩
def fEnum : List Dat → Option (List Dat)
  | [c] => match sit c with
    | some ds => some (enumD 0 ds)
    | none => none
  | _ => none
theorem walk_enumT {a : Addr} {xs : List V} : Walk (IteT K a) xs.length (fun H => SqT K H a xs) (YPair (fun i => some (.int (i : Nat))) (fun i => xs[i]?)) := by
  refine ⟨fun i _ hi q => ⟨xs, xs[i], q, by simp [hi]⟩, fun _ q => ⟨xs, q, rfl⟩, fun i H v H' _ q y => ?_⟩
  obtain ⟨T, x, h1, h2, h3, h4⟩ := y
  exact ⟨T, .int (i : Nat), x, h1, h2, h3, rfl, h4 xs q⟩
theorem pdi_enum {a : Expr} {as : DA} {p tpos : Pos} {elts : List Expr} {kk : Nat} (hg : Gl X "enumerate") (hm : X.mg "enumerate" = none) (ha : PDA X W [a] as) (hs : starEach [a] X.env = [(false, eval a X.env)] := by rfl) :
    PDI X W (.Tuple elts kk tpos) (.Call (.Name "enumerate" p) [a] [] pos) (walkA fEnum as) := PI.imp (pi_enumA hg hm ha hs) fun σ H R h => walkA_use h fun F H ds vs l hs ol e q => by
  unfold fEnum at e
  split at e
  · split at e
    · rename_i ds e1
      have e' := Option.some.inj e
      subst e'
      obtain ⟨v, S1, rfl, o1⟩ := ol.one
      have hS := ol
      obtain ⟨v', ws, S2, S3, e3, e4, o2, _⟩ := hS.cons_inv
      obtain ⟨rfl, rfl⟩ := List.append_eq_nil_iff.mp e4.symm
      cases e3
      obtain ⟨a, vs, rfl, ol2, z⟩ := sit_walk o2 e1
      refine ⟨a, vs, rfl, ?_⟩
      rcases z with ⟨z1, _⟩ | ⟨z1, _⟩
      · exact .inl ⟨.inl (Rd.mono hs z1), q _ (WalkD.pair walk_enum (by rw [enumD_length, ol2.length]) (fun H hs' => .inl (Rd.mono hs' z1)) fun i hi => by
          obtain ⟨d, h1, h2⟩ := enumD_get ds 0 i (by rw [ol2.length]; exact hi)
          rw [Nat.zero_add] at h2
          exact ⟨_, _, h2, fun x y ex ey => by cases ex; exact ⟨H, .int _, ol2.atF h1 ey⟩⟩)⟩
      · exact .inr ⟨SqT.up hs z1, q _ (WalkD.pair walk_enumT (by rw [enumD_length, ol2.length]) (fun H hs' => SqT.up hs' z1) fun i hi => by
          obtain ⟨d, h1, h2⟩ := enumD_get ds 0 i (by rw [ol2.length]; exact hi)
          rw [Nat.zero_add] at h2
          exact ⟨_, _, h2, fun x y ex ey => by cases ex; exact ⟨H, .int _, ol2.atF h1 ey⟩⟩)⟩
    · cases e
  · cases e
/-- zip of two lists, of two tuples -/
def zipD : List Dat → List Dat → List Dat
  | a :: as, b :: bs => .tup [a, b] :: zipD as bs
  | _, _ => []
theorem zipD_length : ∀ (as bs : List Dat), (zipD as bs).length = min as.length bs.length
  | [], _ => by simp [zipD]
  | a :: as, [] => by simp [zipD]
  | a :: as, b :: bs => by simp [zipD, zipD_length as bs, Nat.succ_min_succ]
theorem zipD_get : ∀ (as bs : List Dat) (i : Nat), i < min as.length bs.length → ∃ a b, as[i]? = some a ∧ bs[i]? = some b ∧ (zipD as bs)[i]? = some (.tup [a, b])
  | [], _, i, h => by simp at h
  | a :: as, [], i, h => by simp at h
  | a :: as, b :: bs, 0, h => ⟨a, b, rfl, rfl, rfl⟩
  | a :: as, b :: bs, i + 1, h => by
    obtain ⟨x, y, h1, h2, h3⟩ := zipD_get as bs i (by simp at h ⊢; omega)
    exact ⟨x, y, by simpa using h1, by simpa using h2, by rw [zipD, List.getElem?_cons_succ]; exact h3⟩
def fZip : List Dat → Option (List Dat)
  | [.lst as, .lst bs] => some (zipD as bs)
  | [.tup as, .tup bs] => some (zipD as bs)
  | _ => none
theorem walk_zipT {a b : Addr} {xs ys : List V} {n : Nat} (hn : n = min xs.length ys.length) : Walk (RZ.ItzT K a b) n (fun H => SqT K H a xs ∧ SqT K H b ys) (YPair (fun i => xs[i]?) (fun i => ys[i]?)) := by
  subst hn
  refine ⟨fun i _ hi q => ?_, fun _ q => ⟨xs, ys, q.1, q.2, by omega⟩, fun i H v H' _ q y => ?_⟩
  · have h1 : i < xs.length := by omega
    have h2 : i < ys.length := by omega
    exact ⟨xs, ys, xs[i], ys[i], q.1, q.2, by simp [h1], by simp [h2]⟩
  · obtain ⟨T, x, z, h1, h2, h3, h4, h5⟩ := y
    exact ⟨T, x, z, h1, h2, h3, h4 xs q.1, h5 ys q.2⟩
theorem pdi_zip {a b : Expr} {as : DA} {p tpos : Pos} {elts : List Expr} {kk : Nat} (hg : Gl X "zip") (hm : X.mg "zip" = none) (ha : PDA X W [a, b] as) (hs : starEach [a, b] X.env = (false, eval a X.env) :: starEach [b] X.env := by rfl) (hpl : (backTo pos (starEach [b] X.env)).any (·.1) = false := by rfl) :
    PDI X W (.Tuple elts kk tpos) (.Call (.Name "zip" p) [a, b] [] pos) (walkA fZip as) := PI.imp (RZ.pi_zipA hg hm ha hs hpl) fun σ H R h => walkA_use h fun F H ds vs l hs ol e q => by
  unfold fZip at e
  split at e
  · rename_i as bs
    have e' := Option.some.inj e
    subst e'
    obtain ⟨v, ws, S1, S2, rfl, e4, o1, ol1⟩ := ol.cons_inv
    obtain ⟨rfl, rfl⟩ := List.append_eq_nil_iff.mp e4.symm
    obtain ⟨u, ws, S1, S2, rfl, e4, o2, ol2⟩ := ol1.cons_inv
    obtain ⟨rfl, _⟩ := ol2.nil_inv
    obtain ⟨rfl, rfl⟩ := List.append_eq_nil_iff.mp e4.symm
    obtain ⟨a, xs, rfl, z1, l1, _⟩ := o1.lst_inv
    obtain ⟨b, ys, rfl, z2, l2, _⟩ := o2.lst_inv
    refine ⟨a, b, xs, ys, rfl, .inl ⟨.inl (Rd.mono hs z1), .inl (Rd.mono hs z2), q _ (WalkD.pair (walk_zip (xs := xs) (ys := ys) rfl) (by rw [zipD_length, l1.length, l2.length]) (fun H hs' => ⟨.inl (Rd.mono hs' z1), .inl (Rd.mono hs' z2)⟩) fun i hi => ?_)⟩⟩
    obtain ⟨c, d, h1, h2, h3⟩ := zipD_get as bs i (by rw [l1.length, l2.length]; exact hi)
    exact ⟨c, d, h3, fun x y ex ey => ⟨H, l1.atF h1 ex, l2.atF h2 ey⟩⟩
  · rename_i as bs
    have e' := Option.some.inj e
    subst e'
    obtain ⟨v, ws, S1, S2, rfl, e4, o1, ol1⟩ := ol.cons_inv
    obtain ⟨rfl, rfl⟩ := List.append_eq_nil_iff.mp e4.symm
    obtain ⟨u, ws, S1, S2, rfl, e4, o2, ol2⟩ := ol1.cons_inv
    obtain ⟨rfl, _⟩ := ol2.nil_inv
    obtain ⟨rfl, rfl⟩ := List.append_eq_nil_iff.mp e4.symm
    obtain ⟨a, xs, rfl, z1, l1⟩ := o1.tup_inv
    obtain ⟨b, ys, rfl, z2, l2⟩ := o2.tup_inv
    refine ⟨a, b, xs, ys, rfl, .inr ⟨SqT.up hs z1, SqT.up hs z2, q _ (WalkD.pair (walk_zipT (xs := xs) (ys := ys) rfl) (by rw [zipD_length, l1.length, l2.length]) (fun H hs' => ⟨SqT.up hs' z1, SqT.up hs' z2⟩) fun i hi => ?_)⟩⟩
    obtain ⟨c, d, h1, h2, h3⟩ := zipD_get as bs i (by rw [l1.length, l2.length]; exact hi)
    exact ⟨c, d, h3, fun x y ex ey => ⟨H, l1.atF h1 ex, l2.atF h2 ey⟩⟩
  · cases e
end
end B
set_option Elab.async false
set_option linter.all false
set_option maxRecDepth 100000
namespace B
open PySem PySem.Spec PyProof.Rows L2
variable [TabT]
/-- an operation upon what a slot owns -/
def MO (X : Cx) (r : V → List V → Hp → VK → Prop) (f : Dat → List Dat → Option (Dat × Dat)) : Prop :=
  ∀ (F H : Hp) (d : Dat) (v : V) (Sd : List Addr) (ds : List Dat) (vs : List V) (T : List Addr) (rd d' : Dat) (Q : VK), (∀ a o, F a = some o → H a = some o) → Ow X.prog X.w X.K F H d v Sd → OwL X.prog X.w X.K F H ds vs T → (Sd ++ T).Nodup → (∀ a ∈ Sd ++ T, F a = none) → f d ds = some (rd, d') →
    (∀ u F' H' R S', Step F (Sd ++ T) H F' (R ++ S') H' → (∀ a o, F' a = some o → H' a = some o) → Ow X.prog X.w X.K F' H' rd u R → Ow X.prog X.w X.K F' H' d' v S' → (R ++ S').Nodup → (∀ a ∈ R ++ S', F' a = none) → Q u H') → r v vs H Q
def eMut (i : Nat) (chk : Dat → Bool) (f : Dat → List Dat → Option (Dat × Dat)) (as : DA) : DE := fun ρ => match ρ[i]? with
  | some (some d0) => if chk d0 = true then bnd (as ρ) fun a ρ1 => match dtsOf a, ρ1[i]? with
      | some ds, some (some d) => match f d ds with
        | some (rd, d') => some (.ok rd, ρ1.set i (some d'))
        | none => none
      | _, _ => none
    else none
  | _ => none
section
variable {X : Cx} {F F1 F' H H1 H' : Hp} {σ σ1 : L2.St} {ρ ρ' : Ev} {S S1 S' T T' : List Addr} {W : WX} {pos : Pos}
theorem mut_use {i : Nat} {chk : Dat → Bool} {f : Dat → List Dat → Option (Dat × Dat)} {as : DA} {r : V → List V → Hp → VK → Prop} {Q : VK} (hm : MO X r f) (h : tE X W (eMut i chk f as) σ H Q) :
    ∃ v, σ[i]? = some (some v) ∧ (∃ F d0 S, (∀ a o, F a = some o → H a = some o) ∧ Ow X.prog X.w X.K F H d0 v S ∧ chk d0 = true) ∧ tA X W as σ H fun vs H2 => r v vs H2 Q := by
  obtain ⟨F, ρ, S, o, ρ', g, hd, ho⟩ := h
  unfold eMut at hd
  split at hd
  · rename_i d0 e0
    split at hd
    · rename_i hc
      obtain ⟨v, S0, hv, o0, _⟩ := g.get e0
      refine ⟨v, hv, ⟨F, d0, S0, g.sub, o0, hc⟩, ?_⟩
      rcases bnd_inv hd with ⟨a, ρ1, h1, h2⟩ | ⟨x, h1, rfl⟩
      · refine ⟨F, ρ, S, .ok a, ρ1, g, h1, fun vs F1 H1 T S1 st g1 oa nd fr => ?_⟩
        split at h2
        · rename_i ds d e1 e2
          split at h2
          · rename_i rd d' e3
            simp only [Option.some.injEq, Prod.mk.injEq] at h2
            obtain ⟨rfl, rfl⟩ := h2
            have ol := oa.dts e1
            obtain ⟨v', Sd, R, hv', od, p, g2⟩ := g1.take e2
            rw [hv] at hv'
            have ev := Option.some.inj (Option.some.inj hv')
            subst ev
            have nS := List.nodup_append.mp (p.nodup_iff.mp g1.nd)
            have n0 := List.nodup_append.mp nd
            have inS : ∀ a ∈ Sd, a ∈ S1 := fun a ha => p.mem_iff.mpr (List.mem_append_left _ ha)
            have inR : ∀ a ∈ R, a ∈ S1 := fun a ha => p.mem_iff.mpr (List.mem_append_right _ ha)
            have nd1 : (Sd ++ T).Nodup := List.nodup_append.mpr ⟨nS.1, n0.1, fun a h1 b h2 e => n0.2.2 b h2 a (inS a h1) e.symm⟩
            have disR : ∀ a ∈ R, a ∉ Sd ++ T := fun a h1 h2 => by
              rcases List.mem_append.mp h2 with q | q
              · exact nS.2.2 a q a h1 rfl
              · exact n0.2.2 a q a (inR a h1) rfl
            refine hm F1 H1 d v Sd ds vs T rd d' Q g1.sub od ol nd1 (fun a ha => (List.mem_append.mp ha).elim (fun q => g1.fr a (inS a q)) (fr a)) e3 fun u F2 H2 R2 S2 s2 sub2 ou od2 nd2 fr2 => ?_
            have g3 := g2.step s2 sub2 disR
            have dis2 : ∀ a ∈ R2 ++ S2, a ∉ R := fun a h1 h2 => by
              rcases s2.snew a h1 with q | q
              · exact disR a h2 q
              · exact q (g2.env.inH a h2).there
            have n2 := List.nodup_append.mp nd2
            have nd3 : (S2 ++ R).Nodup := List.nodup_append.mpr ⟨n2.2.1, g2.nd, fun a h1 b h2 e => dis2 a (List.mem_append_right _ h1) (e ▸ h2)⟩
            obtain ⟨S4, g4, h4⟩ := g3.put hv od2 nd3 fun a ha => fr2 a (List.mem_append_right _ ha)
            rw [List.set_set] at g4
            have st2 : Step F1 (T ++ S1) H1 F2 (R2 ++ S4) H2 := ((s2.beside (R := R)).more fun x hx => by
              rcases List.mem_append.mp hx with q | q
              · rcases List.mem_append.mp q with q | q
                · exact List.mem_append_right _ (inS x q)
                · exact List.mem_append_left _ q
              · exact List.mem_append_right _ (inR x q)).less fun x hx => by
              rcases List.mem_append.mp hx with q | q
              · exact List.mem_append_left _ (List.mem_append_left _ q)
              · rcases List.mem_append.mp (h4 x q) with q | q
                · exact List.mem_append_left _ (List.mem_append_right _ q)
                · exact List.mem_append_right _ q
            refine ho u F2 H2 R2 S4 (st.trans st2) g4 ou ?_ fun a ha => fr2 a (List.mem_append_left _ ha)
            refine List.nodup_append.mpr ⟨n2.1, g4.nd, fun a h1 b h2 e => ?_⟩
            subst e
            rcases List.mem_append.mp (h4 a h2) with q | q
            · exact n2.2.2 a h1 a q rfl
            · exact dis2 a (List.mem_append_left _ h1) q
          · cases h2
        · cases h2
      · exact ⟨F, ρ, S, .error x, ρ', g, h1, ho⟩
    · cases hd
  · cases hd
/-- a list's method upon the list that a slot owns -/
def isOl : Dat → Bool
  | .ol _ => true
  | _ => false
theorem pd_lmeth {name : Str} {id : String} {r : V → List V → Hp → VK → Prop} {f : Dat → List Dat → Option (Dat × Dat)} {x : Str} {p apos cpos : Pos} {i : Nat} {e : Expr} {es : List Expr} {as : DA} (slot : Slot "list" name id) (hty : typeOf (.builtin id) = pure (.type "method_descriptor")) (hm : MtR X id r) (hf : MO X r f)
    (ho : PE X (.Name x p) (tVar i)) (ha : PDA X W (e :: es) as) (hbase : attributeBase (.Name x p) name X.env (eval (.Name x p) X.env) = eval (.Name x p) X.env := by rfl)
    (hfew : ((backTo cpos (starEach (e :: es) X.env)).all (fun x => !x.1) && (backToKw cpos (keywordEach [] X.env)).all (fun x => x.1.isSome)
      && decide ((e :: es).length + ([] : List Keyword).length + (if ([] : List Keyword).isEmpty then 0 else 1) < 30)) = true := by rfl)
    (hline : (apos.endLine == cpos.line) = true := by rfl) (hs : starEach (e :: es) X.env = (false, eval e X.env) :: starEach es X.env := by rfl) (hplain : (backTo cpos (starEach es X.env)).any (·.1) = false := by rfl) :
    PD X W (.Call (.Attribute (.Name x p) name apos) (e :: es) [] cpos) (eMut i isOl f as) := PE.imp (pe_bm PySem.F.plainAttrs_list slot hty hm ho ha hbase hfew hline hs hplain) fun σ H Q h => by
  obtain ⟨v, hv, ⟨F, d0, S, hs, o, hc⟩, q⟩ := mut_use hf h
  cases d0 <;> simp [isOl] at hc
  obtain ⟨a, vs, S1, rfl, hH, _⟩ := o.ol_inv
  exact ⟨_, hv, .inl ⟨rfl, vs, SqL.of hH⟩, q⟩
/-- the list at a changed -/
theorem mut_step {a : Addr} {o' u : HO} {Sd Sd' T : List Addr} (hk : Kept a o') (hk2 : Kept a u) (hs : ∀ b o, F b = some o → H b = some o) (ha : H a = some o') (hfa : F a = none) (hin : a ∈ Sd) (hsub : ∀ x ∈ Sd', x ∈ Sd ++ T) : Step F (Sd ++ T) H F Sd' (upd H a u) ∧ ∀ b o, F b = some o → upd H a u b = some o := by
  refine ⟨⟨fun _ _ e => e, fun _ _ e => .inl e, fun x hx => .inl (hsub x hx), fun b o e hb _ => ?_, fun b ⟨o, e, t⟩ => ?_, fun t => tabs_upd t ha hk, fun t => t⟩, fun b o e => ?_⟩
  · rw [upd_ne fun z => hb (by rw [z]; exact List.mem_append_left _ hin)]; exact e
  · by_cases z : b = a
    · exact ⟨u, by rw [z]; exact upd_same, kept_tbl hk2⟩
    · exact ⟨o, by rw [upd_ne z]; exact e, t⟩
  · rw [upd_ne fun z => by rw [z, hfa] at e; cases e]; exact hs b o e
def fAppend : Dat → List Dat → Option (Dat × Dat)
  | .ol ds, [d] => if ds.length ≤ 1000000 then some (.non, .ol (ds ++ [d])) else none
  | _, _ => none
theorem mo_append : MO X rAppend fAppend := by
  intro F H d v Sd ds vs T rd d' Q hs od ol nd fr e k
  unfold fAppend at e
  split at e
  · rename_i es y
    split at e
    · rename_i hl
      simp only [Option.some.injEq, Prod.mk.injEq] at e
      obtain ⟨rfl, rfl⟩ := e
      obtain ⟨a, xs, S0, rfl, hH, lx, rfl⟩ := od.ol_inv
      obtain ⟨u, ws, T1, T2, rfl, rfl, oy, ol2⟩ := ol.cons_inv
      obtain ⟨rfl, rfl⟩ := ol2.nil_inv
      rw [List.append_nil] at *
      have hfa := fr a (List.mem_append_left _ (List.mem_cons_self ..))
      refine ⟨a, xs, u, rfl, rfl, hH, by rw [← lx.length]; exact Nat.lt_of_le_of_lt hl million, ?_⟩
      obtain ⟨st, sub⟩ := mut_step (u := .lst (xs ++ [u])) (.inl ⟨_, rfl⟩) (.inl ⟨_, rfl⟩) (T := T1) (Sd' := a :: (S0 ++ T1)) hs hH hfa (List.mem_cons_self ..) fun x hx => by simpa using hx
      have n1 := List.nodup_cons.mp (show (a :: (S0 ++ T1)).Nodup from nd)
      have ne : ∀ b ∈ S0 ++ T1, b ≠ a := fun b hb z => n1.1 (z ▸ hb)
      refine k .non F _ [] (a :: (S0 ++ T1)) st sub .non (.ol upd_same ?_) nd fr
      refine (lx.mono (fun _ _ e => e) fun b hb => upd_ne (ne b (List.mem_append_left _ hb))).app ?_
      have := OwL.cons (oy.mono (H' := upd H a (.lst (xs ++ [u]))) (fun _ _ e => e) fun b hb => upd_ne (ne b (List.mem_append_right _ hb))) .nil
      simpa using this
    · cases e
  · cases e
/-- extend, by what is frozen too -/
def rExtendR : V → List V → Hp → VK → Prop := fun x vs H Q => ∃ l b xs zs, x = .ref l ∧ vs = [.ref b] ∧ H l = some (.lst xs) ∧ Rd H b (.lst zs) ∧ xs.length + zs.length ≤ sizeLine ∧ Q .non (upd H l (.lst (xs ++ zs)))
theorem mt_extendR : MtR X "list.extend" rExtendR := by
  intro pins s σ H x vs v us Q I rx rv h
  obtain ⟨l, b, xs, zs, rfl, rfl, hH, hB, hz, q⟩ := h
  cases rx
  obtain ⟨u, rfl, ru⟩ := rv.one
  cases ru
  obtain ⟨z, its, n, r, hl, e⟩ := I.lstM hH
  obtain ⟨z2, its2, n2, r2, e2⟩ := (show ObjOk X.prog X.w H s.heap b (.lst zs) from hB.ok I.hok)
  have hl2 := r2.length
  have hsz : its.toArray.size + its2.toArray.size ≤ sizeLine := by rw [List.size_toArray, List.size_toArray]; omega
  have hlong : ¬ (!its.toArray.isEmpty && Builtin.List.listTooLong (its.toArray.size + its2.toArray.size)) = true := by
    rw [notLongL hsz, Bool.and_false]
    exact Bool.false_ne_true
  refine call_meets F.slot_list_extend ⟨_, e, rfl⟩ F.entry_list_extend (F.args_list_extend_2 _ _)
    (AutoSeq1.list_extend_list_list_0 l its.toArray n b its2.toArray n2 hlong (by rw [List.size_toArray]; omega) (by omega)) ⟨e, e2, ?_⟩
  refine ⟨.non, _, I.lset (its' := its ++ its2) hH e (by simp) (r.append r2) ?_, rfl, q⟩
  rw [List.length_append]
  omega
def fExtend : Dat → List Dat → Option (Dat × Dat)
  | .ol ds, [c] => match lit c with
    | some es => if ds.length + es.length ≤ 1000000 then some (.non, .ol (ds ++ es)) else none
    | none => none
  | _, _ => none
theorem mo_extend : MO X rExtendR fExtend := by
  intro F H d v Sd ds vs T rd d' Q hs od ol nd fr e k
  unfold fExtend at e
  split at e
  · rename_i es c
    split at e
    · rename_i zs ec
      split at e
      · rename_i hl
        simp only [Option.some.injEq, Prod.mk.injEq] at e
        obtain ⟨rfl, rfl⟩ := e
        obtain ⟨a, xs, S0, rfl, hH, lx, rfl⟩ := od.ol_inv
        obtain ⟨u, ws, T1, T2, rfl, rfl, oy, ol2⟩ := ol.cons_inv
        obtain ⟨rfl, rfl⟩ := ol2.nil_inv
        rw [List.append_nil] at *
        -- the list that is added: its items lie at T2
        obtain ⟨b, us, T2, rfl, hB, lz, hT, hnd⟩ : ∃ b us T2, u = .ref b ∧ Rd H b (.lst us) ∧ OwL X.prog X.w X.K F H zs us T2 ∧ (∀ x ∈ T2, x ∈ T1) ∧ T2.Nodup := by
          have n1 := (List.nodup_append.mp nd).2.1
          cases c <;> simp [lit] at ec
          · subst ec
            obtain ⟨b, us, rfl, h1, h2, rfl⟩ := oy.lst_inv
            exact ⟨b, us, [], rfl, Rd.mono hs h1, h2, (fun _ q => nomatch q), List.nodup_nil⟩
          · subst ec
            obtain ⟨b, us, S2, rfl, h1, h2, rfl⟩ := oy.ol_inv
            exact ⟨b, us, S2, rfl, .inl h1, h2, fun x hx => List.mem_cons_of_mem _ hx, (List.nodup_cons.mp n1).2⟩
        have hfa := fr a (List.mem_append_left _ (List.mem_cons_self ..))
        refine ⟨a, b, xs, us, rfl, rfl, hH, hB, by rw [← lx.length, ← lz.length]; exact Nat.le_trans hl (Nat.le_of_lt million), ?_⟩
        have hin : ∀ x ∈ a :: (S0 ++ T2), x ∈ a :: S0 ++ T1 := fun x hx => by
          rcases List.mem_cons.mp hx with q | q
          · rw [q]; simp
          · rcases List.mem_append.mp q with q | q
            · exact List.mem_append_left _ (List.mem_cons_of_mem _ q)
            · exact List.mem_append_right _ (hT x q)
        obtain ⟨st, sub⟩ := mut_step (u := .lst (xs ++ us)) (.inl ⟨_, rfl⟩) (.inl ⟨_, rfl⟩) (T := T1) (Sd' := a :: (S0 ++ T2)) hs hH hfa (List.mem_cons_self ..) hin
        have n1 := List.nodup_cons.mp (show (a :: (S0 ++ T1)).Nodup from nd)
        have n2 := List.nodup_append.mp n1.2
        have nd2 : (a :: (S0 ++ T2)).Nodup := List.nodup_cons.mpr ⟨fun hm => n1.1 ((List.mem_append.mp hm).elim (List.mem_append_left _) fun q => List.mem_append_right _ (hT a q)), List.nodup_append.mpr ⟨n2.1, hnd, fun x h1 y h2 => n2.2.2 x h1 y (hT y h2)⟩⟩
        have ne : ∀ b ∈ S0 ++ T2, b ≠ a := fun b hb z => (List.nodup_cons.mp nd2).1 (z ▸ hb)
        refine k .non F _ [] (a :: (S0 ++ T2)) st sub .non (.ol upd_same ?_) nd2 fun x hx => fr x (hin x hx)
        exact (lx.mono (fun _ _ e => e) fun b hb => upd_ne (ne b (List.mem_append_left _ hb))).app (lz.mono (fun _ _ e => e) fun b hb => upd_ne (ne b (List.mem_append_right _ hb)))
      · cases e
    · cases e
  · cases e
theorem OwL.erase {P : Program} {w : World} {K : PySem.W.Frag} {F H : Hp} : ∀ {ds : List Dat} {vs : List V} {S : List Addr} {k : Nat} {d : Dat}, OwL P w K F H ds vs S → ds[k]? = some d →
    ∃ v S1 S2, vs[k]? = some v ∧ Ow P w K F H d v S1 ∧ OwL P w K F H (ds.eraseIdx k) (vs.eraseIdx k) S2 ∧ S.Perm (S1 ++ S2)
  | _, _, _, _, _, .nil, e => by simp at e
  | _, _, _, 0, _, .cons o l, e => by
    simp at e; subst e
    exact ⟨_, _, _, rfl, o, l, List.Perm.refl _⟩
  | _, _, _, k + 1, d, @OwL.cons _ _ _ _ _ _ d0 v0 ds vs S T o l, e => by
    obtain ⟨v, S1, S2, h1, h2, h3, h4⟩ := OwL.erase (k := k) l (by simpa using e)
    refine ⟨v, S1, S ++ S2, by simpa using h1, h2, .cons o h3, ?_⟩
    refine (List.Perm.append_left S h4).trans ?_
    rw [← List.append_assoc, ← List.append_assoc]
    exact List.Perm.append_right S2 List.perm_append_comm
def fPopAt : Dat → List Dat → Option (Dat × Dat)
  | .ol ds, [.int i] => if -(2 ^ 63) ≤ i ∧ i < 2 ^ 63 then match seqIndex? i ds.length with
      | some k => match ds[k]? with
        | some d => some (d, .ol (ds.eraseIdx k))
        | none => none
      | none => none
    else none
  | _, _ => none
/-- an item taken out -/
theorem pop_core {a : Addr} {es : List Dat} {xs : List V} {S0 T : List Addr} {k : Nat} {d : Dat} {Q : VK} (hs : ∀ b o, F b = some o → H b = some o) (hH : H a = some (.lst xs)) (lx : OwL X.prog X.w X.K F H es xs S0) (nd : (a :: S0 ++ T).Nodup) (fr : ∀ x ∈ a :: S0 ++ T, F x = none) (hd : es[k]? = some d)
    (kk : ∀ u F' H' R S', Step F (a :: S0 ++ T) H F' (R ++ S') H' → (∀ a o, F' a = some o → H' a = some o) → Ow X.prog X.w X.K F' H' d u R → Ow X.prog X.w X.K F' H' (.ol (es.eraseIdx k)) (.ref a) S' → (R ++ S').Nodup → (∀ a ∈ R ++ S', F' a = none) → Q u H') :
    ∃ v, xs[k]? = some v ∧ Q v (upd H a (.lst (xs.eraseIdx k))) := by
  obtain ⟨v, S1, S2, h1, h2, h3, p⟩ := lx.erase hd
  have hfa := fr a (List.mem_append_left _ (List.mem_cons_self ..))
  have n0 := List.nodup_cons.mp (show (a :: (S0 ++ T)).Nodup from nd)
  have nS := p.nodup_iff.mp (List.nodup_append.mp n0.2).1
  have in1 : ∀ x ∈ S1 ++ S2, x ∈ S0 := fun x hx => p.mem_iff.mpr hx
  have ne : ∀ b ∈ S1 ++ S2, b ≠ a := fun b hb z => n0.1 (List.mem_append_left _ (in1 a (z ▸ hb)))
  have hin : ∀ x ∈ S1 ++ (a :: S2), x ∈ a :: S0 ++ T := fun x hx => by
    rcases List.mem_append.mp hx with q | q
    · exact List.mem_append_left _ (List.mem_cons_of_mem _ (in1 x (List.mem_append_left _ q)))
    · rcases List.mem_cons.mp q with q | q
      · rw [q]; simp
      · exact List.mem_append_left _ (List.mem_cons_of_mem _ (in1 x (List.mem_append_right _ q)))
  obtain ⟨st, sub⟩ := mut_step (u := .lst (xs.eraseIdx k)) (.inl ⟨_, rfl⟩) (.inl ⟨_, rfl⟩) (T := T) (Sd' := S1 ++ (a :: S2)) hs hH hfa (List.mem_cons_self ..) hin
  refine ⟨v, h1, kk v F _ S1 (a :: S2) st sub (h2.mono (fun _ _ e => e) fun b hb => upd_ne (ne b (List.mem_append_left _ hb))) (.ol upd_same (h3.mono (fun _ _ e => e) fun b hb => upd_ne (ne b (List.mem_append_right _ hb)))) ?_ fun x hx => fr x (hin x hx)⟩
  refine (List.perm_middle (l₁ := S1) (l₂ := S2) (a := a)).nodup_iff.mpr (List.nodup_cons.mpr ⟨fun hm => ne a hm rfl, nS⟩)
theorem mo_popAt : MO X rPopAt fPopAt := by
  intro F H d v Sd ds vs T rd d' Q hs od ol nd fr e k
  unfold fPopAt at e
  split at e
  · rename_i es i
    split at e
    · rename_i hi
      split at e
      · rename_i j ej
        split at e
        · rename_i d0 ed
          simp only [Option.some.injEq, Prod.mk.injEq] at e
          obtain ⟨rfl, rfl⟩ := e
          obtain ⟨a, xs, S0, rfl, hH, lx, rfl⟩ := od.ol_inv
          obtain ⟨u, S2, rfl, oi⟩ := ol.one
          obtain ⟨rfl, _⟩ := oi.int_inv
          obtain ⟨y, hy, q⟩ := pop_core hs hH lx nd fr ed k
          exact ⟨a, xs, i, j, y, rfl, rfl, hH, hi.1, hi.2, by rw [← lx.length]; exact ej, hy, q⟩
        · cases e
      · cases e
    · cases e
  · cases e
def SO (X : Cx) (t : TSet) (f : Dat → Dat → Dat → Option Dat) : Prop :=
  ∀ (F H : Hp) (d : Dat) (v : V) (Sd : List Addr) (kd : Dat) (kv : V) (B : List Addr) (dv : Dat) (vv : V) (Tv : List Addr) (d' : Dat) (Q : Hp → Prop), (∀ a o, F a = some o → H a = some o) → Ow X.prog X.w X.K F H d v Sd → Ow X.prog X.w X.K F H kd kv B → Ow X.prog X.w X.K F H dv vv Tv → (Sd ++ Tv).Nodup → (∀ a ∈ Sd ++ Tv, F a = none) →
    f d kd dv = some d' → (∀ F' H' S', Step F (Sd ++ Tv) H F' S' H' → (∀ a o, F' a = some o → H' a = some o) → Ow X.prog X.w X.K F' H' d' v S' → S'.Nodup → (∀ a ∈ S', F' a = none) → Q H') → t v kv vv H Q
def sStore (i : Nat) (f : Dat → Dat → Dat → Option Dat) (ix : DA) (e : DE) : DS := fun ρ => bndS (e ρ) fun dv ρ1 => match ρ1[i]? with
  | some (some _) => bndS (ix ρ1) fun a ρ2 => match res ρ2 a with
    | some [kd] => match ρ2[i]? with
      | some (some d) => match f d kd dv with
        | some d' => some (.nx, ρ2.set i (some d'))
        | none => none
      | _ => none
    | _ => none
  | _ => none
theorem pds_store {fix : Nat → Bool} {i : Nat} {x : Str} {p pos' : Pos} {ixe e : Expr} {c : DA → DA} {de : DE} {t : TSet} {f : Dat → Dat → Dat → Option Dat} (ho : PE X (.Name x p) (tVar i)) (hix : P1 X W ixe c) (he : PD X W e de) (hs : PSet X t) (hf : SO X t f)
    (ha : ∀ v, assign (.Subscript (.Name x p) ixe pos') X.env v = (do
      let ov ← holding [v] (eval (.Name x p) X.env)
      let iv ← holding [v, ov] (eval ixe X.env)
      standAt pos'
      holding [v, ov, iv] (setItem ov iv v)
      release [v, ov, iv] []) := by intro _; rfl)
    (hs1 : swapsWithSole [.Subscript (.Name x p) ixe pos'] e pos.line X.env = pure false := by rfl) (hw : swappedStores [.Subscript (.Name x p) ixe pos'] e X.env = pure none := by rfl)
    (h1 : (assignEach [.Subscript (.Name x p) ixe pos'] X.env).map (·.2) = [assign (.Subscript (.Name x p) ixe pos') X.env] := by rfl) :
    PDS X W fix (.Assign [.Subscript (.Name x p) ixe pos'] e pos) (sStore i f (c aNil) de) := by
  obtain ⟨ti, pi', qa, ma⟩ := hix
  refine PS.imp (ps_asg he (pg_sub ho pi' hs ha) hs1 hw h1) fun D σ H h => tE_bndS h fun dv v F1 H1 T S1 ρ1 o ρ' g1 o1 nd fr hd ho => ?_
  split at hd
  · rename_i d0 e0
    obtain ⟨ov, S0, hov, _, _⟩ := g1.get e0
    have key : tA X W (c aNil) σ H1 (fun vs H2 => ∃ iv, vs = [iv] ∧ t ov iv v H2 fun H3 => D.nx σ H3) := ?_
    · refine ⟨ov, hov, ma _ _ _ _ (fun iv H2 q => ?_) (qa aNil σ H1 _ key)⟩
      obtain ⟨iv', e, q2⟩ := tA_nil q
      simp only [List.cons.injEq, and_true] at e
      subst e
      exact q2
    · rcases bndS_inv hd with ⟨a, ρ2, h1, h2⟩ | ⟨x, h1, rfl⟩
      · refine ⟨F1, ρ1, S1, .ok a, ρ2, g1, h1, fun vs F2 H2 T2 S2 st g2 oa nd2 fr2 => ?_⟩
        split at h2
        · rename_i kd ek
          split at h2
          · rename_i d ed
            split at h2
            · rename_i d' ef
              simp only [Option.some.injEq, Prod.mk.injEq] at h2
              obtain ⟨rfl, rfl⟩ := h2
              obtain ⟨B, olk⟩ := res_ok g2 oa ek
              obtain ⟨iv, S3, rfl, ok⟩ := olk.one
              refine ⟨iv, rfl, ?_⟩
              have tw : Two X F1 F1 H1 H1 (T ++ S1) T S1 := ⟨Step.refl, nd, fr, o1.inH⟩
              obtain ⟨a1, a2, a3, a4, a5⟩ := tw.next st nd2 fr2
              have o1' := o1.mono st.fsub a4
              obtain ⟨v', Sd, R, hv', od, pp, g3⟩ := g2.take ed
              rw [hov] at hv'
              have ev := Option.some.inj (Option.some.inj hv')
              subst ev
              have nS := List.nodup_append.mp (pp.nodup_iff.mp g2.nd)
              have inS : ∀ a ∈ Sd, a ∈ S2 := fun a ha => pp.mem_iff.mpr (List.mem_append_left _ ha)
              have inR : ∀ a ∈ R, a ∈ S2 := fun a ha => pp.mem_iff.mpr (List.mem_append_right _ ha)
              have na := List.nodup_append.mp a2
              have disT : ∀ a ∈ T, a ∉ S2 := fun a h1 h2 => na.2.2 a (List.mem_append_left _ h1) a h2 rfl
              have nT := (List.nodup_append.mp na.1).1
              have ndd : (Sd ++ T).Nodup := List.nodup_append.mpr ⟨nS.1, nT, fun a h1 b h2 e => disT b h2 (e ▸ inS a h1)⟩
              have disR : ∀ a ∈ R, a ∉ Sd ++ T := fun a h1 h2 => by
                rcases List.mem_append.mp h2 with q | q
                · exact nS.2.2 a q a h1 rfl
                · exact disT a q (inR a h1)
              refine hf F2 H2 d ov Sd kd iv S3 dv v T d' _ g2.sub od ok o1' ndd (fun a ha => (List.mem_append.mp ha).elim (fun q => g2.fr a (inS a q)) fun q => a5 a q) ef fun F3 H3 S4 s3 sub3 od3 nd3 fr3 => ?_
              have g4 := g3.step s3 sub3 disR
              have dis4 : ∀ a ∈ S4, a ∉ R := fun a h1 h2 => by
                rcases s3.snew a h1 with q | q
                · exact disR a h2 q
                · exact q (g3.env.inH a h2).there
              have nd4 : (S4 ++ R).Nodup := List.nodup_append.mpr ⟨nd3, g4.nd, fun a h1 b h2 e => dis4 a h1 (e ▸ h2)⟩
              obtain ⟨S5, g5, h5⟩ := g4.put hov od3 nd4 fr3
              rw [List.set_set] at g5
              have st3 : Step F2 (T ++ T2 ++ S2) H2 F3 S5 H3 := ((s3.beside (R := R)).more fun x hx => by
                rcases List.mem_append.mp hx with q | q
                · rcases List.mem_append.mp q with q | q
                  · exact List.mem_append_right _ (inS x q)
                  · exact List.mem_append_left _ (List.mem_append_left _ q)
                · exact List.mem_append_right _ (inR x q)).less fun x hx => h5 x hx
              exact ho σ F3 H3 S5 (a1.trans st3) g5 Fixed.refl
            · cases h2
          · cases h2
        · cases h2
      · refine ⟨F1, ρ1, S1, .error x, ρ', g1, h1, ?_⟩
        exact (ho σ Fixed.refl).after (Step.refl.less fun y hy => List.mem_append_right _ hy)
  · cases hd
def imAt (ds : List Dat) (j : Nat) : Bool := match ds[j]? with
  | some e => im e
  | none => false
def fSetL : Dat → Dat → Dat → Option Dat
  | .ol ds, .int i, d => match ixN ds.length i with
    | some j => if imAt ds j = true then some (.ol (ds.set j d)) else none
    | none => none
  | _, _, _ => none
theorem OwL.setAt {P : Program} {w : World} {K : PySem.W.Frag} {F H : Hp} : ∀ {ds : List Dat} {vs : List V} {S : List Addr} {k : Nat} {d e : Dat} {v : V} {T : List Addr}, OwL P w K F H ds vs S → ds[k]? = some e → im e = true → Ow P w K F H d v T →
    ∃ S', OwL P w K F H (ds.set k d) (vs.set k v) S' ∧ S'.Perm (S ++ T)
  | _, _, _, _, _, _, _, _, .nil, e, _, _ => by simp at e
  | _, _, _, 0, _, _, v, T, @OwL.cons _ _ _ _ _ _ d0 v0 ds vs S S2 o l, e, hi, o' => by
    simp at e; subst e
    have := o.im_nil hi
    subst this
    exact ⟨T ++ S2, .cons o' l, by simpa using List.perm_append_comm⟩
  | _, _, _, k + 1, d, _, v, T, @OwL.cons _ _ _ _ _ _ d0 v0 ds vs S S2 o l, e, hi, o' => by
    obtain ⟨S', h1, h2⟩ := OwL.setAt (k := k) l (by simpa using e) hi o'
    exact ⟨S ++ S', .cons o h1, by rw [List.append_assoc]; exact List.Perm.append_left S h2⟩
theorem so_list : SO X rSetL fSetL := by
  intro F H d v Sd kd kv B dv vv Tv d' Q hs od ok ov nd fr e k
  unfold fSetL at e
  split at e
  · rename_i es i
    split at e
    · rename_i j ej
      split at e
      · rename_i him
        have e' := Option.some.inj e
        subst e'
        obtain ⟨a, xs, S0, rfl, hH, lx, rfl⟩ := od.ol_inv
        obtain ⟨rfl, _⟩ := ok.int_inv
        unfold imAt at him
        split at him
        · rename_i e0 he0
          have hfa := fr a (List.mem_append_left _ (List.mem_cons_self ..))
          have n0 := List.nodup_cons.mp (show (a :: (S0 ++ Tv)).Nodup from nd)
          obtain ⟨S', h1, p⟩ := lx.setAt he0 him ov
          have ne : ∀ b ∈ S', b ≠ a := fun b hb z => n0.1 (p.mem_iff.mp (z ▸ hb))
          have hin : ∀ x ∈ a :: S', x ∈ a :: S0 ++ Tv := fun x hx => by
            rcases List.mem_cons.mp hx with q | q
            · rw [q]; simp
            · exact List.mem_cons_of_mem _ (p.mem_iff.mp q)
          obtain ⟨st, sub⟩ := mut_step (u := .lst (xs.set j vv)) (.inl ⟨_, rfl⟩) (.inl ⟨_, rfl⟩) (T := Tv) (Sd' := a :: S') hs hH hfa (List.mem_cons_self ..) hin
          refine ⟨a, xs, i, j, rfl, rfl, hH, by rw [← lx.length]; exact ej, k F _ (a :: S') st sub (.ol upd_same (h1.mono (fun _ _ e => e) fun b hb => upd_ne (ne b hb))) ?_ fun x hx => fr x (hin x hx)⟩
          exact List.nodup_cons.mpr ⟨fun hm => ne a hm rfl, p.nodup_iff.mpr n0.2⟩
        · cases him
      · cases e
    · cases e
  · cases e
end
end B
set_option Elab.async false
set_option linter.all false
set_option maxRecDepth 100000
namespace B
open PySem PySem.Spec PyProof.Rows L2
variable [TabT]
/-- the places of a slice -/
def pickIx (lo hi st : Option Int) (n : Nat) : List Nat := sliceRange (sliceBounds lo hi st n).1 (sliceBounds lo hi st n).2.1 (sliceBounds lo hi st n).2.2
def pickL {α : Type} (xs : List α) (lo hi st : Option Int) : List α := (pickIx lo hi st xs.length).filterMap (xs[·]?)
theorem pick_list (its : List Value) (lo hi st : Option Int) : slicePick its.toArray lo hi st = (pickL its lo hi st).toArray := by
  unfold slicePick pickL pickIx
  rw [List.size_toArray]
  simp
theorem pick_vals {xs : List V} {us : List Value} (r : Vals xs us) : ∀ l : List Nat, Vals (l.filterMap (xs[·]?)) (l.filterMap (us[·]?))
  | [] => .nil
  | i :: l => by
    rw [List.filterMap_cons, List.filterMap_cons]
    cases q : xs[i]? with
    | none =>
      have : us[i]? = none := r.none_of q
      rw [this]; exact pick_vals r l
    | some x =>
      obtain ⟨u, hu, ru⟩ := r.get q
      rw [hu]; exact .cons ru (pick_vals r l)
theorem pickL_le {α : Type} (xs : List α) (lo hi st : Option Int) (f : α → Value) : (pickL xs lo hi st).length ≤ xs.length := by
  have h := slicePick_size_le (xs.map f).toArray lo hi st
  rw [pick_list, List.size_toArray, List.size_toArray, List.length_map] at h
  have e : (pickL (xs.map f) lo hi st).length = (pickL xs lo hi st).length := by
    unfold pickL
    rw [List.length_map]
    generalize pickIx lo hi st xs.length = l
    induction l with
    | nil => rfl
    | cons i l ih =>
      rw [List.filterMap_cons, List.filterMap_cons, List.getElem?_map]
      cases xs[i]? with
      | none => exact ih
      | some x => simp only [Option.map_some, List.length_cons]; rw [ih]
  rw [← e]; exact h
section
variable {X : Cx} {F F1 F' H H1 H' : Hp} {σ σ1 : L2.St} {ρ ρ' : Ev} {S S1 S' T T' : List Addr} {W : WX} {pos : Pos}
variable {P : Program} {w : World} {K : PySem.W.Frag}
def SlR3 (X : Cx) (r : V → Option Int → Option Int → Option Int → Hp → VK → Prop) : Prop :=
  ∀ (pins : List (Addr × Obj)) (s : Shared) (σ : L2.St) (H : Hp) (x : V) (v vl vu vs : Value) (lo hi st : Option Int) (sl : Addr) (Q : VK), Inv X pins σ H s → RelV x v → s.heap.IsSliceOf sl vl vu vs → IsPart vl lo → IsPart vu hi → IsPart vs st → r x lo hi st H Q →
    ∃ T id, typeLookup (.type T) "__getitem__" = pure (some (.builtin id)) ∧ s.TypeIs v T ∧ wpAny (model X.prog X.w) X.A (getItem v (.ref sl)) (EP X pins σ Q) X.xe s
def tSl3 (r : V → Option Int → Option Int → Option Int → Hp → VK → Prop) (te : TE) (tl th ts : TO) : TE := fun σ H Q => te σ H fun x H1 => tl σ H1 fun l H2 => th σ H2 fun u H3 => ts σ H3 fun t H4 => r x l u t H4 Q
theorem pe_slice3 {e : Expr} {lo hi st : Option Expr} {p2 : Pos} {te : TE} {tl th ts : TO} {r : V → Option Int → Option Int → Option Int → Hp → VK → Prop} (hr : SlR3 X r) (he : PE X e te) (hl : PO X lo tl) (hu : PO X hi th) (hs : PO X st ts) (hop : (∀ v sl, subscripted (.Slice lo hi st p2) false v (.ref sl) = operate [.ref sl, v] (getItem v (.ref sl))) ∨ (∀ v sl, subscripted (.Slice lo hi st p2) false v (.ref sl) = operate [v, .ref sl] (getItem v (.ref sl))) := by first | exact Or.inl (by intro _ _; rfl) | exact Or.inr (by intro _ _; with_unfolding_all rfl)) : PE X (.Subscript e (.Slice lo hi st p2) pos) (tSl3 r te tl th ts) := by
  refine ⟨fun pins s σ H Q I h => ?_⟩
  refine Subscript_ (thn (he.run pins s σ H _ I h) fun v s1 ⟨x, H1, I1, r1, q1⟩ => ?_)
  refine wpAny_Slice (thn (hl.run pins s1 σ H1 _ I1 q1) fun vl s2 ⟨l, H2, I2, pl, q2⟩ => thn (hu.run pins s2 σ H2 _ I2 q2) fun vu s3 ⟨u, H3, I3, pu, q3⟩ => thn (hs.run pins s3 σ H3 _ I3 q3) fun vs s4 ⟨t, H4, I4', ps, q4⟩ => ?_)
  have I4 : Inv X pins σ H4 { s4 with heap := s4.heap.push { cls := .type "slice", data := .fields #[vl, vu, vs] } } := I4'.kept (t' := s4.toks) fun b ob q => Heap.get?_push_of_some _ q
  obtain ⟨T, id, hT, ht, hg⟩ := hr pins { s4 with heap := s4.heap.push { cls := .type "slice", data := .fields #[vl, vu, vs] } } σ H4 x v vl vu vs l u t s4.heap.objs.size Q I4 r1 (Heap.IsSliceOf.new ..) pl pu ps q4
  show wpAny (model X.prog X.w) X.A (subscriptTail e (.Slice lo hi st p2) v (.ref s4.heap.objs.size)) (EP X pins σ Q) X.xe { s4 with heap := s4.heap.push { cls := .type "slice", data := .fields #[vl, vu, vs] } }
  rcases hop with hop | hop
  · exact tail_any (ops := [.ref s4.heap.objs.size, v]) ht hT hg (hop _ _)
  · exact tail_any (ops := [v, .ref s4.heap.objs.size]) ht hT hg (hop _ _)
/-- of a list -/
def rSl3L (K : PySem.W.Frag) : V → Option Int → Option Int → Option Int → Hp → VK → Prop := fun x lo hi st H Q => ∃ a xs, x = .ref a ∧ SqL K H a xs ∧ st ≠ some 0 ∧ ∀ p, H p = none → Q (.ref p) (upd H p (.lst (pickL xs lo hi st)))
theorem sl3_list : SlR3 X (rSl3L X.K) := by
  intro pins s σ H x v vl vu vs lo hi st sl Q I rx hs pl pu ps h
  obtain ⟨a, xs, rfl, hx, h0, q⟩ := h
  cases rx
  obtain ⟨its, r, ht, hz⟩ := I.list hx
  have hlen := r.length
  refine ⟨"list", _, slot_list_getitem.lookup, ht.isList.typeIs, ?_⟩
  refine wpAny_getItem_list_slice ht.isList hs pl pu ps h0 ?_ (by rw [List.size_toArray] <;> omega)
  rw [pick_list]
  have rv : Vals (pickL xs lo hi st) (pickL its lo hi st) := by
    unfold pickL
    rw [hlen]
    exact pick_vals r _
  refine ⟨.ref s.heap.objs.size, _, I.laid (t' := s.toks) (o := .lst (pickL xs lo hi st)) (fun b ob q => Heap.get?_push_of_some _ q) (Nat.le_refl _) ?_, rfl, q _ (I.hok.fresh (Nat.le_refl _))⟩
  exact ⟨Nat.le_trans (pickL_le xs lo hi st fun _ => .none) hz, _, 0, rv, Heap.get?_push_size _ rfl⟩
/-- of a tuple, backwards -/
theorem sliceApplied_back {prog : Program} {w : World} {A : Around} {E : Value → Shared → Prop} {s : Shared} {sl : Addr} {t : Tok} {n : Nat} {Q : Int × Int × Nat → Shared → Prop} (hs : s.heap.IsSliceOf sl .none .none (.int (-1) t)) (h : Q ((n : Int) - 1, -1, n) s) :
    wpAny (model prog w) A (Builtin.Slice.sliceApplied (.ref sl) (pure (n : Int))) Q E s := by
  obtain ⟨os, hos, hcs, hds⟩ := id hs
  unfold Builtin.Slice.sliceApplied Builtin.Slice.sliceFields
  refine wpAny_bind (wpAny_bind (wpAny_field hos hds (x := .none) rfl (wpAny_bind (wpAny_field hos hds (x := .none) rfl (wpAny_bind (wpAny_field hos hds (x := .int (-1) t) rfl (wpAny_pure ?_)))))))
  refine wpAny_bind (slicePart_int ?_)
  show wpAny _ _ (if ((-1 : Int) == 0) = true then _ else _) _ _ s
  rw [if_neg (by decide)]
  refine wpAny_bind (slicePart_none (wpAny_bind (slicePart_none (wpAny_bind (wpAny_pure ?_)))))
  have e : Builtin.Slice.sliceAdjust none none (-1) (n : Int) = ((n : Int) - 1, -1) := rfl
  have e2 : Builtin.Slice.slicePlaces ((n : Int) - 1) (-1) (-1) = n := by
    unfold Builtin.Slice.slicePlaces
    have h1 : ¬ ((-1 : Int) > 0) := by omega
    simp only [h1, if_false]
    have h2 : -(-1 : Int) = 1 := rfl
    rw [h2, Int.ediv_one]
    split <;> omega
  show wpAny _ _ (match Builtin.Slice.sliceAdjust none none (-1) (n : Int) with | (lo, hi) => pure (lo, (-1 : Int), Builtin.Slice.slicePlaces lo hi (-1))) _ _ s
  rw [e]
  show wpAny _ _ (pure ((n : Int) - 1, (-1 : Int), Builtin.Slice.slicePlaces ((n : Int) - 1) (-1) (-1))) _ _ s
  rw [e2]
  exact wpAny_pure h
theorem fm_some {α β : Type} (f : α → Option β) (g : α → β) : ∀ l : List α, (∀ m ∈ l, f m = some (g m)) → l.filterMap f = l.map g
  | [], _ => rfl
  | a :: l, h => by rw [List.filterMap_cons, h a (List.mem_cons_self ..), List.map_cons, fm_some f g l fun m hm => h m (List.mem_cons_of_mem _ hm)]
theorem pick_back (xs : List Value) : ((List.range xs.length).filterMap fun (m : Nat) => xs.toArray[(((xs.length : Int) - 1) + (m : Int) * (-1)).toNat]?) = xs.reverse := by
  have h : ∀ m ∈ List.range xs.length, (fun (m : Nat) => xs.toArray[(((xs.length : Int) - 1) + (m : Int) * (-1)).toNat]?) m = some (xs.reverse.getD m .none) := fun m hm => by
    have hl : m < xs.length := List.mem_range.mp hm
    have e : (((xs.length : Int) - 1) + (m : Int) * (-1)).toNat = xs.length - 1 - m := by omega
    show xs.toArray[_]? = _
    rw [e, List.getElem?_toArray, List.getElem?_eq_getElem (by omega)]
    rw [List.getD_eq_getElem?_getD, List.getElem?_reverse hl, List.getElem?_eq_getElem (by omega)]
    rfl
  rw [fm_some _ (fun m => xs.reverse.getD m .none) _ h]
  apply List.ext_getElem?
  intro i
  rw [List.getElem?_map]
  by_cases hi : i < xs.length
  · rw [List.getElem?_range hi, List.getElem?_eq_getElem (show i < xs.reverse.length by simpa using hi)]
    simp [List.getD_eq_getElem?_getD, hi]
  · rw [List.getElem?_eq_none (by simpa using hi), List.getElem?_eq_none (by simpa using hi)]
    rfl
theorem getItem_tuple_back {prog : Program} {w : World} {A : Around} {E : Value → Shared → Prop} {s : Shared} {t sl : Addr} {its : List Value} {tk : Tok} {Q : Value → Shared → Prop} (ht : IsTup s.heap t its.toArray) (hs : s.heap.IsSliceOf sl .none .none (.int (-1) tk))
    (h : Q (.ref s.heap.objs.size) { s with heap := s.heap.push { cls := .type "tuple", data := .seq its.reverse.toArray } })
    (hsz : its.length ≤ sizeLine) : wpAny (model prog w) A (getItem (.ref t) (.ref sl)) Q E s := by
  have htake : sizeOk (.seq its.reverse.toArray) := by
    show its.reverse.toArray.size ≤ sizeLine
    rw [List.size_toArray, List.length_reverse]
    exact hsz
  obtain ⟨os, hos, hcs, hds⟩ := id hs
  have hTs : s.TypeIs (.ref sl) "slice" := ⟨os, hos, hcs⟩
  unfold getItem
  try with_reducible refine wpAny_holding ?_
  first | refine wpAny_bind (wpAny_pure ?_) | skip
  refine wpAny_bind (wpAny_sequenceKey ht.typeIs (by decide) ?_)
  refine wpAny_bind (wpAny_callSpecial?_slot (name := Str.ofString "__getitem__") ht.typeIs PyProof.Rows.slot_tuple_getitem
    (wpAny_call_entry PyProof.Rows.slot_tuple_getitem ht.typeIs PyProof.Rows.entry_tuple_getitem ?_ (PyProof.Rows.args_tuple_getitem _ _)))
  show wpAny _ _ (Builtin.Tuple.tupleItemsOf (.ref t) >>= _) _ _ s
  refine wpAny_bind (tupleItemsOf_ ht ?_)
  refine wpAny_bind (wpAny_typeOf hTs ?_)
  rw [if_pos (by decide)]
  refine wpAny_bind (sliceApplied_back hs ?_)
  show wpAny _ _ (if (((its.toArray.size : Int) - 1) == 0 && (-1 : Int) == 1 && its.toArray.size == its.toArray.size) = true then _ else _) _ _ s
  rw [if_neg (by simp)]
  have e : ((List.range its.toArray.size).filterMap fun (m : Nat) => its.toArray[(((its.toArray.size : Int) - 1) + (m : Int) * (-1)).toNat]?).toArray = its.reverse.toArray := by
    rw [List.size_toArray, pick_back]
  show wpAny _ _ (Builtin.Tuple.tupleExact ((List.range its.toArray.size).filterMap fun (m : Nat) => its.toArray[(((its.toArray.size : Int) - 1) + (m : Int) * (-1)).toNat]?).toArray >>= _) _ _ s
  rw [e]
  first
    | exact wpAny_bind (m := Builtin.Tuple.tupleExact _) (wpAny_newObj_type (wpAny_pure ⟨_, rfl, wpAny_pure h⟩) htake)
    | exact wpAny_bind (m := Builtin.Tuple.tupleExact _) (wpAny_newObj_type (wpAny_bind (wpAny_pure (wpAny_pure ⟨_, rfl, wpAny_pure h⟩))) htake)
    | exact wpAny_bind (wpAny_bind (m := Builtin.Tuple.tupleExact _) (wpAny_newObj_type (wpAny_pure (wpAny_pure ⟨_, rfl, wpAny_pure h⟩)) htake))
    | exact wpAny_bind (wpAny_bind (m := Builtin.Tuple.tupleExact _) (wpAny_newObj_type (wpAny_pure ⟨_, rfl, wpAny_pure h⟩) htake))
def rSl3T (K : PySem.W.Frag) : V → Option Int → Option Int → Option Int → Hp → VK → Prop := fun x lo hi st H Q => ∃ a xs, x = .ref a ∧ lo = none ∧ hi = none ∧ st = some (-1) ∧ SqT K H a xs ∧ ∀ p, H p = none → Q (.ref p) (upd H p (.tup xs.reverse))
theorem sl3_tup : SlR3 X (rSl3T X.K) := by
  intro pins s σ H x v vl vu vs lo hi st sl Q I rx hs pl pu ps h
  obtain ⟨a, xs, rfl, rfl, rfl, rfl, hx, q⟩ := h
  cases rx
  cases pl
  cases pu
  cases ps
  obtain ⟨its, r, ht, hz⟩ := I.tuple hx
  refine ⟨"tuple", _, PyProof.Rows.slot_tuple_getitem.lookup, ht.typeIs, ?_⟩
  refine getItem_tuple_back ht hs ?_ (by rw [← r.length]; exact hz)
  refine ⟨.ref s.heap.objs.size, _, I.laid (t' := s.toks) (o := .tup xs.reverse) (fun b ob q => Heap.get?_push_of_some _ q) (Nat.le_refl _) ?_, rfl, q _ (I.hok.fresh (Nat.le_refl _))⟩
  exact ⟨by rw [List.length_reverse]; exact hz, _, r.reverse, IsTup.new _ _⟩
def rSl3T1 (K : PySem.W.Frag) : V → Option Int → Option Int → Option Int → Hp → VK → Prop := fun x lo hi st H Q => st = none ∧ rSlT K x lo hi H Q
theorem sl3_tup1 : SlR3 X (rSl3T1 X.K) := by
  intro pins s σ H x v vl vu vs lo hi st sl Q I rx hs pl pu ps h
  obtain ⟨rfl, h⟩ := h
  cases ps
  exact sl_tup pins s σ H x v vl vu lo hi sl Q I rx hs pl pu h
theorem SlR3.or {r r' : V → Option Int → Option Int → Option Int → Hp → VK → Prop} (h : SlR3 X r) (h' : SlR3 X r') : SlR3 X (fun x lo hi st H Q => r x lo hi st H Q ∨ r' x lo hi st H Q) := by
  intro pins s σ H x v vl vu vs lo hi st sl Q I rx hs pl pu ps q
  rcases q with q | q
  · exact h pins s σ H x v vl vu vs lo hi st sl Q I rx hs pl pu ps q
  · exact h' pins s σ H x v vl vu vs lo hi st sl Q I rx hs pl pu ps q
def rSlA (K : PySem.W.Frag) := fun (x : V) (lo hi st : Option Int) (H : Hp) (Q : VK) => rSl3L K x lo hi st H Q ∨ rSl3T K x lo hi st H Q ∨ rSl3T1 K x lo hi st H Q
theorem sl_all : SlR3 X (rSlA X.K) := sl3_list.or (sl3_tup.or sl3_tup1)
def cutL {α : Type} (xs : List α) (lo hi : Option Int) : List α := (xs.drop (HT.sIx xs.length 0 lo)).take (HT.sIx xs.length xs.length hi - HT.sIx xs.length 0 lo)
def dCut (lo hi st : Option Int) : Dat → Option Dat
  | .lst ds => if (decide (st ≠ some 0) && ims ds) = true then some (.ol (pickL ds lo hi st)) else none
  | .ol ds => if (decide (st ≠ some 0) && ims ds) = true then some (.ol (pickL ds lo hi st)) else none
  | .tup ds => if (ims ds && decide (lo = none) && decide (hi = none) && decide (st = some (-1))) = true then some (.tup ds.reverse)
    else if (ims ds && decide (st = none) && !(decide (HT.sIx ds.length 0 lo = 0) && decide (HT.sIx ds.length ds.length hi = ds.length))) = true then some (.tup (cutL ds lo hi)) else none
  | _ => none
theorem OwL.pick {ds : List Dat} {vs : List V} (o : OwL P w K F H ds vs []) : ∀ l : List Nat, OwL P w K F H (l.filterMap (ds[·]?)) (l.filterMap (vs[·]?)) []
  | [] => .nil
  | i :: l => by
    rw [List.filterMap_cons, List.filterMap_cons]
    cases q : ds[i]? with
    | none =>
      have : vs[i]? = none := List.getElem?_eq_none (by rw [← o.length]; exact List.getElem?_eq_none_iff.mp q)
      rw [this]; exact o.pick l
    | some d =>
      obtain ⟨v, S1, hv, ov, hS⟩ := o.at q
      have e1 : S1 = [] := List.eq_nil_iff_forall_not_mem.mpr fun a ha => by simpa using hS a ha
      subst e1
      rw [hv]
      exact .cons (S := []) (T := []) ov (o.pick l)
theorem OwL.rev {ds : List Dat} {vs : List V} (o : OwL P w K F H ds vs []) : OwL P w K F H ds.reverse vs.reverse [] := by
  induction ds generalizing vs with
  | nil => obtain ⟨rfl, _⟩ := o.nil_inv; exact .nil
  | cons d ds ih =>
    obtain ⟨v, ws, S1, S2, rfl, e, o1, o2⟩ := o.cons_inv
    obtain ⟨rfl, rfl⟩ := List.append_eq_nil_iff.mp e.symm
    rw [List.reverse_cons, List.reverse_cons]
    exact (ih o2).app (S := []) (T := []) (.cons (S := []) (T := []) o1 .nil)
theorem dCut_ok {F H : Hp} {lo hi st : Option Int} {c d : Dat} {v : V} {B : List Addr} {Q : VK} (hs : ∀ a o, F a = some o → H a = some o) (o : Ow X.prog X.w X.K F H c v B) (e : dCut lo hi st c = some d)
    (k : ∀ v F' H' T, Step F [] H F' T H' → (∀ a o, F' a = some o → H' a = some o) → Ow X.prog X.w X.K F' H' d v T → T.Nodup → (∀ a ∈ T, F' a = none) → Q v H') : rSlA X.K v lo hi st H Q := by
  cases c <;> simp only [dCut] at e <;> try contradiction
  case lst ds =>
    split at e
    · rename_i hc
      rw [Bool.and_eq_true] at hc
      have e' := Option.some.inj e
      subst e'
      obtain ⟨a, vs, rfl, h1, h2, _⟩ := o.lst_inv
      refine .inl ⟨a, vs, rfl, .inl (Rd.mono hs h1), of_decide_eq_true hc.1, ro_newL hs k ?_⟩
      unfold pickL
      rw [h2.length]
      exact h2.pick _
    · cases e
  case ol ds =>
    split at e
    · rename_i hc
      rw [Bool.and_eq_true] at hc
      have e' := Option.some.inj e
      subst e'
      obtain ⟨a, vs, S1, rfl, h1, h2, _⟩ := o.ol_inv
      refine .inl ⟨a, vs, rfl, SqL.of h1, of_decide_eq_true hc.1, ro_newL hs k ?_⟩
      unfold pickL
      rw [h2.length]
      exact (h2.ims hc.2).pick _
    · cases e
  case tup ds =>
    split at e
    · rename_i hc
      simp only [Bool.and_eq_true, decide_eq_true_eq] at hc
      obtain ⟨⟨⟨hi0, rfl⟩, rfl⟩, rfl⟩ := hc
      have e' := Option.some.inj e
      subst e'
      obtain ⟨a, vs, rfl, h1, h2⟩ := o.tup_inv
      exact .inr (.inl ⟨a, vs, rfl, rfl, rfl, rfl, SqT.up hs h1, ro_newT hs k (h2.ims hi0).rev⟩)
    · split at e
      · rename_i hc
        simp only [Bool.and_eq_true, decide_eq_true_eq, Bool.not_eq_true', Bool.and_eq_false_iff, decide_eq_false_iff_not] at hc
        obtain ⟨⟨hi0, rfl⟩, hw⟩ := hc
        have e' := Option.some.inj e
        subst e'
        obtain ⟨a, vs, rfl, h1, h2⟩ := o.tup_inv
        refine .inr (.inr ⟨rfl, a, vs, rfl, SqT.up hs h1, ?_, ro_newT hs k ?_⟩)
        · rw [← h2.length]
          intro q
          rcases hw with z | z
          · exact z q.1
          · exact z q.2
        · unfold cutL
          rw [h2.length]
          exact ((h2.ims hi0).drop _).take _
      · cases e
def rSlN (K : PySem.W.Frag) (bl bh bs : Bool) : List V → Hp → VK → Prop := fun vs H Q => ∃ x lo hi st, vs = x :: (lo.toList ++ hi.toList ++ st.toList).map V.int ∧ lo.isSome = bl ∧ hi.isSome = bh ∧ st.isSome = bs ∧ rSlA K x lo hi st H Q
def dSl (bl bh bs : Bool) : List Dat → Option Dat
  | c :: ds => match bl, bh, bs, ds with
    | false, false, false, [] => dCut none none none c
    | true, false, false, [.int i] => dCut (some i) none none c
    | false, true, false, [.int i] => dCut none (some i) none c
    | true, true, false, [.int i, .int j] => dCut (some i) (some j) none c
    | false, false, true, [.int i] => dCut none none (some i) c
    | true, false, true, [.int i, .int j] => dCut (some i) none (some j) c
    | _, _, _, _ => none
  | [] => none
theorem ro_sl {bl bh bs : Bool} : RO X (rSlN X.K bl bh bs) (dSl bl bh bs) := by
  intro F H l vs B d Q hs o e k
  cases l with
  | nil => cases e
  | cons c ds =>
    obtain ⟨v, ws, S1, S2, rfl, _, oc, ol⟩ := o.cons_inv
    simp only [dSl] at e
    split at e
    · obtain ⟨rfl, _⟩ := ol.nil_inv
      exact ⟨v, none, none, none, rfl, rfl, rfl, rfl, dCut_ok hs oc e k⟩
    · obtain ⟨u, S3, rfl, oi⟩ := ol.one
      obtain ⟨rfl, _⟩ := oi.int_inv
      exact ⟨v, some _, none, none, rfl, rfl, rfl, rfl, dCut_ok hs oc e k⟩
    · obtain ⟨u, S3, rfl, oi⟩ := ol.one
      obtain ⟨rfl, _⟩ := oi.int_inv
      exact ⟨v, none, some _, none, rfl, rfl, rfl, rfl, dCut_ok hs oc e k⟩
    · obtain ⟨u, y, S3, S4, rfl, oi, oj⟩ := ol.two
      obtain ⟨rfl, _⟩ := oi.int_inv
      obtain ⟨rfl, _⟩ := oj.int_inv
      exact ⟨v, some _, some _, none, rfl, rfl, rfl, rfl, dCut_ok hs oc e k⟩
    · obtain ⟨u, S3, rfl, oi⟩ := ol.one
      obtain ⟨rfl, _⟩ := oi.int_inv
      exact ⟨v, none, none, some _, rfl, rfl, rfl, rfl, dCut_ok hs oc e k⟩
    · obtain ⟨u, y, S3, S4, rfl, oi, oj⟩ := ol.two
      obtain ⟨rfl, _⟩ := oi.int_inv
      obtain ⟨rfl, _⟩ := oj.int_inv
      exact ⟨v, some _, none, some _, rfl, rfl, rfl, rfl, dCut_ok hs oc e k⟩
    · cases e
/-- a part of a slice -/
structure PPart (X : Cx) (W : WX) (e : Option Expr) (b : Bool) (c : DA → DA) : Prop where
  ex : ∃ t, PO X e t ∧ (∀ r σ H (Q : List V → Hp → Prop), tA X W (c r) σ H Q → t σ H fun o H1 => o.isSome = b ∧ tA X W r σ H1 fun vs H2 => Q (o.toList.map V.int ++ vs) H2) ∧ ∀ (σ : L2.St) (H : Hp) (Q Q' : Option Int → Hp → Prop), (∀ v H, Q v H → Q' v H) → t σ H Q → t σ H Q'
end
end B
set_option Elab.async false
set_option linter.all false
set_option maxRecDepth 100000
namespace B
open PySem PySem.Spec PyProof.Rows L2
variable [TabT]
section
variable {X : Cx} {F F1 F' H H1 H' : Hp} {σ σ1 : L2.St} {ρ ρ' : Ev} {S S1 S' T T' : List Addr} {W : WX} {pos : Pos}
variable {P : Program} {w : World} {K : PySem.W.Frag}
def aI (de : DE) (r : DA) : DA := fun ρ => bnd (de ρ) fun d ρ1 => match d with
  | .int i => bnd (r ρ1) fun as ρ2 => some (.ok (.dt (.int i) :: as), ρ2)
  | _ => none
theorem a1_i {de : DE} {r : DA} {Q : List V → Hp → Prop} (h : tA X W (aI de r) σ H Q) : tE X W de σ H fun x H1 => ∃ i, x = .int i ∧ tA X W r σ H1 fun vs H2 => Q (.int i :: vs) H2 := by
  obtain ⟨F, ρ, S, o, ρ', g, hd, ho⟩ := h
  unfold aI at hd
  rcases bnd_inv hd with ⟨d, ρ1, h1, h2⟩ | ⟨x, h1, rfl⟩
  · refine ⟨F, ρ, S, .ok d, ρ1, g, h1, fun v F1 H1 T1 S1 st g1 o1 nd fr => ?_⟩
    split at h2
    · rename_i i
      obtain ⟨rfl, rfl⟩ := o1.int_inv
      refine ⟨i, rfl, ?_⟩
      rcases bnd_inv h2 with ⟨as, ρ2, h3, h4⟩ | ⟨x, h3, rfl⟩
      · simp only [Option.some.injEq, Prod.mk.injEq] at h4
        obtain ⟨rfl, rfl⟩ := h4
        exact ⟨F1, ρ1, S1, .ok as, ρ2, g1, h3, fun vs F2 H2 T2 S2 s2 g2 oa n2 f2 => ho (.int i :: vs) F2 H2 T2 S2 (st.trans s2) g2 (.dt (S := []) (.int i) oa) n2 f2⟩
      · refine ⟨F1, ρ1, S1, .error x, ρ', g1, h3, ?_⟩
        have ho' : errE X F S H σ ρ' x (fun c d H' => W c d σ H') := ho
        exact ho'.after st
    · cases h2
  · exact ⟨F, ρ, S, .error x, ρ', g, h1, ho⟩
theorem ppart_none : PPart X W none false id := ⟨tNoPart, po_none, fun r σ H Q h => ⟨rfl, h⟩, fun σ H Q Q' h q => h _ _ q⟩
theorem ppart_some {e : Expr} {de : DE} (h : PD X W e de) : PPart X W (some e) true (aI de) := ⟨tPart (tE X W de), po_some h, fun r σ H Q q => by
  refine mono_E X W de σ H _ _ (fun v H1 ⟨i, e, q⟩ => ⟨i, e, rfl, q⟩) (a1_i q), fun σ H Q Q' h q => mono_E X W de σ H _ _ (fun v H1 ⟨i, e, q⟩ => ⟨i, e, h _ _ q⟩) q⟩
theorem map_int_inj : ∀ {l m : List Int}, l.map V.int = m.map V.int → l = m
  | [], [], _ => rfl
  | [], b :: m, h => by cases h
  | a :: l, [], h => by cases h
  | a :: l, b :: m, h => by
    rw [List.map_cons, List.map_cons] at h
    injection h with h1 h2
    injection h1 with h1
    rw [h1, map_int_inj h2]
/-- a[lo:hi:st] -/
theorem pd_slice {e : Expr} {lo hi st : Option Expr} {p2 : Pos} {bl bh bs : Bool} {c cl ch cs : DA → DA} (he : P1 X W e c) (hl : PPart X W lo bl cl) (hh : PPart X W hi bh ch) (hs : PPart X W st bs cs)
    (hop : (∀ v sl, subscripted (.Slice lo hi st p2) false v (.ref sl) = operate [.ref sl, v] (getItem v (.ref sl))) ∨ (∀ v sl, subscripted (.Slice lo hi st p2) false v (.ref sl) = operate [v, .ref sl] (getItem v (.ref sl))) := by first | exact Or.inl (by intro _ _; rfl) | exact Or.inr (by intro _ _; with_unfolding_all rfl)) : PD X W (.Subscript e (.Slice lo hi st p2) pos) (eOp (dSl bl bh bs) (c (cl (ch (cs aNil))))) := by
  obtain ⟨te, pe, qa, ma⟩ := he
  obtain ⟨tl, pl, ql, ml⟩ := hl
  obtain ⟨th, ph, qh, mh⟩ := hh
  obtain ⟨ts, ps, qs, ms⟩ := hs
  refine PE.imp (pe_slice3 sl_all pe pl ph ps hop) fun σ H Q h => ?_
  have h1 := qa _ σ H _ (ro_use ro_sl h)
  refine ma _ _ _ _ (fun v H1 q1 => ?_) h1
  refine ml _ _ _ _ (fun l H2 q2 => ?_) (ql _ _ _ _ q1)
  obtain ⟨bl', q2⟩ := q2
  refine mh _ _ _ _ (fun u H3 q3 => ?_) (qh _ _ _ _ q2)
  obtain ⟨bh', q3⟩ := q3
  refine ms _ _ _ _ (fun t H4 q4 => ?_) (qs _ _ _ _ q3)
  obtain ⟨bs', q4⟩ := q4
  obtain ⟨x, lo', hi', st', ev, e1, e2, e3, q⟩ := tA_nil q4
  have ev' : v = x ∧ (l.toList ++ u.toList ++ t.toList) = (lo'.toList ++ hi'.toList ++ st'.toList) := by
    simp only [List.append_nil] at ev
    have e0 : v :: (l.toList ++ u.toList ++ t.toList).map V.int = x :: (lo'.toList ++ hi'.toList ++ st'.toList).map V.int := by
      rw [← ev]; simp
    injection e0 with e1 e2
    exact ⟨e1, map_int_inj e2⟩
  obtain ⟨rfl, el⟩ := ev'
  have : l = lo' ∧ u = hi' ∧ t = st' := by
    rw [← bl'] at e1; rw [← bh'] at e2; rw [← bs'] at e3
    cases l <;> cases lo' <;> cases u <;> cases hi' <;> cases t <;> cases st' <;> simp_all
  obtain ⟨rfl, rfl, rfl⟩ := this
  exact q
def rRepR : R2 := fun x y H Q => ∃ l k xs, x = .ref l ∧ y = .int k ∧ Rd H l (.lst xs) ∧ -(2 ^ 63) ≤ k ∧ k < 2 ^ 63 ∧ xs.length * k.toNat ≤ sizeLine ∧ ∀ p, H p = none → Q (.ref p) (upd H p (.lst (List.replicate k.toNat xs).flatten))
theorem op_repR : OpR X (binaryOp .Mult) rRepR := by
  intro pins s σ H x y v u Q I rx ry h
  obtain ⟨l, k, xs, rfl, rfl, hH, h1, h2, hz, q⟩ := h
  cases rx
  obtain ⟨t, rfl⟩ := ry
  obtain ⟨z, its, n, r, e⟩ := (show ObjOk X.prog X.w H s.heap l (.lst xs) from hH.ok I.hok)
  have hl := r.length
  have hlen : its.toArray.size * k.toNat ≤ sizeLine := by rw [List.size_toArray, ← hl]; exact hz
  have hcap : ¬ its.toArray.size * k.toNat > (2 ^ 63 - 1) / 8 := by
    have : (sizeLine : Nat) ≤ (2 ^ 63 - 1) / 8 := by decide
    omega
  have hfit : ¬ (!Builtin.List.listFitsIndex k) = true := by
    rw [fitsIndex_both h1 h2]
    exact Bool.false_ne_true
  have hlong : ¬ Builtin.List.listTooLong (its.toArray.size * k.toNat) = true := by
    rw [notLongL hlen]
    exact Bool.false_ne_true
  have hnew : List.foldl (fun x1 x2 => x1 ++ x2) #[] (List.replicate (if its.toArray.isEmpty = true then 0 else k.toNat) its.toArray) = (List.replicate k.toNat its).flatten.toArray := by
    have f0 : ∀ m : Nat, List.foldl (fun x1 x2 => x1 ++ x2) #[] (List.replicate m its.toArray) = (List.replicate m its).flatten.toArray := fun m => by
      have := foldl_rep its m []
      rw [List.nil_append] at this
      exact this
    rw [f0]
    cases its with
    | nil => simp
    | cons a r' => rw [if_neg (by simp)]
  refine wpAny_binaryOp_repeat_ref (T := "list") (U := "int") (by decide) ⟨_, e, rfl⟩ (fun s' => typeIs_int s' k t) noFill_list_mul F.fills_int_mul F.slot_int_rmul repeat_list F.slot_int_index.lookup
    (call_meets F.slot_int_rmul (typeIs_int s k t) F.entry_int_rmul (F.args_int_rmul_2 _ _) (int___rmul___int_list k t l its.toArray n)
      ⟨e, rfl, ⟨_, e, rfl⟩, call_meets F.slot_list_mul ⟨_, e, rfl⟩ F.entry_list_mul (F.args_list_mul_2 _ _) (AutoListH.list___mul___list_int_3 l its.toArray n k t hfit hcap hlong) ⟨e, ?_⟩⟩)
  rw [hnew]
  exact ⟨.ref _, _, I.lnew (t' := s.toks) (r.rep k.toNat) (by rw [PyProof.Rows.lm_len_rep_flat, Nat.mul_comm]; exact hz), rfl, q _ I.fresh⟩
def dRep : List Dat → Option Dat
  | [c, .int k] => match lit c with
    | some ds => if (ims ds && decide (k ≤ 100000) && decide (-100000 ≤ k) && decide (ds.length * k.toNat ≤ 1000000)) = true then some (.ol (List.replicate k.toNat ds).flatten) else none
    | none => none
  | _ => none
theorem OwL.rep {ds : List Dat} {vs : List V} (o : OwL P w K F H ds vs []) : ∀ k : Nat, OwL P w K F H (List.replicate k ds).flatten (List.replicate k vs).flatten []
  | 0 => .nil
  | k + 1 => by
    rw [List.replicate_succ, List.replicate_succ, List.flatten_cons, List.flatten_cons]
    exact o.app (S := []) (T := []) (o.rep k)
theorem ro_rep : RO X (r2 rRepR) dRep := by
  intro F H l vs B d Q hs o e k
  unfold dRep at e
  split at e
  · rename_i c k'
    split at e
    · rename_i ds el
      split at e
      · rename_i hc
        simp only [Bool.and_eq_true, decide_eq_true_eq] at hc
        obtain ⟨⟨⟨h1, h2⟩, h3⟩, h4⟩ := hc
        have e' := Option.some.inj e
        subst e'
        obtain ⟨v, u, S1, S2, rfl, oc, oi⟩ := o.two
        obtain ⟨rfl, _⟩ := oi.int_inv
        obtain ⟨a, us, S3, rfl, q, lo⟩ := oc.lit_inv hs el
        refine ⟨_, _, rfl, a, k', us, rfl, rfl, q, by omega, by omega, by rw [← lo.length]; exact Nat.le_trans h4 (Nat.le_of_lt million), ro_newL hs k ((lo.ims h1).rep _)⟩
      · cases e
    · cases e
  · cases e
theorem RO2.imp {r r' : R2} {f : List Dat → Option Dat} (h : RO X (r2 r) f) (i : ∀ x y H Q, r x y H Q → r' x y H Q) : RO X (r2 r') f := fun F H ds vs B d Q hs o e k => by
  obtain ⟨x, y, ex, q⟩ := h F H ds vs B d Q hs o e k
  exact ⟨x, y, ex, i _ _ _ _ q⟩
end
end B
set_option Elab.async false
set_option linter.all false
set_option maxRecDepth 100000
namespace B
open PySem
open Sem (wp)
end B
namespace B
open PySem PySem.Spec PyProof.Rows L2
end B
set_option Elab.async false
set_option linter.all false
set_option maxRecDepth 100000
namespace B
open PySem PySem.Spec PyProof.Rows L2
variable [TabT]
section
variable {X : Cx} {F F1 F' H H1 H' : Hp} {σ σ1 : L2.St} {ρ ρ' : Ev} {S S1 S' T T' : List Addr} {W : WX} {pos : Pos} {pins : List (Addr × Obj)} {s : Shared}
variable {P : Program} {w : World} {K : PySem.W.Frag}
def putN (k : NestedKey) (a : Addr) (v : V) : List (NestedKey × Addr × V) → List (NestedKey × Addr × V)
  | [] => [(k, a, v)]
  | x :: r => if x.1 = k then (x.1, x.2.1, v) :: r else x :: putN k a v r
/-- over data -/
def dPut (k : NestedKey) (kd dv : Dat) : List Dat → List Dat → List Dat × List Dat
  | x :: ks, y :: vs => if tkey x = some k then (x :: ks, dv :: vs) else ((x :: (dPut k kd dv ks vs).1), (y :: (dPut k kd dv ks vs).2))
  | _, _ => ([kd], [dv])
/-- the value that gives way (or none) may be dropped -/
def dropsIm (k : NestedKey) : List Dat → List Dat → Bool
  | x :: ks, y :: vs => if tkey x = some k then im y else dropsIm k ks vs
  | _, _ => true
theorem putN_ok {k : NestedKey} {a : Addr} {v : V} {kd dv : Dat} {Tv : List Addr} (ok : Ow P w K F H kd (.ref a) []) (ek : tkey kd = some k) (ov : Ow P w K F H dv v Tv) : ∀ {ks vs : List Dat} {kvs : List (NestedKey × Addr × V)} {S : List Addr}, KyL P w K F H ks kvs → OwL P w K F H vs (kvs.map (·.2.2)) S → dropsIm k ks vs = true →
    ∃ S', KyL P w K F H (dPut k kd dv ks vs).1 (putN k a v kvs) ∧ OwL P w K F H (dPut k kd dv ks vs).2 ((putN k a v kvs).map (·.2.2)) S' ∧ S'.Perm (S ++ Tv)
  | [], vs, _, S, .nil, o, _ => by
    cases o
    refine ⟨Tv, .cons ok ek .nil, ?_, List.Perm.refl _⟩
    have := OwL.cons ov .nil
    simpa [putN, dPut] using this
  | x :: ks, vs, (k', b, u) :: kvs, S, .cons o e l, ol, hd => by
    cases ol with
    | @cons y _ vs _ S1 S2 o1 o2 =>
      unfold putN
      simp only [dPut, dropsIm] at hd ⊢
      have hiff : (tkey x = some k) ↔ (k' = k) := by rw [e]; exact ⟨fun h => Option.some.inj h, fun h => by rw [h]⟩
      by_cases hk : k' = k
      · rw [if_pos (hiff.mpr hk)] at hd ⊢
        rw [if_pos hk]
        have := o1.im_nil hd
        subst this
        exact ⟨Tv ++ S2, .cons o e l, .cons ov o2, by simpa using List.perm_append_comm⟩
      · rw [if_neg fun h => hk (hiff.mp h)] at hd ⊢
        rw [if_neg hk]
        obtain ⟨S', h1, h2, h3⟩ := putN_ok ok ek ov l o2 hd
        exact ⟨S1 ++ S', .cons o e h1, .cons o1 h2, by rw [List.append_assoc]; exact List.Perm.append_left S1 h3⟩
end
end B
namespace B
open PySem PySem.Spec PyProof.Rows L2
variable [TabT]
section
variable {X : Cx} {F F1 F' H H1 H' : Hp} {σ σ1 : L2.St} {ρ ρ' : Ev} {S S1 S' T T' : List Addr} {W : WX} {pos : Pos} {pins : List (Addr × Obj)} {s : Shared}
variable {P : Program} {w : World} {K : PySem.W.Frag}
theorem ok_new (g : Good X.prog X.w X.K F H σ ρ S) {d : Dat} {o : HO} {Q : VK} (p : Addr) (hp : H p = none) (od : Ow X.prog X.w X.K F (upd H p o) d (.ref p) [p]) (h : okE X F S H σ ρ d Q) : Q (.ref p) (upd H p o) := by
  have st := step_new (F := F) (o := o) hp
  have hS : ∀ b ∈ S, b ≠ p := fun b hb z => by obtain ⟨u, e, _⟩ := g.env.inH b hb; rw [z, hp] at e; cases e
  refine h (.ref p) F _ [p] S ?_ (g.step st (sub_new g.sub hp) fun _ _ q => nomatch q) od (List.nodup_cons.mpr ⟨fun hm => hS p hm rfl, g.nd⟩) fun a ha => ?_
  · have := st.beside (R := S)
    simpa using this
  · simp at ha; subst ha; exact free_new g.sub hp
end
end B
set_option Elab.async false
set_option linter.all false
set_option maxRecDepth 100000
namespace B
open PySem PySem.Spec PyProof.Rows L2
end B
namespace B
open PySem PySem.Spec PyProof.Rows L2
end B
set_option Elab.async false
set_option linter.all false
set_option maxRecDepth 100000
namespace B
open PySem PySem.Spec PyProof.Rows L2
end B
set_option Elab.async false
set_option linter.all false
set_option maxRecDepth 100000
namespace B
open PySem PySem.Spec PyProof.Rows L2
variable [TabT]
/-- what __init__(self, x) keeps: self.fld = x -/
def spInit (K : PySem.W.Frag) (C : Addr) (fld : Str) : Sp := fun vs H Q E => ∃ a v, vs = [.ref a, v] ∧ OexC K C ∧ PySem.W.findIn K (.ref C) fld = some none ∧ H a = some (exo a C none) ∧ ∀ dx, H dx = none → dx ≠ a → Q .non (upd (upd H dx (exd dx [(fld, v)])) a (exo a C (some dx)))
/-- the class cn, at C, whose __init__ at fI keeps one field -/
structure ErrC (P : Program) (w : World) (K : PySem.W.Frag) (mg : Str → Option Value) (base : Heap) (k : Nat) (cn fld : Str) (C fI : Addr) : Prop where
  oex : OexC K C
  gC : mg cn = some (.ref C)
  iC : PySem.W.findIn K (.ref C) "__init__" = some (some (.ref fI))
  tI : PySem.W.typeIn K (.ref fI) = some (.type "function")
  no : PySem.W.findIn K (.ref C) fld = some none
  ini : ∃ fd ps, FnOk P w K mg base (L2.CX P w) k fI fd ps (spInit K C fld) ∧ Binds K fd ps []
section
variable {X : Cx} {F F1 F' H H1 H' : Hp} {σ σ1 : L2.St} {ρ ρ' : Ev} {S S1 S' T T' : List Addr} {W : WX} {pos : Pos} {fix : Nat → Bool}
/-- the __init__ of an own error -/
theorem ok_init {P : Program} {w : World} {K : PySem.W.Frag} {mg : Str → Option Value} {base : Heap} {qual fld : Str} {st : Stmt} {f C : Addr} {fd : FuncData} {k : Nat} (Fu : Fun K "__init__" qual st f fd) (S : FnScope ["self", fld] ["self", fld] (defScope st))
    (hb : ∀ (cdv : Value) (A : Around) (outer : List Env) (s : Shared) (H : Hp) (E : XK), ∃ p1 p2 p3 p4, defBody st = [.Assign [.Attribute (.Name "self" p1) fld p2] (.Name fld p3) p4] ∧
      PE (cxOf (L2.CX P w) P w K mg base ["self", fld] qual (defScope st) f cdv A outer s H E) (.Name "self" p1) (tVar 0) ∧ PE (cxOf (L2.CX P w) P w K mg base ["self", fld] qual (defScope st) f cdv A outer s H E) (.Name fld p3) (tVar 1) ∧
      swapsWith (.Name fld p3) (some (.Attribute (.Name "self" p1) fld p2)) p4.line (cxOf (L2.CX P w) P w K mg base ["self", fld] qual (defScope st) f cdv A outer s H E).env = pure false) :
    FnOk P w K mg base (L2.CX P w) (k + 1) f fd ["self", fld] (spInit K C fld) :=
  Fu.okX S (fun vs H Q E h => by obtain ⟨a, v, rfl, _⟩ := h; rfl) fun cdv A outer s H vs Q E hr h => by
    obtain ⟨p1, p2, p3, p4, eb, h1, h2, h3⟩ := hb cdv A outer s H E
    rw [eb]
    refine ⟨_, pss_one (ps_ost h1 h2 h3), ?_⟩
    obtain ⟨a, v, rfl, T, hno, ha, k⟩ := h
    exact ⟨v, rfl, .ref a, rfl, a, C, rfl, T, hno, .inl ⟨ha, fun dx hdx hne => k dx hdx hne⟩⟩
end
end B
set_option Elab.async false
set_option linter.all false
set_option maxRecDepth 100000
namespace B
open PySem PySem.Spec PyProof.Rows L2
end B
set_option Elab.async false
set_option linter.all false
set_option maxRecDepth 100000
namespace B
open PySem PySem.Spec PyProof.Rows L2
variable [TabT]
def gP {α : Type} (pm : List Nat) (us ws : List α) : List α := pm.filterMap ((us ++ ws)[·]?)
theorem Fun.kbn {K : PySem.W.Frag} {x qual : Str} {st : Stmt} {f : Addr} {fd : FuncData} {ps : List Str} (F : Fun K x qual st f fd) (n : Nat) (ks : List Str) (pm : List Nat)
    (h : ∀ (kV doc pmv : Value) (an : Option Addr) (cdv ct : Value) (us ws : List Value), us.length = n → ws.length = ks.length → bindArgs (PySem.W.fnOf x qual (defArgs st) (defBody st) (defScope st) .none kV doc pmv an cdv ct) ⟨us, ks.zip ws⟩ = pure (ps.zip (gP pm us ws))) : KBn K fd ps n ks (gP pm) (gP pm) := by
  obtain ⟨oc, od, kV, doc, pmv, an, cdv, ct, osl, rfl, lk, hcd⟩ := F.ex
  exact ⟨fun s us ws _ h1 h2 => .of_eq (h kV doc pmv an cdv ct us ws h1 h2), fun r1 r2 => pick_vals (r1.append r2) pm⟩
section
variable {X : Cx} {F F1 F' H H1 H' : Hp} {σ σ1 : L2.St} {ρ ρ' : Ev} {S S1 S' T T' : List Addr} {W : WX} {pos p : Pos} {CX : CXT} {k n : Nat} {f : Addr} {fd : FuncData} {ps ks : List Str} {sp : Sp} {E : L2.St → XK} {x : Str} {e : Expr} {es : List Expr} {kws : List Keyword} {t tk : TA} {pm : List Nat}
theorem OwA.len {as : List Arg} {vs : List V} (o : OwA X F H σ as vs T) : as.length = vs.length := by
  induction o with
  | nil => rfl
  | vw _ _ ih => simp [ih]
  | dt _ _ ih => simp [ih]
inductive OwZ (X : Cx) (F H : Hp) (σ : L2.St) : List (Arg × V) → List Addr → Prop
  | nil : OwZ X F H σ [] []
  | vw {i : Nat} {v : V} {l : List (Arg × V)} {S : List Addr} : σ[i]? = some (some v) → OwZ X F H σ l S → OwZ X F H σ ((.vw i, v) :: l) S
  | dt {d : Dat} {v : V} {l : List (Arg × V)} {S T : List Addr} : Ow X.prog X.w X.K F H d v S → OwZ X F H σ l T → OwZ X F H σ ((.dt d, v) :: l) (S ++ T)
theorem OwZ.a : ∀ {l : List (Arg × V)} {T : List Addr}, OwZ X F H σ l T → OwA X F H σ (l.map (·.1)) (l.map (·.2)) T
  | _, _, .nil => .nil
  | _, _, .vw h l => .vw h l.a
  | _, _, .dt h l => .dt h l.a
end
end B
set_option Elab.async false
set_option linter.all false
set_option maxRecDepth 100000
namespace B
open PySem PySem.Spec PyProof.Rows L2 LamX
variable [TabT]
section
variable {X : Cx} {W : WX} {pos p kpos : Pos} {k : Nat} {f : Addr} {fd : FuncData} {ps ks : List Str} {x : Str} {nm : Option Str} {e : Expr} {es : List Expr} {kws : List Keyword} {pm : List Nat} {D : DF}
def MonoA (t : TA) : Prop := ∀ (σ : L2.St) (H : Hp) (Q Q' : List V → Hp → Prop), (∀ v H, Q v H → Q' v H) → t σ H Q → t σ H Q'
def P1Kw (X : Cx) (W : WX) (kws : List Keyword) (c : DA → DA) : Prop := ∃ t, PK X kws t ∧ MonoA t ∧ ∀ r σ H Q, tA X W (c r) σ H Q → t σ H fun vs H1 => vs.length = kws.length ∧ tA X W r σ H1 fun us H2 => Q (vs ++ us) H2
theorem mono_tNil : MonoA tNil := fun σ H Q Q' i h => i [] H h
theorem mono_tCons {t : TE} {tr : TA} (m : Mono t) (mr : MonoA tr) : MonoA (tCons t tr) := fun σ H Q Q' i h => m σ H _ _ (fun v H1 q => mr σ H1 _ _ (fun vs H2 q => i _ _ q) q) h
theorem p1k_nil : P1Kw X W [] id := ⟨_, pk_nil, mono_tNil, fun r σ H Q h => ⟨rfl, h⟩⟩
theorem p1k_cons {c cs : DA → DA} (h1 : P1 X W e c) (h2 : P1Kw X W kws cs) : P1Kw X W (⟨nm, e, kpos⟩ :: kws) (fun r => c (cs r)) := by
  obtain ⟨t, ht, ha, hm⟩ := h1
  obtain ⟨t2, ht2, m2, ha2⟩ := h2
  exact ⟨_, pk_cons ht ht2, mono_tCons hm m2, fun r σ H Q h => hm σ H _ _ (fun v H1 q => m2 σ H1 _ _ (fun vs H2 ⟨l, q⟩ => ⟨by simp [l], q⟩) (ha2 r σ H1 _ q)) (ha _ σ H Q h)⟩
theorem Room.hu {A : Around} {k : Nat} (hr : Room k A) : A.units + 65 < cLine := by have := hr.un; omega
theorem pd_ix {a b : Expr} {ca cb : DA → DA} (hr : Room k X.A) (ha : P1 X W a ca) (hb : P1 X W b cb) (hs : PlainIx b) : PD X W (.Subscript a b pos) (eOp dIx (ca (cb aNil))) := by
  obtain ⟨ta, pa, qa, ma⟩ := ha
  obtain ⟨tb, pb, qb, mb⟩ := hb
  exact PE.imp (pe_ix (ix_all (Room.hu hr)) pa pb hs) fun σ H Q h => two_use ro_ix qa ma qb mb h
end
section
variable {X : Cx} {k : Nat}
theorem takes_def {N : List Str} {x : Str} {sc : Scope} {f : Addr} {cdv : Value} {P : Program} {w : World} {K : PySem.W.Frag} {mg : Str → Option Value} {base : Heap} {A : Around} {outer : List Env} {s : Shared} {H : Hp} {E : XK} :
    Takes (cxOf (L2.CX P w) P w K mg base N x sc f cdv A outer s H E) (fun cls d _ H => E cls d H) := takes_of rfl rfl rfl rfl
end
end B
set_option Elab.async false
set_option linter.all false
set_option maxRecDepth 100000
namespace B
open PySem PySem.Spec PyProof.Rows L2 LamX
end B
set_option Elab.async false
set_option linter.all false
set_option maxRecDepth 100000
namespace B
open PySem PySem.Spec PyProof.Rows L2 LamX
variable [TabT]
section
variable {X : Cx} {W : WX}
def rEqF [TabT] : R2 := fun x y H Q => ∃ f, x = .ref f ∧ y = .ref f ∧ f ∈ TabT.fns ∧ Q (.bl true) H
theorem op_eqF (hf : FnsOk X.K) (hu : X.A.units < cLine) : OpR X (compareOp .Eq) rEqF := by
  intro pins s σ H x y v u Q I rx ry h
  obtain ⟨f, rfl, rfl, hm, q⟩ := h
  cases rx; cases ry
  obtain ⟨o, h1, h2⟩ := hf f hm
  obtain ⟨hp, g, d, t, os⟩ := s
  exact Fn.rich_eq (I.kIn f o h1) h2 hu ⟨.bl true, H, I, rfl, q⟩
def dEqF : List Dat → Option Dat
  | [.raw (.ref f), .raw (.ref g)] => if f = g ∧ TabT.fns.contains f = true then some (.bl true) else none
  | _ => none
theorem ro_eqF : RO X (r2 rEqF) dEqF := by
  intro F H l vs B d Q hs o e k
  unfold dEqF at e
  split at e
  · split at e
    · rename_i f g hc
      have e' := Option.some.inj e
      subst e'
      obtain ⟨v, u, S1, S2, rfl, h1, h2⟩ := o.two
      obtain ⟨rfl, hm⟩ := hc
      cases h1; cases h2
      exact ⟨_, _, rfl, f, rfl, rfl, by simpa using hm, ro_fin hs k (.bl _)⟩
    · cases e
  · cases e
end
end B
set_option Elab.async false
set_option linter.all false
set_option maxRecDepth 100000
namespace B
open PySem PySem.Spec PyProof.Rows L2 LamX
variable [TabT]
def frzE (ρ : Ev) : Ev := ρ.map (Option.map frz)
/-- no object in it -/
def scal : Dat → Bool
  | .non => true
  | .bl _ => true
  | .int _ => true
  | .str _ => true
  | _ => false
def eBor (e : DE) : DE := fun ρ => match e (frzE ρ) with
  | some (.ok d, _) => if scal d = true then some (.ok d, ρ) else none
  | _ => none
def cBor (c : DT) : DT := fun ρ => match c (frzE ρ) with
  | some (.ok b, _) => some (.ok b, ρ)
  | _ => none
section
variable {X : Cx} {F F1 F' H H1 H' : Hp} {σ : L2.St} {ρ ρ' : Ev} {S S1 S' T T' : List Addr} {W : WX} {pos : Pos}
variable {P : Program} {w : World} {K : PySem.W.Frag}
theorem EnvR.freeze {Z : List Addr} (hn : ∀ a ∈ Z, F a = none) (e : EnvR P w K F H σ ρ S) (hs : ∀ a ∈ S, a ∈ Z) : EnvR P w K (putF F H Z) H σ (frzE ρ) [] := by
  induction e with
  | nil => exact .nil
  | no _ ih => exact .no (ih hs)
  | so h _ ih => exact .so (S := []) (T := []) (h.freeze hn fun a ha => hs a (List.mem_append_left _ ha)) (ih fun a ha => hs a (List.mem_append_right _ ha))
theorem Good.freeze (g : Good P w K F H σ ρ S) : Good P w K (putF F H S) H σ (frzE ρ) [] where
  sub := fun a o e => by
    by_cases ha : a ∈ S
    · rw [putF_in ha] at e; exact e
    · rw [putF_out ha] at e; exact g.sub a o e
  env := g.env.freeze g.fr fun _ h => h
  nd := List.nodup_nil
  fr := fun _ q => nomatch q
  tab := g.tab
  nt := putF_nt g.nt g.env.inH
/-- the wish for what is read so, of what it is wished for -/
theorem bor_back (g : Good P w K F H σ ρ S) (st : Step (putF F H S) [] H F' T H') (hs : ∀ a o, F' a = some o → H' a = some o) : Step F S H F S H' ∧ Good P w K F H' σ ρ S := by
  have ext : ∀ a o, F a = some o → H' a = some o := fun a o e => hs a o (st.fsub a o (putF_ext g.fr a o e))
  refine ⟨⟨fun _ _ e => e, fun _ _ e => .inl e, fun _ h => .inl h, fun a o e _ n => st.keep a o e (fun q => nomatch q) n, st.there, st.tabs, fun t => t⟩, g.ext (fun _ _ e => e) ext (fun a ha => ?_) g.fr (st.tabs g.tab) g.nt⟩
  obtain ⟨o, e, n, _⟩ := g.env.inH a ha
  rw [e]
  exact st.keep a o e (fun q => nomatch q) n
theorem scal_any {d : Dat} {v : V} (h : scal d = true) (o : Ow P w K F' H' d v T) : T = [] ∧ ∀ F H, Ow P w K F H d v [] := by
  cases o <;> first | exact ⟨rfl, fun _ _ => .non⟩ | exact ⟨rfl, fun _ _ => .bl _⟩ | exact ⟨rfl, fun _ _ => .int _⟩ | exact ⟨rfl, fun _ _ => .str _⟩ | cases h
theorem pd_bor {e : Expr} {de : DE} (h : PD X W e de) : PD X W e (eBor de) := PE.imp h fun σ H Q q => by
  obtain ⟨F, ρ, S, o, ρ', g, hd, ho⟩ := q
  unfold eBor at hd
  split at hd
  · rename_i d ρ1 e1
    split at hd
    · rename_i hs
      simp only [Option.some.injEq, Prod.mk.injEq] at hd
      obtain ⟨rfl, rfl⟩ := hd
      refine ⟨putF F H S, frzE ρ, [], .ok d, ρ1, g.freeze, e1, fun v F' H' T S' st g' ov nd fr => ?_⟩
      obtain ⟨rfl, oa⟩ := scal_any hs ov
      obtain ⟨st2, g2⟩ := bor_back g (st.less (S2 := []) fun _ q => nomatch q) g'.sub
      exact ho v F H' [] S st2 g2 (oa _ _) g2.nd fun _ q => nomatch q
    · cases hd
  · cases hd
theorem pdt_bor {e : Expr} {c : DT} (h : PDT X W e c) : PDT X W e (cBor c) := PT.imp h fun σ H Q q => by
  obtain ⟨F, ρ, S, o, ρ', g, hd, ho⟩ := q
  unfold cBor at hd
  split at hd
  · rename_i b ρ1 e1
    simp only [Option.some.injEq, Prod.mk.injEq] at hd
    obtain ⟨rfl, rfl⟩ := hd
    refine ⟨putF F H S, frzE ρ, [], .ok b, ρ1, g.freeze, e1, fun F' H' S' st g' => ?_⟩
    obtain ⟨st2, g2⟩ := bor_back g (st.less (S2 := []) fun _ q => nomatch q) g'.sub
    exact ho F H' S st2 g2
  · cases hd
end
end B
set_option Elab.async false
set_option linter.all false
set_option maxRecDepth 100000
namespace B
open PySem PySem.Spec PyProof.Rows L2 LamX
variable [TabT]
section
variable {X : Cx} {F F1 F' H H1 H' : Hp} {σ : L2.St} {ρ ρ' : Ev} {S S1 S' T T' : List Addr} {W : WX} {pos : Pos}
variable {P : Program} {w : World} {K : PySem.W.Frag}
def sNo : DS := fun _ => none
theorem pdss_no {fix : Nat → Bool} {s : List Stmt} : PDSs X W fix s sNo := ⟨fun _ _ _ _ _ _ h => by obtain ⟨_, _, _, _, _, _, hd, _⟩ := h; cases hd⟩
theorem OwL.replaceAt : ∀ {es : List Dat} {xs : List V} {S : List Addr} {k : Nat} {e0 : Dat}, OwL P w K F H es xs S → es[k]? = some e0 →
    ∃ v Sk R, xs[k]? = some v ∧ Ow P w K F H e0 v Sk ∧ S.Perm (Sk ++ R) ∧ ∀ F' H', (∀ a o, F a = some o → F' a = some o) → (∀ a ∈ R, H' a = H a) → ∀ e' Sk', Ow P w K F' H' e' v Sk' → ∃ S', OwL P w K F' H' (es.set k e') xs S' ∧ S'.Perm (Sk' ++ R)
  | _, _, _, _, _, .nil, e => by simp at e
  | _, _, _, 0, _, @OwL.cons _ _ _ _ _ _ d0 v0 ds vs S T o l, e => by
    simp at e; subst e
    exact ⟨v0, S, T, rfl, o, List.Perm.refl _, fun F' H' hF hH e' Sk' o' => ⟨Sk' ++ T, .cons o' (l.mono hF hH), List.Perm.refl _⟩⟩
  | _, _, _, k + 1, _, @OwL.cons _ _ _ _ _ _ d0 v0 ds vs S T o l, e => by
    obtain ⟨v, Sk, R, h1, h2, h3, h4⟩ := OwL.replaceAt (k := k) l (by simpa using e)
    refine ⟨v, Sk, S ++ R, by simpa using h1, h2, ?_, fun F' H' hF hH e' Sk' o' => ?_⟩
    · refine (List.Perm.append_left S h3).trans ?_
      rw [← List.append_assoc, ← List.append_assoc]
      exact List.Perm.append_right R List.perm_append_comm
    · obtain ⟨S', l', p⟩ := h4 F' H' hF (fun a ha => hH a (List.mem_append_right _ ha)) e' Sk' o'
      refine ⟨S ++ S', .cons (o.mono hF fun a ha => hH a (List.mem_append_left _ ha)) l', ?_⟩
      refine (List.Perm.append_left S p).trans ?_
      rw [← List.append_assoc, ← List.append_assoc]
      exact List.Perm.append_right R List.perm_append_comm
def fAt (k : Nat) (f : Dat → List Dat → Option (Dat × Dat)) : Dat → List Dat → Option (Dat × Dat)
  | .ol es, ds => match es[k]? with
    | some e => match f e ds with
      | some (rd, e') => some (rd, .ol (es.set k e'))
      | none => none
    | none => none
  | _, _ => none
def rAt (k : Nat) (r : V → List V → Hp → VK → Prop) : V → List V → Hp → VK → Prop := fun v vs H Q => ∃ a xs u, v = .ref a ∧ H a = some (.lst xs) ∧ xs[k]? = some u ∧ r u vs H Q
theorem mo_at {k : Nat} {r : V → List V → Hp → VK → Prop} {f : Dat → List Dat → Option (Dat × Dat)} (hm : MO X r f) : MO X (rAt k r) (fAt k f) := by
  intro F H d v Sd ds vs T rd d' Q hs od ol nd fr e kk
  unfold fAt at e
  split at e
  · rename_i es
    split at e
    · rename_i e0 he
      split at e
      · rename_i rd' e' ef
        simp only [Option.some.injEq, Prod.mk.injEq] at e
        obtain ⟨rfl, rfl⟩ := e
        obtain ⟨a, xs, S0, rfl, hH, lx, rfl⟩ := od.ol_inv
        obtain ⟨u, Sk, R, h1, h2, h3, h4⟩ := lx.replaceAt he
        refine ⟨a, xs, u, rfl, hH, h1, ?_⟩
        have n0 := List.nodup_cons.mp (show (a :: (S0 ++ T)).Nodup from nd)
        have n1 := List.nodup_append.mp n0.2
        have nS := List.nodup_append.mp (h3.nodup_iff.mp n1.1)
        have inK : ∀ x ∈ Sk, x ∈ S0 := fun x hx => h3.mem_iff.mpr (List.mem_append_left _ hx)
        have inR : ∀ x ∈ R, x ∈ S0 := fun x hx => h3.mem_iff.mpr (List.mem_append_right _ hx)
        have in2 : ∀ x ∈ Sk ++ T, x ∈ a :: S0 ++ T := fun x hx => (List.mem_append.mp hx).elim (fun q => List.mem_append_left _ (List.mem_cons_of_mem _ (inK x q))) (List.mem_append_right _)
        refine hm F H e0 u Sk ds vs T rd' e' Q hs h2 ol (List.nodup_append.mpr ⟨nS.1, n1.2.1, fun x q1 y q2 => n1.2.2 x (inK x q1) y q2⟩) (fun x hx => fr x (in2 x hx)) ef fun u' F' H' R' S' st sub or' oe nd' fr' => ?_
        have off : ∀ x ∈ a :: R, x ∉ Sk ++ T := fun x hx hm => by
          rcases List.mem_cons.mp hx with q | q
          · rw [q] at hm
            exact n0.1 ((List.mem_append.mp hm).elim (fun z => List.mem_append_left _ (inK a z)) (List.mem_append_right _))
          · rcases List.mem_append.mp hm with z | z
            · exact nS.2.2 x z x q rfl
            · exact n1.2.2 x (inR x q) x z rfl
        have thereR : ∀ x ∈ a :: R, Thr H x := fun x hx => by
          rcases List.mem_cons.mp hx with q | q
          · rw [q]; exact ⟨_, hH, lst_tc⟩
          · exact lx.inH x (inR x q)
        have same : ∀ x ∈ a :: R, H' x = H x := fun x hx => by
          obtain ⟨o, e, n, _⟩ := thereR x hx
          rw [e]; exact st.keep x o e (off x hx) n
        obtain ⟨S2, l2, p2⟩ := h4 F' H' st.fsub (fun x hx => same x (List.mem_cons_of_mem _ hx)) e' S' oe
        have dis : ∀ x ∈ R' ++ S', x ∉ a :: R := fun x q1 q2 => by
          rcases st.snew x q1 with z | z
          · exact off x q2 z
          · exact z (thereR x q2).there
        have n' := List.nodup_append.mp nd'
        have nR : (a :: R).Nodup := List.nodup_cons.mpr ⟨fun q => n0.1 (List.mem_append_left _ (inR a q)), nS.2.1⟩
        have frR : ∀ x ∈ a :: R, F' x = none := fun x hx => by
          cases q : F' x with
          | none => rfl
          | some o =>
            have hx2 : x ∈ a :: S0 ++ T := by
              rcases List.mem_cons.mp hx with z | z
              · rw [z]; simp
              · exact List.mem_append_left _ (List.mem_cons_of_mem _ (inR x z))
            rcases st.fnew x o q with z | z | z | ⟨⟨q', hq⟩, z⟩
            · rw [fr x hx2] at z; cases z
            · exact absurd (thereR x hx).there z
            · exact absurd z (off x hx)
            · obtain ⟨o', e', _, n'⟩ := thereR x hx
              rw [e'] at z
              exact absurd ((Option.some.inj z).trans hq) (n' q')
        have pS : (R' ++ a :: S2).Perm ((R' ++ S') ++ (a :: R)) := by
          rw [List.append_assoc]
          refine List.Perm.append_left R' ?_
          exact (List.Perm.cons a p2).trans (List.perm_middle (l₁ := S') (l₂ := R) (a := a)).symm
        have st2 : Step F (a :: S0 ++ T) H F' (R' ++ a :: S2) H' := by
          refine ((st.beside (R := a :: R)).more fun x hx => ?_).less fun x hx => pS.mem_iff.mp hx
          rcases List.mem_append.mp hx with q | q
          · exact in2 x q
          · rcases List.mem_cons.mp q with q | q
            · rw [q]; simp
            · exact List.mem_append_left _ (List.mem_cons_of_mem _ (inR x q))
        refine kk u' F' H' R' (a :: S2) st2 sub or' (.ol ((same a (List.mem_cons_self ..)).trans hH) l2) ?_ fun x hx => ?_
        · exact pS.nodup_iff.mpr (List.nodup_append.mpr ⟨nd', nR, fun x q1 y q2 e => dis x q1 (e ▸ q2)⟩)
        · rcases List.mem_append.mp (pS.mem_iff.mp hx) with q | q
          · exact fr' x q
          · exact frR x q
      · cases e
    · cases e
  · cases e
def isOlAt (k : Nat) : Dat → Bool
  | .ol es => match es[k]? with
    | some e => isOl e
    | none => false
  | _ => false
theorem tA_int {c : Int} {Q : List V → Hp → Prop} (h : tA X W (aE (eC (.int c)) aNil) σ H Q) : Q [.int c] H := by
  obtain ⟨F, ρ, S, o, ρ', g, hd, ho⟩ := h
  unfold aE aNil eC bnd at hd
  simp only [bnd, Option.some.injEq, Prod.mk.injEq] at hd
  obtain ⟨rfl, rfl⟩ := hd
  exact ho [.int c] F H [] S Step.refl g (OwA.dt (S := []) (T := []) (.int c) .nil) g.nd (fun _ q => nomatch q)
theorem pd_lmethAt {name : Str} {id : String} {r : V → List V → Hp → VK → Prop} {f : Dat → List Dat → Option (Dat × Dat)} {x : Str} {p apos cpos ipos kpos apos2 : Pos} {i : Nat} {kn : Nat} {k : Int} {c : Int} {j1 j2} (hk : k = Int.ofNat kn) (hr : ∃ n, Room n X.A) (slot : Slot "list" name id) (hty : typeOf (.builtin id) = pure (.type "method_descriptor")) (hm : MtR X id r) (hf : MO X r f)
    (ho : PE X (.Name x p) (tVar i)) (hs : PlainIx (.Constant (.int k) j1 kpos)) (hbase : attributeBase (.Subscript (.Name x p) (.Constant (.int k) j1 kpos) ipos) name X.env (eval (.Subscript (.Name x p) (.Constant (.int k) j1 kpos) ipos) X.env) = eval (.Subscript (.Name x p) (.Constant (.int k) j1 kpos) ipos) X.env := by rfl)
    (hfew : ((backTo cpos (starEach [Expr.Constant (.int c) j2 apos2] X.env)).all (fun x => !x.1) && (backToKw cpos (keywordEach [] X.env)).all (fun x => x.1.isSome)
      && decide ([Expr.Constant (.int c) j2 apos2].length + ([] : List Keyword).length + (if ([] : List Keyword).isEmpty then 0 else 1) < 30)) = true := by rfl)
    (hline : (apos.endLine == cpos.line) = true := by rfl) (hst : starEach [Expr.Constant (.int c) j2 apos2] X.env = (false, eval (Expr.Constant (.int c) j2 apos2) X.env) :: starEach [] X.env := by rfl) (hplain : (backTo cpos (starEach [] X.env)).any (·.1) = false := by rfl) :
    PD X W (.Call (.Attribute (.Subscript (.Name x p) (.Constant (.int k) j1 kpos) ipos) name apos) [.Constant (.int c) j2 apos2] [] cpos) (eMut i (isOlAt kn) (fAt kn f) (aE (eC (.int c)) aNil)) := by
  obtain ⟨n, hr⟩ := hr
  refine PE.imp (pe_bm PySem.F.plainAttrs_list slot hty hm (pe_ix (ix_all (Room.hu hr)) ho (pe_int (j := j1)) hs) (pa_cons (pe_int (j := j2)) pa_nil hst) hbase hfew hline hst hplain) fun σ H Q h => ?_
  obtain ⟨v, hv, ⟨F, d0, S, hs, o, hc⟩, q⟩ := mut_use (mo_at hf) h
  unfold isOlAt at hc
  split at hc
  · rename_i es
    split at hc
    · rename_i e0 he
      obtain ⟨a, xs, S1, rfl, hH, lx⟩ := o.ol_inv
      obtain ⟨u, Sk, R, h1, h2, _, _⟩ := lx.1.replaceAt he
      obtain ⟨a', xs', u', ea, hH', hu', q⟩ := tA_int q
      cases ea
      rw [hH] at hH'
      cases hH'
      rw [h1] at hu'
      cases hu'
      cases e0 <;> simp [isOl] at hc
      obtain ⟨b, ys, S2, rfl, hB, _⟩ := h2.ol_inv
      refine ⟨_, hv, .inl (.inl ⟨a, xs, k, .ref b, rfl, rfl, SqL.of hH, ?_, .inl ⟨rfl, ys, SqL.of hB⟩, q⟩)⟩
      subst hk
      unfold atI ixN
      have hl := (List.getElem?_eq_some_iff.mp h1).1
      simp [hl]
      exact (List.getElem?_eq_some_iff.mp h1).2
    · cases hc
  · cases hc
end
end B
set_option Elab.async false
set_option linter.all false
set_option maxRecDepth 100000
namespace B
open PySem PySem.Spec PyProof.Rows L2 LamX
variable [TabT]
section
variable {P : Program} {w : World} {K : PySem.W.Frag} {F F' H H' : Hp} {S T : List Addr}
theorem putK_new {kvs : List (Key × V)} {k : Key} {v : V} (h : k ∉ kvs.map (·.1)) : putK kvs k v = kvs ++ [(k, v)] := by
  unfold putK
  rw [if_neg]
  intro z
  rw [List.any_eq_true] at z
  obtain ⟨p, hp, e⟩ := z
  exact h (of_decide_eq_true e ▸ List.mem_map.mpr ⟨p, hp, rfl⟩)
theorem mergeK_nd : ∀ {more kvs : List (Key × V)}, ((kvs ++ more).map (·.1)).Nodup → mergeK kvs more = kvs ++ more
  | [], kvs, _ => by simp [mergeK]
  | p :: more, kvs, n => by
    have h : p.1 ∉ kvs.map (·.1) := fun hm => by
      rw [List.map_append, List.map_cons] at n
      exact (List.nodup_append.mp n).2.2 _ hm _ (List.mem_cons_self ..) rfl
    have e : mergeK kvs (p :: more) = mergeK (putK kvs p.1 p.2) more := rfl
    rw [e, putK_new h, mergeK_nd (by simpa using n)]
    simp
end
section
variable {X : Cx} {F F1 F' H H1 H' : Hp} {σ : L2.St} {ρ ρ' : Ev} {S S1 S' T T' : List Addr} {W : WX} {pos : Pos}
theorem Ow.dicK_inv {P : Program} {w : World} {K : PySem.W.Frag} {ks ds : List Dat} {v : V} (h : Ow P w K F H (.dic false ks ds) v S) : ∃ a kvs, v = .ref a ∧ F a = some (.dK kvs) ∧ OwL P w K F H ks (kvs.map fun p => kV p.1) [] ∧ OwL P w K F H ds (kvs.map (·.2)) [] ∧ S = [] := by
  cases h with | dicK h k l => exact ⟨_, _, rfl, h, k, l, rfl⟩
end
end B
set_option Elab.async false
set_option linter.all false
set_option maxRecDepth 100000
namespace B
open PySem PySem.Spec PyProof.Rows L2 LamX
variable [TabT]
section
variable {X : Cx} {F F1 F' H H1 H' : Hp} {σ σ1 : L2.St} {ρ ρ' : Ev} {S S1 S' T T' : List Addr} {W : WX} {pos : Pos} {pins : List (Addr × Obj)} {s : Shared}
variable {P : Program} {w : World} {K : PySem.W.Frag}
def dPairs : List Dat → Option (List (NestedKey × Dat × Dat))
  | [] => some []
  | .tup [kd, dv] :: r => match tkey kd, dPairs r with
    | some k, some ps => if im kd = true ∧ im dv = true then some ((k, kd, dv) :: ps) else none
    | _, _ => none
  | _ :: _ => none
def dFold : List (NestedKey × Dat × Dat) → List Dat → List Dat → List Dat × List Dat
  | [], ks, vs => (ks, vs)
  | p :: r, ks, vs => dFold r (dPut p.1 p.2.1 p.2.2 ks vs).1 (dPut p.1 p.2.1 p.2.2 ks vs).2
def dDictN : List Dat → Option Dat
  | [c] => match lit c with
    | some es => match dPairs es with
      | some ps => if es.length ≤ 1000000 then some (.od true (dFold ps [] []).1 (dFold ps [] []).2) else none
      | none => none
    | none => none
  | _ => none
end
end B
set_option Elab.async false
set_option linter.all false
set_option maxRecDepth 100000
namespace B
open PySem PySem.Spec PyProof.Rows L2 LamX
variable [TabT]
section
variable {X : Cx} {F F1 F' H H1 H' : Hp} {σ σ1 : L2.St} {ρ ρ' : Ev} {S S1 S' T T' : List Addr} {W : WX} {pos : Pos} {pins : List (Addr × Obj)} {s : Shared}
variable {P : Program} {w : World} {K : PySem.W.Frag}
theorem OwL.ints : ∀ (l : List Int), OwL P w K F H (l.map Dat.int) (l.map V.int) []
  | [] => .nil
  | i :: l => .cons (S := []) (T := []) (.int i) (OwL.ints l)
/-- list(d.items()) -/
theorem putF_nt' {T : List Addr} (t : NoTbl F) (h : ∀ a ∈ T, Thr H a) : NoTbl (putF F H T) := fun a ps e => by
  by_cases ha : a ∈ T
  · rw [putF_in ha] at e
    obtain ⟨o, e2, n, _⟩ := h a ha
    rw [e2] at e
    exact n ps (Option.some.inj e)
  · rw [putF_out ha] at e; exact t a ps e
def pairD : List Dat → List Dat → List Dat
  | k :: ks, v :: vs => .tup [k, v] :: pairD ks vs
  | _, _ => []
def eItems (i : Nat) : DE := fun ρ => match ρ[i]? with
  | some (some (.dic false ks vs)) => some (.ok (.ol (pairD ks vs)), ρ)
  | _ => none
theorem OwL.uncons {ks : List Dat} {v : V} {vs : List V} (h : OwL P w K F H ks (v :: vs) []) : ∃ k ks', ks = k :: ks' ∧ Ow P w K F H k v [] ∧ OwL P w K F H ks' vs [] := by
  generalize e : v :: vs = us at h
  generalize e2 : ([] : List Addr) = S0 at h
  cases h with
  | nil => cases e
  | cons a b =>
    cases e
    obtain ⟨rfl, rfl⟩ := List.append_eq_nil_iff.mp e2.symm
    exact ⟨_, _, rfl, a, b⟩
theorem pairD_ok {ts : List Addr} {kvs : List (Key × V)} (h : Paired (fun (t : Addr) (q : Key × V) => F t = some (.tup [kV q.1, q.2])) ts kvs) : ∀ {ks vs : List Dat}, OwL P w K F H ks (kvs.map fun p => kV p.1) [] → OwL P w K F H vs (kvs.map (·.2)) [] → OwL P w K F H (pairD ks vs) (ts.map V.ref) [] := by
  induction h with
  | nil =>
    intro ks vs h1 h2
    cases h1; cases h2
    exact .nil
  | cons r _ ih =>
    intro ks vs h1 h2
    obtain ⟨k, ks', rfl, o1, l1⟩ := OwL.uncons h1
    obtain ⟨v, vs', rfl, o2, l2⟩ := OwL.uncons h2
    have := OwL.cons (S := []) (T := []) o1 (OwL.cons (S := []) (T := []) o2 .nil)
    exact .cons (S := []) (T := []) (.tup (SqT.of r) this) (ih l1 l2)
theorem pd_items {i : Nat} {x : Str} {p q apos cpos pos : Pos} (hc : X.calm = true) (ho : PE X (.Name x q) (tVar i)) (hg : Gl X "list") (hm : X.mg "list" = none) (hv : bootBuiltins "list" = some (.type "list")) (hbase : attributeBase (.Name x q) "items" X.env (eval (.Name x q) X.env) = eval (.Name x q) X.env := by rfl) (hline : (apos.endLine == cpos.line) = true := by rfl)
    (hs : starEach [.Call (.Attribute (.Name x q) "items" apos) [] [] cpos] X.env = (false, eval (.Call (.Attribute (.Name x q) "items" apos) [] [] cpos) X.env) :: starEach [] X.env := by rfl) :
    PD X W (.Call (.Name "list" p) [.Call (.Attribute (.Name x q) "items" apos) [] [] cpos] [] pos) (eItems i) := PE.imp (LiI.pe_listItems hc ho hg hm hv hbase hline hs) fun σ H Q h => by
  obtain ⟨F, ρ, S, o, ρ', g, hd, hO⟩ := h
  unfold eItems at hd
  split at hd
  · rename_i ks vs e
    simp only [Option.some.injEq, Prod.mk.injEq] at hd
    obtain ⟨rfl, rfl⟩ := hd
    obtain ⟨v, hv, ov⟩ := g.getIm e rfl
    obtain ⟨d, kvs, rfl, hF, lk, lv, _⟩ := ov.dicK_inv
    refine ⟨.ref d, hv, d, kvs, rfl, g.sub d _ hF, fun H' p ts ext hp hts hpt hl hpair => ?_⟩
    let F2 : Hp := putF F H' ts
    have hnF : ∀ a ∈ ts, F a = none := fun a ha => free_new g.sub (hts a ha)
    have sub2 : ∀ a o, F2 a = some o → H' a = some o := fun a o e => by
      by_cases z : a ∈ ts
      · rw [show F2 a = H' a from putF_in z] at e; exact e
      · rw [show F2 a = F a from putF_out z] at e; exact ext a o (g.sub a o e)
    have thereT : ∀ t ∈ ts, Thr H' t := fun t ht => by
      have aux : ∀ {l : List Addr} {m : List (Key × V)}, Paired (fun (t : Addr) (q : Key × V) => H' t = some (.tup [kV q.1, q.2])) l m → ∀ t ∈ l, Thr H' t := fun {l m} h => by
        induction h with
        | nil => intro t ht; cases ht
        | cons r _ ih =>
          intro t ht
          rcases List.mem_cons.mp ht with z | z
          · exact ⟨_, z ▸ r, tup_tc⟩
          · exact ih t z
      exact aux hpair t ht
    have st : Step F [] H F2 [p] H' := ⟨putF_ext hnF, fun a o e => by
      by_cases z : a ∈ ts
      · exact .inr (.inl (not_there (hts a z)))
      · rw [show F2 a = F a from putF_out z] at e; exact .inl e, fun x hx => .inr (by simp at hx; subst hx; exact not_there hp), fun a o e _ _ => ext a o e, fun a ⟨o, e, n⟩ => ⟨o, ext a o e, n⟩, fun t => t.ext ext, fun t => putF_nt' t thereT⟩
    have pn : F2 p = none := by
      rw [show F2 p = F p from putF_out hpt]; exact free_new g.sub hp
    have g2 : Good X.prog X.w X.K F2 H' σ ρ S := g.step st sub2 fun _ _ q => nomatch q
    have pS : p ∉ S := fun z => by obtain ⟨o, e, _⟩ := g.env.inH p z; rw [hp] at e; cases e
    have hpair2 : Paired (fun (t : Addr) (q : Key × V) => F2 t = some (.tup [kV q.1, q.2])) ts kvs := by
      have aux : ∀ {l : List Addr} {m : List (Key × V)}, (∀ t ∈ l, t ∈ ts) → Paired (fun (t : Addr) (q : Key × V) => H' t = some (.tup [kV q.1, q.2])) l m → Paired (fun (t : Addr) (q : Key × V) => F2 t = some (.tup [kV q.1, q.2])) l m := fun {l m} hin h => by
        induction h with
        | nil => exact .nil
        | cons r _ ih => exact .cons ((putF_in (hin _ (List.mem_cons_self ..))).trans r) (ih fun t ht => hin t (List.mem_cons_of_mem _ ht))
      exact aux (fun _ h => h) hpair
    have ol := pairD_ok (F := F2) (H := H') hpair2 (lk.mono (F' := F2) (H' := H') st.fsub fun _ q => nomatch q) (lv.mono (F' := F2) (H' := H') st.fsub fun _ q => nomatch q)
    refine hO (.ref p) F2 H' [p] S (by have := st.beside (R := S); simpa using this) g2 (.ol (S := []) hl ol) (List.nodup_cons.mpr ⟨pS, g.nd⟩) fun a ha => by simp at ha; subst ha; exact pn
  · cases hd
end
end B
set_option Elab.async false
set_option linter.all false
set_option maxRecDepth 100000
namespace B
open PySem PySem.Spec PyProof.Rows L2 LamX
variable [TabT]
structure LAcc (X : Cx) (F : Hp) (S : List Addr) (H : Hp) (D : Addr) (F5 H5 : Hp) (S5 : List Addr) (σ : L2.St) (ρ : Ev) (acc : List V) (accd : List Dat) (T5 : List Addr) : Prop where
  st : Step F S H F5 (D :: T5 ++ S5) H5
  g : Good X.prog X.w X.K F5 H5 σ ρ S5
  hD : H5 D = some (.lst acc)
  ol : OwL X.prog X.w X.K F5 H5 accd acc T5
  nd : (D :: T5 ++ S5).Nodup
  fr : ∀ a ∈ D :: T5, F5 a = none
section
variable {X : Cx} {F F5 F8 F9 H H5 H8 H9 : Hp} {σ σ' : L2.St} {ρ ρ' : Ev} {S S5 S8 S9 T5 T9 : List Addr} {W : WX} {pos : Pos} {D : Addr} {acc : List V} {accd : List Dat}
theorem LAcc.keepAll (L : LAcc X F S H D F5 H5 S5 σ ρ acc accd T5) (s7 : Step F5 S5 H5 F8 S8 H8) : H8 D = some (.lst acc) ∧ OwL X.prog X.w X.K F8 H8 accd acc T5 ∧ (∀ a ∈ D :: T5, F8 a = none) ∧ (∀ a ∈ D :: T5, a ∉ S8) ∧ Step F S H F8 (D :: T5 ++ S8) H8 := by
  have hin : ∀ a ∈ D :: T5, Thr H5 a := fun a ha => by
    rcases List.mem_cons.mp ha with q | q
    · exact ⟨HO.lst acc, q ▸ L.hD, lst_tc⟩
    · exact L.ol.inH a q
  have dis : ∀ a ∈ D :: T5, a ∉ S5 := fun a h1 h2 => (List.nodup_append.mp L.nd).2.2 a h1 a h2 rfl
  have sm := s7.same hin dis
  have fr := s7.free hin dis L.fr
  refine ⟨(sm D (List.mem_cons_self ..)).trans L.hD, L.ol.mono s7.fsub fun a ha => sm a (List.mem_cons_of_mem _ ha), fr, fun a h1 h2 => ?_, ?_⟩
  · rcases s7.snew a h2 with q | q
    · exact dis a h1 q
    · exact q (hin a h1).there
  · refine (L.st.trans (((s7.beside (R := D :: T5)).more fun x hx => ?_))).less fun x hx => ?_
    · exact List.mem_append.mpr (List.mem_append.mp hx).symm
    · exact List.mem_append.mpr (List.mem_append.mp hx).symm
theorem LAcc.app (L : LAcc X F S H D F5 H5 S5 σ ρ acc accd T5) (sAll : Step F5 S5 H5 F9 (T9 ++ S9) H9) (g9 : Good X.prog X.w X.K F9 H9 σ' ρ' S9) {v : V} {yd : Dat} (o9 : Ow X.prog X.w X.K F9 H9 yd v T9) (nd9 : (T9 ++ S9).Nodup) (fr9 : ∀ a ∈ T9, F9 a = none) :
    H9 D = some (.lst acc) ∧ LAcc X F S H D F9 (upd H9 D (.lst (acc ++ [v]))) S9 σ' ρ' (acc ++ [v]) (accd ++ [yd]) (T5 ++ T9) := by
  obtain ⟨k1, k2, k3, k4, k5⟩ := L.keepAll sAll
  refine ⟨k1, ?_⟩
  have hT9 : ∀ a ∈ T9, a ≠ D := fun a ha e => k4 D (List.mem_cons_self ..) (List.mem_append_left _ (e ▸ ha))
  have hT5 : ∀ a ∈ T5, a ≠ D := fun a ha e => by
    have n := List.nodup_cons.mp (show (D :: (T5 ++ S5)).Nodup from L.nd)
    exact n.1 (List.mem_append_left _ (e ▸ ha))
  have hS9 : ∀ a ∈ S9, a ≠ D := fun a ha e => k4 D (List.mem_cons_self ..) (List.mem_append_right _ (e ▸ ha))
  have n9 := List.nodup_append.mp nd9
  have sw : Step F9 (D :: T5 ++ (T9 ++ S9)) H9 F9 (D :: (T5 ++ T9) ++ S9) (upd H9 D (.lst (acc ++ [v]))) := ⟨fun _ _ e => e, fun _ _ e => .inl e, fun x hx => .inl (by
      simp only [List.mem_append, List.mem_cons, List.cons_append] at hx ⊢
      rcases hx with q | (q | q) | q
      · exact .inl q
      · exact .inr (.inl q)
      · exact .inr (.inr (.inl q))
      · exact .inr (.inr (.inr q))), fun a o q hx _ => by
        rw [upd_ne fun z => hx (by rw [z]; simp)]; exact q, fun a ⟨o, q, t⟩ => by
        by_cases z : a = D
        · exact ⟨_, by rw [z]; exact upd_same, kept_tbl (a := D) (.inl ⟨_, rfl⟩)⟩
        · exact ⟨o, by rw [upd_ne z]; exact q, t⟩, fun t => tabs_upd t k1 (.inl ⟨_, rfl⟩), fun t => t⟩
  have sub9 : ∀ a o, F9 a = some o → upd H9 D (.lst (acc ++ [v])) a = some o := fun a o q => by
    rw [upd_ne fun z => by rw [z, k3 D (List.mem_cons_self ..)] at q; cases q]
    exact g9.sub a o q
  have g11 := g9.ext (F' := F9) (H' := upd H9 D (.lst (acc ++ [v]))) (fun _ _ e => e) sub9 (fun a ha => upd_ne (hS9 a ha)) g9.fr (sw.tabs g9.tab) g9.nt
  refine ⟨k5.trans sw, g11, upd_same, ?_, ?_, ?_⟩
  · have o1 : OwL X.prog X.w X.K F9 (upd H9 D (.lst (acc ++ [v]))) accd acc T5 := k2.mono (fun _ _ e => e) fun a ha => upd_ne (hT5 a ha)
    have o2 : OwL X.prog X.w X.K F9 (upd H9 D (.lst (acc ++ [v]))) [yd] [v] T9 := by
      have := OwL.cons (o9.mono (H' := upd H9 D (.lst (acc ++ [v]))) (fun _ _ e => e) fun a ha => upd_ne (hT9 a ha)) .nil
      simpa using this
    exact o1.app o2
  · show (D :: ((T5 ++ T9) ++ S9)).Nodup
    have n5 := List.nodup_cons.mp (show (D :: (T5 ++ S5)).Nodup from L.nd)
    have n5' := List.nodup_append.mp n5.2
    refine List.nodup_cons.mpr ⟨fun hm => ?_, ?_⟩
    · simp only [List.mem_append] at hm
      rcases hm with (q | q) | q
      · exact hT5 D q rfl
      · exact hT9 D q rfl
      · exact hS9 D q rfl
    · rw [List.append_assoc]
      refine List.nodup_append.mpr ⟨n5'.1, nd9, fun a h1 b h2 e => ?_⟩
      subst e
      exact k4 a (List.mem_cons_of_mem _ h1) h2
  · intro a ha
    rcases List.mem_cons.mp ha with q | q
    · rw [q]; exact k3 D (List.mem_cons_self ..)
    · rcases List.mem_append.mp q with q | q
      · exact k3 a (List.mem_cons_of_mem _ q)
      · exact fr9 a q
end
end B
set_option Elab.async false
set_option linter.all false
set_option maxRecDepth 100000
namespace B
open PySem PySem.Spec PyProof.Rows L2 LamX
variable [TabT]
/-- a slot's value; what is owned moves -/
def eVM (i : Nat) : DE := fun ρ => match ρ[i]? with
  | some (some d) => if im d = true then some (.ok d, ρ) else some (.ok d, ρ.set i none)
  | _ => none
/-- the built-ins' names are not the module's -/
structure Blt (mg : Str → Option Value) : Prop where
  isinstance : mg "isinstance" = none
  len : mg "len" = none
  abs : mg "abs" = none
  int : mg "int" = none
  max : mg "max" = none
  min : mg "min" = none
  sum : mg "sum" = none
  sorted : mg "sorted" = none
  all : mg "all" = none
  any : mg "any" = none
  list : mg "list" = none
  tuple : mg "tuple" = none
  dict : mg "dict" = none
  range : mg "range" = none
  enumerate : mg "enumerate" = none
  zip : mg "zip" = none
  bool : mg "bool" = none
  str : mg "str" = none
section
variable {X : Cx} {W : WX} {pos p : Pos} {a b e : Expr} {es : List Expr} {as : DA} {ca cb : DA → DA} {k : Nat}
theorem pd_vm {x : Str} {i : Nat} (h : PE X (.Name x pos) (tVar i)) : PD X W (.Name x pos) (eVM i) := PE.imp h fun σ H Q q => by
  obtain ⟨F, ρ, S, o, ρ', g, hd, ho⟩ := q
  unfold eVM at hd
  split at hd
  · rename_i d e
    split at hd
    · rename_i him
      simp only [Option.some.injEq, Prod.mk.injEq] at hd
      obtain ⟨rfl, rfl⟩ := hd
      obtain ⟨v, h1, h2⟩ := g.getIm e him
      exact ⟨v, h1, ok_here g h2 ho⟩
    · simp only [Option.some.injEq, Prod.mk.injEq] at hd
      obtain ⟨rfl, rfl⟩ := hd
      obtain ⟨v, S1, R, h1, h2, p, g'⟩ := g.take e
      exact ⟨v, h1, ho v F H S1 R (Step.refl.less fun x hx => p.mem_iff.mpr hx) g' h2 (p.nodup_iff.mp g.nd) fun a ha => g.fr a (p.mem_iff.mpr (List.mem_append_left _ ha))⟩
  · cases hd
def dNeg : List Dat → Option Dat
  | [.int i] => some (.int (-i))
  | _ => none
theorem ro_neg : RO X (fun vs H Q => ∃ x, vs = [x] ∧ rU (fun i => .int (-i)) x H Q) dNeg := by
  intro F H l vs B d Q hs o e k
  unfold dNeg at e
  split at e
  · have e' := Option.some.inj e
    subst e'
    obtain ⟨v, S1, rfl, h1⟩ := o.one
    obtain ⟨rfl, _⟩ := h1.int_inv
    exact ⟨_, rfl, _, rfl, ro_fin hs k (.int _)⟩
  · cases e
theorem pd_neg (ha : P1 X W a ca) : PD X W (.UnaryOp .USub a pos) (eOp dNeg (ca aNil)) := by
  obtain ⟨t, pt, qa, ma⟩ := ha
  refine PE.imp (pe_un un_neg pt) fun σ H Q h => ?_
  refine ma _ _ _ _ (fun v H1 q => ?_) (qa _ _ _ _ (ro_use ro_neg h))
  obtain ⟨x, e, q2⟩ := tA_nil q
  simp only [List.cons.injEq, and_true] at e
  subst e
  exact q2
theorem o_add (ha : P1 X W a ca) (hb : P1 X W b cb) : PD X W (.BinOp a .Add b pos) (eOp dAdd (ca (cb aNil))) := pd_bin op_addA ro_add ha hb
def dMul : List Dat → Option Dat := fun ds => match dMulI ds with | some d => some d | none => dRep ds
theorem o_mul (ha : P1 X W a ca) (hb : P1 X W b cb) : PD X W (.BinOp a .Mult b pos) (eOp dMul (ca (cb aNil))) := pd_bin (op_mul.or op_repR) (ro_mulI.or2 ro_rep) ha hb
theorem o_fdiv (ha : P1 X W a ca) (hb : P1 X W b cb) : PD X W (.BinOp a .FloorDiv b pos) (eOp dFdiv (ca (cb aNil))) := pd_bin op_fdiv ro_fdiv ha hb
theorem o_mod (ha : P1 X W a ca) (hb : P1 X W b cb) : PD X W (.BinOp a .Mod b pos) (eOp dMod (ca (cb aNil))) := pd_bin op_mod ro_mod ha hb
theorem o_pow (ha : P1 X W a ca) (hb : P1 X W b cb) : PD X W (.BinOp a .Pow b pos) (eOp dPow (ca (cb aNil))) := pd_bin op_pow ro_pow ha hb
def dEqA : List Dat → Option Dat := fun ds => match dEq false ds with | some d => some d | none => dEqF ds
def dInA (neg : Bool) : List Dat → Option Dat := fun ds => match dIn neg ds with | some d => some d | none => dInN neg ds
theorem c_eq (hf : FnsOk X.K) (hr : Room k X.A) (ha : P1 X W a ca) (hb : P1 X W b cb) (hm : behindInMarks .Eq b = false := by rfl) : PD X W (.Compare a [.Eq] [b] pos) (eOp dEqA (ca (cb aNil))) := pd_cmp ((op_eqP hr.units).or (op_eqF hf hr.units0)) (ro_eq.or2 ro_eqF) ha hb hm
theorem c_notIn (hr : Room k X.A) (ha : P1 X W a ca) (hb : P1 X W b cb) (hm : behindInMarks .NotIn b = false := by rfl) : PD X W (.Compare a [.NotIn] [b] pos) (eOp (dInA true) (ca (cb aNil))) := pd_cmp ((op_notInP (Room.hu hr)).or (op_notInN (Room.hu hr))) (ro_in.or2 ro_inN) ha hb hm
theorem c_is (ha : P1 X W a ca) (hb : P1 X W b cb) (hm : behindInMarks .Is b = false := by rfl) : PD X W (.Compare a [.Is] [b] pos) (eOp (dIsN false) (ca (cb aNil))) := pd_cmp op_isN ro_isN ha hb hm
theorem t_eq (hf : FnsOk X.K) (hr : Room k X.A) (ha : P1 X W a ca) (hb : P1 X W b cb) (hm : behindInMarks .Eq b = false := by rfl) : PDT X W (.Compare a [.Eq] [b] pos) (eB (eOp dEqA (ca (cb aNil)))) := pdt_cmp ((op_eqP hr.units).or (op_eqF hf hr.units0)) (ro_eq.or2 ro_eqF) ha hb hm
theorem t_ne (hr : Room k X.A) (ha : P1 X W a ca) (hb : P1 X W b cb) (hm : behindInMarks .NotEq b = false := by rfl) : PDT X W (.Compare a [.NotEq] [b] pos) (eB (eOp (dEq true) (ca (cb aNil)))) := pdt_cmp (op_neP hr.units) ro_eq ha hb hm
theorem t_gt (ha : P1 X W a ca) (hb : P1 X W b cb) (hm : behindInMarks .Gt b = false := by rfl) : PDT X W (.Compare a [.Gt] [b] pos) (eB (eOp dGt (ca (cb aNil)))) := pdt_cmp op_gt ro_gt ha hb hm
theorem t_ge (ha : P1 X W a ca) (hb : P1 X W b cb) (hm : behindInMarks .GtE b = false := by rfl) : PDT X W (.Compare a [.GtE] [b] pos) (eB (eOp dGe (ca (cb aNil)))) := pdt_cmp op_ge ro_ge ha hb hm
theorem t_is (ha : P1 X W a ca) (hb : P1 X W b cb) (hm : behindInMarks .Is b = false := by rfl) : PDT X W (.Compare a [.Is] [b] pos) (eB (eOp (dIsN false) (ca (cb aNil)))) := pdt_cmp op_isN ro_isN ha hb hm
section
variable (M : Blt X.mg)
include M
theorem b_isinstance (hf : FnsOk X.K) (ha : PDA X W (e :: es) as) (hg : Gl X "isinstance" := by rfl) (he : starEach (e :: es) X.env = (false, eval e X.env) :: starEach es X.env := by rfl) (hpl : (backTo pos (starEach es X.env)).any (·.1) = false := by rfl) : PD X W (.Call (.Name "isinstance" p) (e :: es) [] pos) (eOp dIsi as) := pd_blt (call_isiA hf) ro_isi hg M.isinstance rfl ha (by decide) (by decide) he hpl
theorem b_len (ha : PDA X W (e :: es) as) (hg : Gl X "len" := by rfl) (he : starEach (e :: es) X.env = (false, eval e X.env) :: starEach es X.env := by rfl) (hpl : (backTo pos (starEach es X.env)).any (·.1) = false := by rfl) : PD X W (.Call (.Name "len" p) (e :: es) [] pos) (eOp dLen as) := pd_blt call_lenA ro_len hg M.len rfl ha (by decide) (by decide) he hpl
theorem b_abs (ha : PDA X W (e :: es) as) (hg : Gl X "abs" := by rfl) (he : starEach (e :: es) X.env = (false, eval e X.env) :: starEach es X.env := by rfl) (hpl : (backTo pos (starEach es X.env)).any (·.1) = false := by rfl) : PD X W (.Call (.Name "abs" p) (e :: es) [] pos) (eOp dAbs as) := pd_blt call_abs ro_abs hg M.abs rfl ha (by decide) (by decide) he hpl
theorem b_int (ha : PDA X W (e :: es) as) (hg : Gl X "int" := by rfl) (he : starEach (e :: es) X.env = (false, eval e X.env) :: starEach es X.env := by rfl) (hpl : (backTo pos (starEach es X.env)).any (·.1) = false := by rfl) : PD X W (.Call (.Name "int" p) (e :: es) [] pos) (eOp dToInt as) := pd_ty call_int1 ro_toInt hg M.int rfl ha (by decide) (by decide) he hpl
theorem b_list (ha : PDA X W (e :: es) as) (hg : Gl X "list" := by rfl) (he : starEach (e :: es) X.env = (false, eval e X.env) :: starEach es X.env := by rfl) (hpl : (backTo pos (starEach es X.env)).any (·.1) = false := by rfl) : PD X W (.Call (.Name "list" p) (e :: es) [] pos) (eOp dList as) := pd_ty call_list_of ro_list hg M.list rfl ha (by decide) (by decide) he hpl
theorem b_tuple (ha : PDA X W (e :: es) as) (hg : Gl X "tuple" := by rfl) (he : starEach (e :: es) X.env = (false, eval e X.env) :: starEach es X.env := by rfl) (hpl : (backTo pos (starEach es X.env)).any (·.1) = false := by rfl) : PD X W (.Call (.Name "tuple" p) (e :: es) [] pos) (eOp dTuple as) := pd_ty call_tuple_of ro_tuple hg M.tuple rfl ha (by decide) (by decide) he hpl
theorem b_sorted (hr : Room k X.A) (hc : X.calm = true) (ha : PDA X W (e :: es) as) (hg : Gl X "sorted" := by rfl) (he : starEach (e :: es) X.env = (false, eval e X.env) :: starEach es X.env := by rfl) (hpl : (backTo pos (starEach es X.env)).any (·.1) = false := by rfl) : PD X W (.Call (.Name "sorted" p) (e :: es) [] pos) (eOp dSort as) := pd_blt (call_sort (by have := hr.un; omega) hc) ro_sort hg M.sorted rfl ha (by decide) (by decide) he hpl
end
end
end B
set_option Elab.async false
set_option linter.all false
set_option maxRecDepth 100000
namespace B
open PySem PySem.Spec PyProof.Rows L2 LamX
variable [TabT]
section
variable {X : Cx} {W : WX} {pos p : Pos} {a b e : Expr} {es : List Expr} {as : DA} {ca cb : DA → DA} {k : Nat}
section
variable (M : Blt X.mg)
include M
theorem b_sum (hc : X.calm = true) (ha : PDA X W (e :: es) as) (hg : Gl X "sum" := by rfl) (he : starEach (e :: es) X.env = (false, eval e X.env) :: starEach es X.env := by rfl) (hpl : (backTo pos (starEach es X.env)).any (·.1) = false := by rfl) : PD X W (.Call (.Name "sum" p) (e :: es) [] pos) (eOp dSum as) := pd_blt (cr_sum hc) ro_sum hg M.sum rfl ha (by decide) (by decide) he hpl
theorem b_max (hc : X.calm = true) (ha : PDA X W (e :: es) as) (hg : Gl X "max" := by rfl) (he : starEach (e :: es) X.env = (false, eval e X.env) :: starEach es X.env := by rfl) (hpl : (backTo pos (starEach es X.env)).any (·.1) = false := by rfl) : PD X W (.Call (.Name "max" p) (e :: es) [] pos) (eOp dMax as) := pd_blt (cr_max hc) ro_max hg M.max rfl ha (by decide) (by decide) he hpl
theorem b_min (hc : X.calm = true) (ha : PDA X W (e :: es) as) (hg : Gl X "min" := by rfl) (he : starEach (e :: es) X.env = (false, eval e X.env) :: starEach es X.env := by rfl) (hpl : (backTo pos (starEach es X.env)).any (·.1) = false := by rfl) : PD X W (.Call (.Name "min" p) (e :: es) [] pos) (eOp dMin as) := pd_blt (cr_min hc) ro_min hg M.min rfl ha (by decide) (by decide) he hpl
theorem b_all (hc : X.calm = true) (ha : PDA X W (e :: es) as) (hg : Gl X "all" := by rfl) (he : starEach (e :: es) X.env = (false, eval e X.env) :: starEach es X.env := by rfl) (hpl : (backTo pos (starEach es X.env)).any (·.1) = false := by rfl) : PD X W (.Call (.Name "all" p) (e :: es) [] pos) (eOp dAll as) := pd_blt (cr_all hc) ro_all hg M.all rfl ha (by decide) (by decide) he hpl
theorem b_any (hc : X.calm = true) (ha : PDA X W (e :: es) as) (hg : Gl X "any" := by rfl) (he : starEach (e :: es) X.env = (false, eval e X.env) :: starEach es X.env := by rfl) (hpl : (backTo pos (starEach es X.env)).any (·.1) = false := by rfl) : PD X W (.Call (.Name "any" p) (e :: es) [] pos) (eOp dAny as) := pd_blt (cr_any hc) ro_any hg M.any rfl ha (by decide) (by decide) he hpl
end
theorem m_append {x : Str} {apos cpos : Pos} {i : Nat} (ho : PE X (.Name x p) (tVar i)) (ha : PDA X W [e] as) (hbase : attributeBase (.Name x p) "append" X.env (eval (.Name x p) X.env) = eval (.Name x p) X.env := by rfl)
    (hfew : ((backTo cpos (starEach [e] X.env)).all (fun x => !x.1) && (backToKw cpos (keywordEach [] X.env)).all (fun x => x.1.isSome)
      && decide ([e].length + ([] : List Keyword).length + (if ([] : List Keyword).isEmpty then 0 else 1) < 30)) = true := by rfl)
    (hline : (apos.endLine == cpos.line) = true := by rfl) (hs : starEach [e] X.env = (false, eval e X.env) :: starEach [] X.env := by rfl) (hplain : (backTo cpos (starEach [] X.env)).any (·.1) = false := by rfl) :
    PD X W (.Call (.Attribute (.Name x p) "append" apos) [e] [] cpos) (eMut i isOl fAppend as) := pd_lmeth PySem.F.slot_list_append PySem.F.type_list_append mt_append mo_append ho ha hbase hfew hline hs hplain
theorem m_extend {x : Str} {apos cpos : Pos} {i : Nat} (ho : PE X (.Name x p) (tVar i)) (ha : PDA X W [e] as) (hbase : attributeBase (.Name x p) "extend" X.env (eval (.Name x p) X.env) = eval (.Name x p) X.env := by rfl)
    (hfew : ((backTo cpos (starEach [e] X.env)).all (fun x => !x.1) && (backToKw cpos (keywordEach [] X.env)).all (fun x => x.1.isSome)
      && decide ([e].length + ([] : List Keyword).length + (if ([] : List Keyword).isEmpty then 0 else 1) < 30)) = true := by rfl)
    (hline : (apos.endLine == cpos.line) = true := by rfl) (hs : starEach [e] X.env = (false, eval e X.env) :: starEach [] X.env := by rfl) (hplain : (backTo cpos (starEach [] X.env)).any (·.1) = false := by rfl) :
    PD X W (.Call (.Attribute (.Name x p) "extend" apos) [e] [] cpos) (eMut i isOl fExtend as) := pd_lmeth PySem.F.slot_list_extend PySem.F.type_list_extend mt_extendR mo_extend ho ha hbase hfew hline hs hplain
theorem m_popAt {x : Str} {apos cpos : Pos} {i : Nat} (ho : PE X (.Name x p) (tVar i)) (ha : PDA X W [e] as) (hbase : attributeBase (.Name x p) "pop" X.env (eval (.Name x p) X.env) = eval (.Name x p) X.env := by rfl)
    (hfew : ((backTo cpos (starEach [e] X.env)).all (fun x => !x.1) && (backToKw cpos (keywordEach [] X.env)).all (fun x => x.1.isSome)
      && decide ([e].length + ([] : List Keyword).length + (if ([] : List Keyword).isEmpty then 0 else 1) < 30)) = true := by rfl)
    (hline : (apos.endLine == cpos.line) = true := by rfl) (hs : starEach [e] X.env = (false, eval e X.env) :: starEach [] X.env := by rfl) (hplain : (backTo cpos (starEach [] X.env)).any (·.1) = false := by rfl) :
    PD X W (.Call (.Attribute (.Name x p) "pop" apos) [e] [] cpos) (eMut i isOl fPopAt as) := pd_lmeth PySem.F.slot_list_pop PySem.F.type_list_pop mt_popAt mo_popAt ho ha hbase hfew hline hs hplain
end
section
variable {P : Program} {w : World} {K : PySem.W.Frag} {mg : Str → Option Value} {base : Heap}
theorem ok_defC {x : Str} {st : Stmt} {f : Addr} {fd : FuncData} {N ps : List Str} {k : Nat} {fix : Nat → Bool} {body : DS} {c : Value} (hcode : fd.code = c) (Fu : Fun K x x st f fd) (S : FnScope N ps (defScope st))
    (hb : ∀ (A : Around) (outer : List Env) (s : Shared) (H : Hp) (E : XK), Room k (A.deeper (envOfC x (defScope st) s.heap.objs.size f c)) →
      PDSs (cxOf (L2.CX P w) P w K mg base N x (defScope st) f c A outer s H E) (fun cls d _ H => E cls d H) fix (defBody st) body) :
    FnOk P w K mg base (L2.CX P w) (k + 1) f fd ps (spD P w K mg (fnD N.length ps.length fix body)) := by
  obtain ⟨oc, od, kV, doc, pm, an, cdv, ct, osl, rfl, lk, hcd⟩ := Fu.ex
  have e : cdv = c := hcode
  subst e
  exact fn_of lk hcd S (fun vs H Q E h => spD_len fnD_len h) fun A outer s H vs Q E hr hsp => ⟨_, hb A outer s H E hr, body_end rfl rfl rfl rfl hsp⟩
end
end B
set_option Elab.async false
set_option linter.all false
set_option maxRecDepth 100000
namespace B
open PySem PySem.Spec PyProof.Rows L2 LamX
variable [TabT]
/-- a block's scope, by computing -/
def blkB (N : List Str) (sc scope : Scope) (own : List (Str × Nat)) : Bool :=
  decide (scope.kind = .function) && scope.names.all (fun y => decide (scope.names.lookup y.1 = some y.2)) && own.all (fun p => decide (N[p.2]? = some p.1)) &&
    scope.names.all (fun y => !decide (y.2 = .free) || decide (sc.names.lookup y.1 = some .cell) || decide (sc.names.lookup y.1 = some .free)) &&
    scope.names.all (fun y => !(decide (y.2 = .local) || decide (y.2 = .cell)) || (own.map (·.1)).contains y.1 || !N.contains y.1)
theorem blk_by {N : List Str} {sc scope : Scope} {own : List (Str × Nat)} (h : blkB N sc scope own = true) : BlkOk N sc scope own := by
  unfold blkB at h
  simp only [Bool.and_eq_true, Bool.or_eq_true, Bool.not_eq_true', decide_eq_true_eq, decide_eq_false_iff_not, List.all_eq_true, List.contains_iff_mem] at h
  obtain ⟨⟨⟨⟨h1, h2⟩, h3⟩, h4⟩, h5⟩ := h
  refine ⟨h1, h2, h3, fun y hy e => ?_, fun y hy e => ?_⟩
  · rcases h4 y hy with (z | z) | z
    · exact absurd e z
    · exact .inl z
    · exact .inr z
  · rcases h5 y hy with (z | z) | z
    · rcases e with e | e
      · rw [e] at z; simp at z
      · rw [e] at z; simp at z
    · exact .inl z
    · refine .inr fun q => ?_
      rw [List.contains_iff_mem.mpr q] at z
      cases z
end B
set_option Elab.async false
set_option linter.all false
set_option maxRecDepth 100000
namespace B
open PySem PySem.Spec PyProof.Rows L2 LamX
end B
set_option Elab.async false
set_option linter.all false
set_option maxRecDepth 100000
namespace B
open PySem PySem.Spec PyProof.Rows L2 LamX
end B
set_option Elab.async false
set_option linter.all false
set_option maxRecDepth 100000
namespace B
open PySem PySem.Spec PyProof.Rows L2 LamX
end B
set_option Elab.async false
set_option linter.all false
set_option maxRecDepth 100000
namespace B
open PySem PySem.Spec PyProof.Rows L2 LamX
end B
set_option Elab.async false
set_option linter.all false
set_option maxRecDepth 100000
namespace B
open PySem PySem.Spec PyProof.Rows L2 LamX
variable [TabT]
theorem pick_range {α : Type} : ∀ (n : Nat) (xs : List α), n ≤ xs.length → (List.range n).filterMap (xs[·]?) = xs.take n
  | 0, _, _ => by simp
  | n + 1, xs, h => by
    have hn : n < xs.length := h
    rw [List.range_succ, List.filterMap_append, pick_range n xs (by omega), List.take_succ]
    simp [List.getElem?_eq_getElem hn]
end B
set_option Elab.async false
set_option linter.all false
set_option maxRecDepth 100000
namespace B
open PySem PySem.Spec PyProof.Rows L2 LamX
variable [TabT]
section
variable {X : Cx} {W : WX} {F F1 F' F8 H H1 H' H8 : Hp} {σ : L2.St} {ρ ρ' : Ev} {S S' S8 : List Addr}
theorem Step.addF (s : Step F S H F8 S8 H8) {p : Addr} {o : HO} (hp : ¬ There H p) (h8 : H8 p = some o) (ho : ∀ ps, o ≠ HO.tbl ps) (f8 : F8 p = none) : Step F S H (upd F8 p o) S8 H8 where
  fsub := fun a u e => by
    have := s.fsub a u e
    rw [upd_ne (fun z => by rw [z, f8] at this; cases this)]
    exact this
  fnew := fun a u e => by
    by_cases z : a = p
    · exact .inr (.inl (z ▸ hp))
    · rw [upd_ne z] at e; exact s.fnew a u e
  snew := s.snew
  keep := s.keep
  there := s.there
  tabs := s.tabs
  fnt := fun t a ps => by
    by_cases z : a = p
    · rw [z, upd_same]; exact fun q => ho ps (Option.some.inj q)
    · rw [upd_ne z]; exact s.fnt t a ps
theorem Good.addF (g : Good X.prog X.w X.K F H σ ρ S) {p : Addr} {o : HO} (hp : H p = some o) (hf : F p = none) (hS : p ∉ S) (ho : ∀ ps, o ≠ HO.tbl ps) : Good X.prog X.w X.K (upd F p o) H σ ρ S :=
  g.ext (fun a u e => by rw [upd_ne fun z => by rw [z, hf] at e; cases e]; exact e) (fun a u e => by
    by_cases z : a = p
    · rw [z, upd_same] at e; rw [z, hp]; exact e
    · rw [upd_ne z] at e; exact g.sub a u e) (fun _ _ => rfl) (fun a ha => by
    rw [upd_ne (fun z : a = p => hS (by rw [← z]; exact ha))]; exact g.fr a ha) g.tab fun a ps => by
    by_cases z : a = p
    · rw [z, upd_same]; exact fun q => ho ps (Option.some.inj q)
    · rw [upd_ne z]; exact g.nt a ps
/-- an object more, that nobody owns -/
theorem limbo_step {p : Addr} {o : HO} (g : Good X.prog X.w X.K F H σ ρ S) (hp : H p = none) : Step F S H F S (upd H p o) ∧ Good X.prog X.w X.K F (upd H p o) σ ρ S := by
  have s := step_new (F := F) (o := o) hp
  have s1 : Step F S H F S (upd H p o) := by
    have := (s.less (S2 := []) fun _ q => nomatch q).beside (R := S)
    simpa using this
  exact ⟨s1, g.step (s.less (S2 := []) fun _ q => nomatch q) (sub_new g.sub hp) fun _ _ q => nomatch q⟩
end
end B
set_option Elab.async false
set_option linter.all false
set_option maxRecDepth 100000
namespace B
open PySem PySem.Spec PyProof.Rows L2 LamX
variable [TabT]
section
variable {X : Cx} {W : WX} {F F1 F' F8 H H1 H' H8 : Hp} {σ : L2.St} {ρ ρ' : Ev} {S S' S8 : List Addr} {fix : Nat → Bool}
theorem Step.same1 (s : Step F S H F' S' H') {a : Addr} {o : HO} (h : H a = some o) (ho : (∀ ps, o ≠ HO.tbl ps) ∧ ∀ q, o ≠ LamX.CodeO a q) (ha : a ∉ S) (hf : F a = none) : H' a = some o ∧ a ∉ S' ∧ F' a = none := by
  have t : Thr H a := ⟨o, h, ho⟩
  refine ⟨s.keep a o h ha ho.1, fun q => ?_, ?_⟩
  · rcases s.snew a q with z | z
    · exact ha z
    · exact z t.there
  · have := s.free (T := [a]) (fun b hb => by rw [List.mem_singleton] at hb; rw [hb]; exact t) (fun b hb => by rw [List.mem_singleton] at hb; rw [hb]; exact ha) (fun b hb => by rw [List.mem_singleton] at hb; rw [hb]; exact hf)
    exact this a (List.mem_singleton_self a)
end
end B
set_option Elab.async false
set_option linter.all false
set_option maxRecDepth 100000
namespace B
open PySem PySem.Spec PyProof.Rows L2 LamX
end B
set_option Elab.async false
set_option linter.all false
set_option maxRecDepth 100000
namespace B
open PySem PySem.Spec PyProof.Rows L2 LamX
section
variable [TabT] {P : Program} {w : World} {K : PySem.W.Frag} {mg : Str → Option Value}
theorem ints_owL {F H : Hp} : ∀ ns : List Int, OwL P w K F H (ns.map Dat.int) (ns.map V.int) []
  | [] => .nil
  | n :: ns => OwL.cons (S := []) (T := []) (.int n) (ints_owL ns)
theorem end_sp {D : DF} (hK : ∀ p ∈ K, (match p.2.cls with | .type c => c == "list" | _ => false) = false) (hD : ∀ ns : List Int, ns.length ≤ 63 → ∃ ev, D [.lst (ns.map Dat.int)] = some (.ok (.bl true), ev)) (H : Hp) (a : Addr) (ns : List Int) (hl : ns.length ≤ 63)
    (hT : ∀ p ∈ TabT.tabs, H p.1 = some (.tbl #[])) (hS : SqL K H a (ns.map V.int)) : spD P w K mg D [.ref a] H (fun v _ => v = .bl true) fun _ _ _ => False := by
  obtain ⟨ev, e⟩ := hD ns hl
  have hR : Rd H a (.lst (ns.map V.int)) := by
    rcases hS with h | ⟨o, its, n, h1, h2, _⟩
    · exact h
    · exfalso
      have hm : (a, o) ∈ K := by
        have : ∀ l : PySem.W.Frag, l.lookup a = some o → (a, o) ∈ l := fun l => by
          induction l with
          | nil => intro q; cases q
          | cons p r ih =>
            intro q
            rw [List.lookup_cons] at q
            split at q
            · rename_i z
              have z' : a = p.1 := by simpa using z
              cases q
              rw [z']
              exact List.mem_cons_self ..
            · exact List.mem_cons_of_mem _ (ih q)
        exact this K h1
      have := hK _ hm
      rw [h2] at this
      exact absurd this (by decide)
  let F : Hp := fun b => if b = a then H a else none
  have hF : ∀ b o, F b = some o → H b = some o := fun b o q => by
    by_cases z : b = a
    · subst z; have q : (if b = b then H b else none) = some o := q; rw [if_pos rfl] at q; exact q
    · have q : (if b = a then H a else none) = some o := q; rw [if_neg z] at q; cases q
  have hRF : Rd F a (.lst (ns.map V.int)) := by
    have ea : F a = H a := if_pos rfl
    rcases hR with h | ⟨o, h⟩
    · exact .inl (ea.trans h)
    · exact .inr ⟨o, ea.trans h⟩
  refine ⟨F, [], [.lst (ns.map Dat.int)], .ok (.bl true), ev, fun p hp => ⟨#[], hT p hp, trivial, fun pos cv q => by cases q⟩, fun b ps q => ?_, hF, OwL.cons (S := []) (T := []) (.lst hRF (ints_owL ns)) .nil, List.nodup_nil, (fun _ q => nomatch q), e, ?_⟩
  · by_cases z : b = a
    · subst z
      have ea : F b = H b := if_pos rfl
      rw [ea] at q
      rcases hR with h | ⟨o, h⟩
      · rw [h] at q; cases q
      · rw [h] at q; cases q
    · have q : (if b = a then H a else none) = some (HO.tbl ps) := q; rw [if_neg z] at q; cases q
  · intro v F' H' T S' _ _ ov _ _ _
    exact ov.bl_inv.1
end
end B
set_option Elab.async false
set_option linter.all false
set_option maxRecDepth 100000
namespace B
open PySem PySem.Spec PyProof.Rows L2 LamX
section
variable {K : PySem.W.Frag} {h : Heap} {mg : Str → Option Value} {R : Prop}
theorem use_def {f : Str} {st : Stmt} {a : Addr} {od an : Option Addr} {osl : Array (Option Value)} {kV doc pm cdv ct : Value} (X : K.In h) (G : h.Ns mainGlobals mg)
    (n : PySem.W.nsIn K mainGlobals f = some (some (.ref a))) (l : K.lookup a = some ⟨.type "function", od, .func (PySem.W.fnOf f f (defArgs st) (defBody st) (defScope st) .none kV doc pm an cdv ct), osl⟩) (c : PySem.W.codeIn K cdv f = true) (k : PySem.W.keepIn K (.ref a) = true)
    (cont : ∀ (a : Addr) (fd : FuncData), Fun K f f st a fd → mg f = some (.ref a) → (∃ o, K.lookup a = some o ∧ o.cls = .type "function") → R) : R :=
  cont a _ (fun_mk l c k) (PySem.W.mg_of X G n) ⟨_, l, rfl⟩
theorem use_lam {f : Str} {st : Stmt} {a kc t : Addr} {od an od2 : Option Addr} {osl sl2 : Array (Option Value)} {kV doc pm ct : Value} {vs : Array Value} (X : K.In h) (G : h.Ns mainGlobals mg)
    (n : PySem.W.nsIn K mainGlobals f = some (some (.ref a))) (l : K.lookup a = some ⟨.type "function", od, .func (PySem.W.fnOf f f (defArgs st) (defBody st) (defScope st) .none kV doc pm an (.ref kc) ct), osl⟩) (c : PySem.W.codeIn K (.ref kc) f = true) (k : PySem.W.keepIn K (.ref a) = true)
    (lc : K.lookup kc = some ⟨.type "code", od2, .fields vs, sl2⟩) (v : (vs[11]? : Option Value) = some (.ref t)) (hd : PySem.W.codeHdIn K kc t = true) (nt : K.lookup t = none)
    (cont : ∀ (a kc t' : Addr) (fd : FuncData), t' = t → Fun K f f st a fd → mg f = some (.ref a) → fd.code = .ref kc → PySem.W.CodeHd h kc t' → K.lookup t' = none → (∀ (s : Shared) (u : Value), ∀ x : Str, (∀ us : List Value, us.length = 1 → bindArgs fd ⟨us, []⟩ = pure ([x].zip us)) → BindsTo s fd ⟨[u], []⟩ [(x, u)]) → R) : R :=
  cont a kc t _ rfl (fun_mk l c k) (PySem.W.mg_of X G n) rfl (PySem.W.codeHd_of_K X hd) nt fun s u x hx => .of_eq (hx [u] rfl)
theorem withK (X : K.In h) (R : PySem.W.Frag → Prop) (r : R K) : R K := r
theorem use_no {x : Str} (X : K.In h) (G : h.Ns mainGlobals mg) (e : PySem.W.nsIn K mainGlobals x = some none) (cont : mg x = none → R) : R := cont (PySem.W.mg_none_of X G e)
theorem noLists (hx : (K.all fun p => !(match p.2.cls with | .type c => c == "list" | _ => false)) = true) : ∀ p ∈ K, (match p.2.cls with | .type c => c == "list" | _ => false) = false := fun p hp => by
  have := List.all_eq_true.mp hx p hp
  simpa using this
end
end B
set_option Elab.async false
set_option linter.all false
set_option maxRecDepth 100000
namespace B
open PySem PySem.Spec PyProof.Rows L2 LamX
variable [TabT]
/-- what e gives, frozen -/
def eFr (e : DE) : DE := fun ρ => bnd (e ρ) fun d ρ1 => some (.ok (frz d), ρ1)
section
variable {X : Cx} {W : WX}
theorem pd_fr {e : Expr} {de : DE} (h : PD X W e de) : PD X W e (eFr de) := PE.imp h fun σ H Q q => by
  obtain ⟨F, ρ, S, o, ρ', g, hd, ho⟩ := q
  unfold eFr at hd
  rcases bnd_inv hd with ⟨d, ρ1, h1, h2⟩ | ⟨x, h1, rfl⟩
  · simp only [Option.some.injEq, Prod.mk.injEq] at h2
    obtain ⟨rfl, rfl⟩ := h2
    refine ⟨F, ρ, S, .ok d, ρ1, g, h1, fun v F1 H1 T S1 st g1 o1 nd fr => ?_⟩
    obtain ⟨F2, s2, g2, o2⟩ := freezeT g1 o1 nd fr
    exact ho v F2 H1 [] S1 (st.trans s2) g2 o2 g2.nd fun _ q => nomatch q
  · exact ⟨F, ρ, S, .error x, ρ', g, h1, ho⟩
end
end B
set_option Elab.async false
set_option linter.all false
set_option maxRecDepth 100000
namespace B
open PySem PySem.Spec PyProof.Rows L2 LamX
end B
set_option Elab.async false
set_option linter.all false
set_option maxRecDepth 100000
set_option maxHeartbeats 2000000
namespace B
open PySem PySem.Spec PyProof.Rows L2 LamX
end B
set_option Elab.async false
set_option linter.all false
set_option maxRecDepth 100000
set_option maxHeartbeats 2000000
namespace B
open PySem PySem.Spec PyProof.Rows L2 LamX
variable [TabT]
theorem lamO_ok {P : Program} {w : World} {H : Hp} {h : Heap} {l : LamI} {c a : Addr} {pm ct : Value} (e : h.get? a = some (PySem.W.kla_obj "<lambda>" l.q l.ps l.body l.sc [] pm c ct)) : ObjOk P w H h a (lamO l c a) :=
  ⟨⟨pm, ct, e⟩, ⟨_, e⟩, fun h1 h2 φ kp => let ⟨pm, ct, e⟩ := φ; ⟨pm, ct, kp _ e⟩⟩
theorem lamO_ne {l : LamI} {c a : Addr} (ps : Array Value) : lamO l c a ≠ .tbl ps := fun z => by unfold lamO at z; cases z
section
variable {X : Cx} {pins : List (Addr × Obj)} {σ : L2.St} {H : Hp} {s : Shared}
/-- the lambda is made, and told of -/
theorem lam_makeV {T : List (Addr × Str)} {c P : Addr} {params : Arguments} {body : Expr} {scope : Scope} {pos : Pos} {E : Value → Shared → Prop} {Q : Value → Shared → Prop} (I : Inv X pins σ H s) (TB : TabB X.base X.mg c P) (hcode : X.env.code = .ref c)
    (hm : (P, X.env.qual ++ "<lambda>") ∈ T) (hu : ∀ p ∈ T, p.1 = P → p.2 = X.env.qual ++ "<lambda>") (hT : Tabs T H) (hdef : defaultsOf params X.env = ([], [])) (hfree : ∀ y ∈ scope.names, y.2 = .free → ∃ c, X.env.cells.lookup y.1 = some c) (hclo : cloFrom X.env.cells scope.names [] = [])
    (h : ∀ (f c' : Addr) (H1 : Hp) (s' : Shared), Inv X pins σ (upd H1 f (lamO ⟨X.env.qual ++ "<lambda>", params, body, scope⟩ c' f)) s' → ExtN H H1 → Tabs T H1 → H1 f = none → H1 c' = some (CodeO c' (X.env.qual ++ "<lambda>")) → Q (.ref f) s') :
    wpAny (model X.prog X.w) X.A (eval (.Lambda params body scope pos) X.env) Q E s := by
  obtain ⟨ps, hP, ht, ha⟩ := hT _ hm
  refine PySem.W.kla_eval hdef ?_
  have bP := TB.bm.keeps I.bk
  have hP' := I.hok P _ hP
  have cl := closure_ok hfree
  rw [hclo] at cl
  cases hc : codeAmong pos ps.toList with
  | none =>
    refine PySem.W.kla_makeFunction (mg := X.mg) (c := c) (P := P) (ps := ps) cl I.ok.glob (I.mod.glob.keeps I.bk) hcode (TB.code.keeps I.bk) hP' ht hc TB.gP bP fun c' ctv h' tk hx hge hlt hrec htb => ?_
    obtain ⟨c2, oc, vs, t, e2, hoc, hd, hv⟩ := hrec
    cases e2
    have nC : H c' = none := I.hok.fresh hge
    have I1 := inv_table (t' := tk) (more := #[rawInt pos.line, rawInt pos.col, .ref c']) (h' := h') I hP hx htb hge ⟨oc, vs, t, hoc, hd, hv⟩
    have hE : ExtN H (upd (upd H P (.tbl (ps ++ #[rawInt pos.line, rawInt pos.col, .ref c']))) c' (CodeO c' (X.env.qual ++ "<lambda>"))) := fun b o e n => by
      rw [upd_ne (ne_of_none e nC), upd_ne (fun z => n ps (Option.some.inj (e.symm.trans (by rw [z]; exact hP))))]
      exact e
    have fr := I1.hok.fresh (Nat.le_refl h'.objs.size)
    have eL : (ps ++ #[rawInt pos.line, rawInt pos.col, .ref c']).toList = ps.toList ++ [rawInt pos.line, rawInt pos.col, .ref c'] := by simp
    refine h h'.objs.size c' _ _ (I1.laid (a := h'.objs.size) (t' := tk) (fun b o e => Heap.get?_push_of_some _ e) (Nat.le_refl _) (lamO_ok (Heap.get?_push_size _ rfl))) hE (fun p hp => ?_) fr upd_same
    by_cases hb : p.1 = P
    · rw [hu p hp hb, hb]
      refine ⟨_, by rw [upd_ne (ne_of_none hP nC), upd_same], by rw [eL]; exact PySem.TriplesOk_snoc _ _ _ _ ht, fun p' cv hcv => ?_⟩
      rw [eL] at hcv
      rcases among_app _ ht hcv with z | z
      · obtain ⟨c0, e1, e2⟩ := ha p' cv z
        exact ⟨c0, e1, hE _ _ e2 codeO_ne⟩
      · exact ⟨c', z, upd_same⟩
    · obtain ⟨ps', a1, a2, a3⟩ := hT p hp
      refine ⟨ps', by rw [upd_ne (ne_of_none a1 nC), upd_ne hb]; exact a1, a2, fun p' cv hcv => ?_⟩
      obtain ⟨c0, e1, e2⟩ := a3 p' cv hcv
      exact ⟨c0, e1, hE _ _ e2 codeO_ne⟩
  | some cv =>
    obtain ⟨c', e, hco⟩ := ha pos cv hc
    subst e
    refine PySem.W.kla_makeFunctionHit (mg := X.mg) (c := c) (P := P) (ps := ps) cl I.ok.glob (I.mod.glob.keeps I.bk) hcode (TB.code.keeps I.bk) hP' ht hc bP fun ctv h' tk hx hsz => ?_
    have I1 : Inv X pins σ H { s with heap := h', toks := tk } := I.kept hx
    exact h h'.objs.size c' H _ (I1.laid (a := h'.objs.size) (t' := tk) (fun b o e => Heap.get?_push_of_some _ e) (Nat.le_refl _) (lamO_ok (Heap.get?_push_size _ rfl))) (ExtN.refl H) hT (I1.hok.fresh (Nat.le_refl _)) hco
/-- lambda ..: e, that captures nothing -/
theorem pd_lamV {W : WX} {k : Nat} {c P : Addr} {params : Arguments} {body : Expr} {scope : Scope} {pos : Pos} (hl : LamT.lam k = ⟨X.env.qual ++ "<lambda>", params, body, scope⟩) (TB : TabB X.base X.mg c P) (hcode : X.env.code = .ref c)
    (hm : (P, X.env.qual ++ "<lambda>") ∈ TabT.tabs) (hu : ∀ p ∈ TabT.tabs, p.1 = P → p.2 = X.env.qual ++ "<lambda>") (hdef : defaultsOf params X.env = ([], [])) (hno : scope.names.all (fun y => !decide (y.2 = .free)) = true) (hclo : cloFrom X.env.cells scope.names [] = []) :
    PD X W (.Lambda params body scope pos) (eC (.fn k)) := by
  refine ⟨fun pins s σ H Q I h => ?_⟩
  obtain ⟨F, ρ, S, o, ρ', g, hd, ho⟩ := h
  unfold eC at hd
  simp only [Option.some.injEq, Prod.mk.injEq] at hd
  obtain ⟨rfl, rfl⟩ := hd
  refine lam_makeV I TB hcode hm hu g.tab hdef (fun y hy e => ?_) hclo fun f c' H1 s' I1 eN tb hfn hco => ?_
  · have := List.all_eq_true.mp hno y hy
    simp [e] at this
  · rw [← hl] at I1
    have hcf : c' ≠ f := fun z => by rw [z, hfn] at hco; cases hco
    have up : ∀ b u, H1 b = some u → b ≠ f := fun b u e z => by rw [z, hfn] at e; cases e
    have hold : ∀ b u, H b = some u → (∀ ps, u ≠ HO.tbl ps) → upd H1 f (lamO (LamT.lam k) c' f) b = some u := fun b u e n => by
      have := eN b u e n
      rw [upd_ne (up b u this)]; exact this
    have hf0 : ∀ u, H f = some u → (∀ ps, u ≠ HO.tbl ps) → False := fun u e n => by
      have := eN f u e n
      rw [hfn] at this; cases this
    have ntF : ∀ a u, F a = some u → ∀ ps, u ≠ HO.tbl ps := fun a u e ps z => g.nt a ps (by rw [← z]; exact e)
    have Ff : F f = none := by
      cases z : F f with
      | none => rfl
      | some u => exact (hf0 u (g.sub f u z) (ntF f u z)).elim
    have Fc : ∀ u, F c' = some u → u = CodeO c' (LamT.lam k).q := fun u e => by
      have := eN c' u (g.sub c' u e) (ntF c' u e)
      rw [hco] at this
      rw [hl]
      exact (Option.some.inj this).symm
    have hco' : H1 c' = some (CodeO c' (LamT.lam k).q) := by rw [hl]; exact hco
    let F' : Hp := upd (upd F f (lamO (LamT.lam k) c' f)) c' (CodeO c' (LamT.lam k).q)
    have Fs : ∀ a u, F a = some u → F' a = some u := fun a u e => by
      by_cases z : a = c'
      · subst z
        rw [Fc u e]; exact upd_same
      · show upd _ _ _ a = _
        rw [upd_ne z, upd_ne (fun z => by rw [z, Ff] at e; cases e)]; exact e
    have Fsub : ∀ a u, F' a = some u → upd H1 f (lamO (LamT.lam k) c' f) a = some u := fun a u e => by
      by_cases z : a = c'
      · subst z
        have e : upd _ _ _ _ = some u := e
        rw [upd_same] at e
        rw [upd_ne hcf, hco']; exact e
      · have e : upd _ _ _ a = some u := e
        rw [upd_ne z] at e
        by_cases z2 : a = f
        · subst z2
          rw [upd_same] at e ⊢; exact e
        · rw [upd_ne z2] at e
          exact hold a u (g.sub a u e) (ntF a u e)
    have thrS : ∀ a ∈ S, a ≠ f ∧ a ≠ c' ∧ H1 a = H a := fun a ha => by
      obtain ⟨u, e, n1, n2⟩ := g.env.inH a ha
      have e1 := eN a u e n1
      refine ⟨up a u e1, fun z => ?_, by rw [e1, e]⟩
      rw [z, hco'] at e1
      exact n2 _ (by rw [← Option.some.inj e1, z])
    have nF' : NoTbl F' := fun a ps e => by
      have := Fsub a _ e
      by_cases z : a = f
      · rw [z, upd_same] at this
        exact lamO_ne ps (Option.some.inj this)
      · have e : upd _ _ _ a = some (HO.tbl ps) := e
        by_cases z2 : a = c'
        · rw [z2, upd_same] at e
          exact codeO_ne ps (Option.some.inj e)
        · rw [upd_ne z2, upd_ne z] at e
          exact g.nt a ps e
    have tb' : Tabs TabT.tabs (upd H1 f (lamO (LamT.lam k) c' f)) := tb.ext fun b u e => by rw [upd_ne (up b u e)]; exact e
    have st : Step F S H F' S (upd H1 f (lamO (LamT.lam k) c' f)) := {
      fsub := Fs
      fnew := fun a u e => by
        have e : upd _ _ _ a = some u := e
        by_cases z : a = c'
        · subst z
          rw [upd_same] at e
          by_cases t : There H a
          · obtain ⟨u', e', n'⟩ := t
            have := eN a u' e' n'
            rw [hco'] at this
            refine .inr (.inr (.inr ⟨⟨_, (Option.some.inj e).symm⟩, ?_⟩))
            rw [e', ← Option.some.inj this]; exact e
          · exact .inr (.inl t)
        · rw [upd_ne z] at e
          by_cases z2 : a = f
          · subst z2
            exact .inr (.inl fun ⟨u', e', n'⟩ => hf0 u' e' n')
          · rw [upd_ne z2] at e
            exact .inl e
      snew := fun a ha => .inl ha
      keep := fun a u e _ n => hold a u e n
      there := fun a ⟨u, e, n⟩ => ⟨u, hold a u e n, n⟩
      tabs := fun _ => tb'
      fnt := fun _ => nF' }
    have g' : Good X.prog X.w X.K F' (upd H1 f (lamO (LamT.lam k) c' f)) σ ρ S := g.ext Fs Fsub (fun a ha => by
      obtain ⟨h1, _, h3⟩ := thrS a ha
      rw [upd_ne h1]; exact h3) (fun a ha => by
      obtain ⟨h1, h2, _⟩ := thrS a ha
      show upd _ _ _ a = none
      rw [upd_ne h2, upd_ne h1]; exact g.fr a ha) tb' nF'
    have ow : Ow X.prog X.w X.K F' (upd H1 f (lamO (LamT.lam k) c' f)) (.fn k) (.ref f) [] := .fn (c := c') (by
      show upd _ _ _ f = _
      rw [upd_ne (Ne.symm hcf), upd_same]) upd_same
    exact ⟨.ref f, _, I1, rfl, ho (.ref f) F' _ [] S st g' ow g.nd fun _ q => nomatch q⟩
end
/-- what the lambda's call does -/
def LamOk (P : Program) (w : World) (K : PySem.W.Frag) (mg : Str → Option Value) (base : Heap) (j : Nat) (l : LamI) (D : DF) : Prop :=
  ∀ (A : Around) (outer : List Env) (s : Shared) (H : Hp) (f c' : Addr) (pm ct : Value) (us : List Value) (vs : List V) (Q : VK) (E : XK), Room (j + 1) A → Env0 P w K mg base A outer s H → s.heap.get? f = some (PySem.W.kla_obj "<lambda>" l.q l.ps l.body l.sc [] pm c' ct) → s.heap.CodeRec (.ref c') l.q → Vals vs us → spD P w K mg D vs H Q E →
    codeAny (model P w) A (.call (.ref f) ⟨us, []⟩) (CR (L2.CX P w) outer P w H s Q E) s
theorem ret_use {X : Cx} {W : WX} {fix : Nat → Bool} {de : DE} {D : Ends} {σ : L2.St} {H : Hp} (h : tS X W fix (sRet de) D σ H) : tE X W de σ H D.rt :=
  tE_bndS h fun d v F1 H1 T S1 ρ1 o ρ' g1 o1 nd fr hf ho => by
    simp only [Option.some.injEq, Prod.mk.injEq] at hf
    obtain ⟨rfl, rfl⟩ := hf
    exact ho v σ F1 H1 T S1 Step.refl g1 Fixed.refl o1 nd fr
theorem ok_lam {P : Program} {w : World} {K : PySem.W.Frag} {mg : Str → Option Value} {base : Heap} {j : Nat} {l : LamI} {N ps : List Str} {fix : Nat → Bool} {de : DE} (S : FnScope N ps l.sc)
    (hb : ∀ (pm c ct : Value) (us : List Value), us.length = ps.length → bindArgs (PySem.W.kla_fn "<lambda>" l.q l.ps l.body l.sc [] pm c ct) ⟨us, []⟩ = pure (ps.zip us))
    (hbody : ∀ (cdv : Value) (A : Around) (outer : List Env) (s : Shared) (H : Hp) (E : XK) (f : Addr), Room j (A.deeper (envOfC l.q l.sc s.heap.objs.size f cdv)) → PD (cxOf (L2.CX P w) P w K mg base N l.q l.sc f cdv A outer s H E) (fun cls d _ H => E cls d H) l.body de) :
    LamOk P w K mg base j l (fnD N.length ps.length fix (sRet de)) := by
  intro A outer s H f c' pm ct us vs Q E hr e0 hf hcr r h
  have hl : vs.length = ps.length := spD_len fnD_len h
  have hlu : us.length = ps.length := r.length.symm.trans hl
  have lim : s.heap.NoLimit := e0.mod.nolimit.keeps fun b o e => (e0.bs b o e).1
  have hkind : ∀ y ∈ ps.zip us, l.sc.names.lookup y.1 = some .local ∨ (l.sc.names.lookup y.1 = some .cell ∧ ((cellsFrom (s.heap.objs.size + 1) l.sc.names []).lookup y.1).isSome = true) := fun ⟨n, v⟩ hy => by
    rcases S.par n (List.of_mem_zip hy).1 with q | q
    · exact .inl q
    · exact .inr ⟨q, PySem.W.cellsFrom_some _ _ _ (.inl q)⟩
  refine PySem.W.kla_callFunE hr.depth hf rfl S.co S.gen rfl hcr ?_
  rw [hb _ _ _ _ hlu]
  refine wpAny_pure (wpAny_newFunctionEnv_cells S.kind hkind fun env he s1 x => ?_)
  subst he
  refine ⟨lim.keeps x.toInCall.keep, ?_⟩
  have I : Inv (cxOf (L2.CX P w) P w K mg base N l.q l.sc f (.ref c') A outer s H E) [] (L2.start N vs) H s1 := inv_start S hr.hd e0 hl r x
  have ht := ret_use (body_end (X := cxOf (L2.CX P w) P w K mg base N l.q l.sc f (.ref c') A outer s H E) rfl rfl rfl rfl h)
  have pd := hbody (.ref c') A outer s H E f (hr.deeper _)
  show codeAny _ _ (.expr l.body (envOfC l.q l.sc s.heap.objs.size f (.ref c'))) _ _
  refine PySem.W.kla_codeExpr (wpAny_mono (pd.run [] s1 (L2.start N vs) H _ I ht) (fun v s' hq => ?_) fun e s' hq => hq)
  obtain ⟨w', H', J', rv, q⟩ := hq
  exact ⟨w', H', J'.os, J'.bare, J'.base, J'.hok, rv, q⟩
section
variable {X : Cx} {F F1 F' H H1 H' : Hp} {σ σ1 : L2.St} {ρ ρ' : Ev} {S S1 S' T T' : List Addr} {W : WX}
theorem call_useK {f : DF} {as : DA} {Q : VK} {o : Rs Dat} (g : Good X.prog X.w X.K F H σ ρ S) (hd : eCall f as ρ = some (o, ρ')) (ho : outE X F S H σ W o ρ' Q) : tA X W as σ H fun vs H1 => (∀ a u, F a = some u → H1 a = some u) ∧ spD X.prog X.w X.K X.mg f vs H1 Q (WE W σ) := by
  unfold eCall at hd
  rcases bnd_inv hd with ⟨a, ρ1, h1, h2⟩ | ⟨x, h1, rfl⟩
  · refine ⟨F, ρ, S, .ok a, ρ1, g, h1, fun vs F1 H1 T1 S1 st g1 oa nd fr => ?_⟩
    split at h2
    · rename_i ds ρ2 e
      obtain ⟨T2, S2, o2, g2, sub2, nd2, fr2⟩ := take_ok g1 oa nd fr e
      have n2 := List.nodup_append.mp nd2
      split at h2
      · rename_i d ds' e2
        simp only [Option.some.injEq, Prod.mk.injEq] at h2
        obtain ⟨rfl, rfl⟩ := h2
        refine ⟨fun a u e => g1.sub a u (st.fsub a u e), F1, T2, ds, .ok d, ds', g1.tab, g1.nt, g1.sub, o2, n2.1, fr2, e2, fun v F' H' T' S' s2 hs2 ov er nd3 fr3 => ?_⟩
        have dis : ∀ a ∈ S2, a ∉ T2 := fun a h1 h2 => n2.2.2 a h2 a h1 rfl
        have g3 := g2.step s2 hs2 dis
        have dis3 : ∀ a ∈ T' ++ S', a ∉ S2 := fun a h1 h2 => by
          rcases s2.snew a h1 with q | q
          · exact dis a h2 q
          · exact q (g2.env.inH a h2).there
        have n3 := List.nodup_append.mp nd3
        have nd4 : (S' ++ S2).Nodup := List.nodup_append.mpr ⟨n3.2.1, g2.nd, fun a h1 b h2 e => dis3 a (List.mem_append_right _ h1) (e ▸ h2)⟩
        obtain ⟨S4, g4, h4⟩ := put_ok oa g3 er nd4 fun a ha => fr3 a (List.mem_append_right _ ha)
        have s3 : Step F1 (T2 ++ S2) H1 F' (T' ++ S4) H' := (s2.beside (R := S2)).less fun x hx => by
          rcases List.mem_append.mp hx with q | q
          · exact List.mem_append_left _ (List.mem_append_left _ q)
          · rcases List.mem_append.mp (h4 x q) with q | q
            · exact List.mem_append_left _ (List.mem_append_right _ q)
            · exact List.mem_append_right _ q
        refine ho v F' H' T' S4 (st.trans (s3.more sub2)) g4 ov ?_ fun a ha => fr3 a (List.mem_append_left _ ha)
        refine List.nodup_append.mpr ⟨n3.1, g4.nd, fun a h1 b h2 e => ?_⟩
        subst e
        rcases List.mem_append.mp (h4 a h2) with q | q
        · exact n3.2.2 a h1 a q rfl
        · exact dis3 a (List.mem_append_left _ h1) q
      · rename_i x ds' e2
        simp only [Option.some.injEq, Prod.mk.injEq] at h2
        obtain ⟨rfl, rfl⟩ := h2
        have ho' : errE X F S H σ ρ2 (excA a x) (fun c d H' => W c d σ H') := ho
        exact ⟨fun a u e => g1.sub a u (st.fsub a u e), F1, T2, ds, .error x, ds', g1.tab, g1.nt, g1.sub, o2, n2.1, fr2, e2, call_err oa g2 nd2 (ho'.after (st.trans ((Step.refl.less sub2))))⟩
      · cases h2
    · cases h2
  · exact ⟨F, ρ, S, .error x, ρ', g, h1, ho⟩
end
def eCallF (i : Nat) (S : Nat → Option DF) (as : DA) : DE := fun ρ => match ρ[i]? with
  | some (some (.fn k)) => match S k with
    | some D => eCall D as ρ
    | none => none
  | _ => none
section
variable {X : Cx} {W : WX} {i k : Nat} {S : Nat → Option DF} {x : Str} {p pos : Pos} {e : Expr} {es : List Expr} {as : DA}
theorem pd_callF (A : ∀ j D, S j = some D → LamOk X.prog X.w X.K X.mg X.base k (LamT.lam j) D) (hr : Room (k + 1) X.A) (hv : PE X (.Name x p) (tVar i)) (tk : Takes X W) (ha : PDA X W (e :: es) as)
    (he : starEach (e :: es) X.env = (false, eval e X.env) :: starEach es X.env := by rfl) (hpl : (backTo pos (starEach es X.env)).any (·.1) = false := by rfl) : PD X W (.Call (.Name x p) (e :: es) [] pos) (eCallF i S as) := by
  refine ⟨fun pins s σ H Q I h => ?_⟩
  obtain ⟨F, ρ, T, o, ρ', g, hd, ho⟩ := h
  unfold eCallF at hd
  split at hd
  · rename_i kk e0
    split at hd
    · rename_i D eS
      obtain ⟨v, T1, hσ, ov, _⟩ := g.get e0
      cases ov with
      | @fn _ f c' hF hC =>
      refine wpAny_Call_Name_kw (thn (hv.run pins s σ H (fun v H1 => v = .ref f ∧ H1 = H) I ⟨.ref f, hσ, rfl, rfl⟩) fun u s1 ⟨v, H1, I1, r1, q1⟩ => ?_)
      obtain ⟨rfl, rfl⟩ := q1
      cases r1
      have ht := call_useK (f := D) (as := as) (W := W) g hd ho
      obtain ⟨⟨pm, ct, ef⟩, _, _⟩ := I1.hok f _ (g.sub _ _ hF)
      refine PySem.W.callWith_F ⟨_, _, _, _, ef⟩ (thn (ha.run pos pins s1 σ _ _ I1 ht) fun us s2 ⟨vs, H2, I2, r, keep, q⟩ => ?_) he hpl
      obtain ⟨⟨pm2, ct2, ef2⟩, _, _⟩ := I2.hok f _ (keep _ _ hF)
      obtain ⟨⟨oc, ws, t, hoc, hdc, hvc⟩, _, _⟩ := I2.hok c' _ (keep _ _ hC)
      refine ⟨⟨_, _, _, _, ef2⟩, ?_⟩
      refine wpAny_call (codeAny_mono (A kk D eS X.A X.stack s2 H2 f c' pm2 ct2 us vs Q (WE W σ) hr I2.env0 ef2 ⟨c', oc, ws, t, rfl, hoc, hdc, hvc⟩ r q) fun r s' hq => ?_)
      cases r with
      | error e => exact passAt tk σ pins H2 s2 e s' I2 hq
      | ok fl =>
        cases fl with
        | ret u => exact I2.after hq
        | next => exact False.elim hq
        | brk => exact False.elim hq
        | cont => exact False.elim hq
    · cases hd
  · cases hd
end
end B
set_option Elab.async false
set_option linter.all false
set_option maxRecDepth 100000
set_option maxHeartbeats 2000000
namespace B
open PySem PySem.Spec PyProof.Rows L2 LamX
end B
set_option Elab.async false
set_option linter.all false
set_option maxRecDepth 100000
set_option maxHeartbeats 2000000
namespace B
open PySem PySem.Spec PyProof.Rows L2
end B
set_option Elab.async false
set_option linter.all false
set_option maxRecDepth 100000
set_option maxHeartbeats 2000000
namespace B
open PySem PySem.Spec PyProof.Rows L2
end B
set_option Elab.async false
set_option linter.all false
set_option maxRecDepth 100000
set_option maxHeartbeats 2000000
namespace B
open PySem PySem.Spec PyProof.Rows L2 LamX
variable [TabT]
structure KAcc (X : Cx) (F : Hp) (S : List Addr) (H : Hp) (D : Addr) (F5 H5 : Hp) (S5 : List Addr) (σ : L2.St) (ρ : Ev) (kvs : List (NestedKey × Addr × V)) (ksd wsd : List Dat) (T5 : List Addr) : Prop where
  st : Step F S H F5 (D :: T5 ++ S5) H5
  g : Good X.prog X.w X.K F5 H5 σ ρ S5
  hD : H5 D = some (dnO X.prog X.w D kvs)
  ky : KyL X.prog X.w X.K F5 H5 ksd kvs
  ol : OwL X.prog X.w X.K F5 H5 wsd (kvs.map (·.2.2)) T5
  nd : (D :: T5 ++ S5).Nodup
  fr : ∀ a ∈ D :: T5, F5 a = none
section
variable {X : Cx} {F F5 F8 F9 H H5 H8 H9 : Hp} {σ σ' : L2.St} {ρ ρ' : Ev} {S S5 S8 S9 T5 T9 : List Addr} {W : WX} {pos : Pos} {D : Addr} {kvs : List (NestedKey × Addr × V)} {ksd wsd : List Dat}
theorem KAcc.keepAll (L : KAcc X F S H D F5 H5 S5 σ ρ kvs ksd wsd T5) (s7 : Step F5 S5 H5 F8 S8 H8) : H8 D = some (dnO X.prog X.w D kvs) ∧ KyL X.prog X.w X.K F8 H8 ksd kvs ∧ OwL X.prog X.w X.K F8 H8 wsd (kvs.map (·.2.2)) T5 ∧ (∀ a ∈ D :: T5, F8 a = none) ∧ (∀ a ∈ D :: T5, a ∉ S8) ∧ Step F S H F8 (D :: T5 ++ S8) H8 := by
  have hin : ∀ a ∈ D :: T5, Thr H5 a := fun a ha => by
    rcases List.mem_cons.mp ha with q | q
    · exact ⟨dnO X.prog X.w D kvs, q ▸ L.hD, q ▸ dn_tc⟩
    · exact L.ol.inH a q
  have dis : ∀ a ∈ D :: T5, a ∉ S5 := fun a h1 h2 => (List.nodup_append.mp L.nd).2.2 a h1 a h2 rfl
  have sm := s7.same hin dis
  have fr := s7.free hin dis L.fr
  refine ⟨(sm D (List.mem_cons_self ..)).trans L.hD, L.ky.mono s7.fsub, L.ol.mono s7.fsub fun a ha => sm a (List.mem_cons_of_mem _ ha), fr, fun a h1 h2 => ?_, ?_⟩
  · rcases s7.snew a h2 with q | q
    · exact dis a h1 q
    · exact q (hin a h1).there
  · refine (L.st.trans (((s7.beside (R := D :: T5)).more fun x hx => ?_))).less fun x hx => ?_
    · exact List.mem_append.mpr (List.mem_append.mp hx).symm
    · exact List.mem_append.mpr (List.mem_append.mp hx).symm
theorem KAcc.put (L : KAcc X F S H D F5 H5 S5 σ ρ kvs ksd wsd T5) (sAll : Step F5 S5 H5 F9 (T9 ++ S9) H9) (g9 : Good X.prog X.w X.K F9 H9 σ' ρ' S9) {v : V} {kd vd : Dat} {kb : Addr} {key : NestedKey} (ok9 : Ow X.prog X.w X.K F9 H9 kd (.ref kb) []) (etk : tkey kd = some key) (o9 : Ow X.prog X.w X.K F9 H9 vd v T9) (nd9 : (T9 ++ S9).Nodup) (fr9 : ∀ a ∈ T9, F9 a = none) (hdr : dropsIm key ksd wsd = true) :
    H9 D = some (dnO X.prog X.w D kvs) ∧ KyL X.prog X.w X.K F9 H9 ksd kvs ∧ ∃ T', KAcc X F S H D F9 (upd H9 D (dnO X.prog X.w D (putN key kb v kvs))) S9 σ' ρ' (putN key kb v kvs) (dPut key kd vd ksd wsd).1 (dPut key kd vd ksd wsd).2 T' := by
  obtain ⟨k1, kky, k2, k3, k4, k5⟩ := L.keepAll sAll
  refine ⟨k1, kky, ?_⟩
  obtain ⟨T', q1, q2, q3⟩ := putN_ok ok9 etk o9 kky k2 hdr
  have hT9 : ∀ a ∈ T9, a ≠ D := fun a ha e => k4 D (List.mem_cons_self ..) (List.mem_append_left _ (e ▸ ha))
  have hT5 : ∀ a ∈ T5, a ≠ D := fun a ha e => by
    have n := List.nodup_cons.mp (show (D :: (T5 ++ S5)).Nodup from L.nd)
    exact n.1 (List.mem_append_left _ (e ▸ ha))
  have hT' : ∀ a ∈ T', a ≠ D := fun a ha => (List.mem_append.mp (q3.mem_iff.mp ha)).elim (hT5 a) (hT9 a)
  have hS9 : ∀ a ∈ S9, a ≠ D := fun a ha e => k4 D (List.mem_cons_self ..) (List.mem_append_right _ (e ▸ ha))
  have n9 := List.nodup_append.mp nd9
  have sw : Step F9 (D :: T5 ++ (T9 ++ S9)) H9 F9 (D :: T' ++ S9) (upd H9 D (dnO X.prog X.w D (putN key kb v kvs))) := ⟨fun _ _ e => e, fun _ _ e => .inl e, fun x hx => .inl (by
      rcases List.mem_append.mp hx with q | q
      · rcases List.mem_cons.mp q with q | q
        · rw [q]; simp
        · rcases List.mem_append.mp (q3.mem_iff.mp q) with q | q
          · exact List.mem_append_left _ (List.mem_cons_of_mem _ q)
          · exact List.mem_append_right _ (List.mem_append_left _ q)
      · exact List.mem_append_right _ (List.mem_append_right _ q)), fun a o q hx _ => by
        rw [upd_ne fun z => hx (by rw [z]; simp)]; exact q, fun a ⟨o, q, t⟩ => by
        by_cases z : a = D
        · exact ⟨_, by rw [z]; exact upd_same, kept_tbl (a := D) (.inr (.inl ⟨_, _, _, rfl⟩))⟩
        · exact ⟨o, by rw [upd_ne z]; exact q, t⟩, fun t => tabs_upd t k1 (.inr (.inl ⟨_, _, _, rfl⟩)), fun t => t⟩
  have sub9 : ∀ a o, F9 a = some o → upd H9 D (dnO X.prog X.w D (putN key kb v kvs)) a = some o := fun a o q => by
    rw [upd_ne fun z => by rw [z, k3 D (List.mem_cons_self ..)] at q; cases q]
    exact g9.sub a o q
  have g11 := g9.ext (F' := F9) (H' := upd H9 D (dnO X.prog X.w D (putN key kb v kvs))) (fun _ _ e => e) sub9 (fun a ha => upd_ne (hS9 a ha)) g9.fr (sw.tabs g9.tab) g9.nt
  refine ⟨T', k5.trans sw, g11, upd_same, q1.mono (fun _ _ e => e), q2.mono (fun _ _ e => e) (fun a ha => upd_ne (hT' a ha)), ?_, ?_⟩
  · show (D :: (T' ++ S9)).Nodup
    have n5 := List.nodup_cons.mp (show (D :: (T5 ++ S5)).Nodup from L.nd)
    have n5' := List.nodup_append.mp n5.2
    have nT : (T5 ++ T9).Nodup := List.nodup_append.mpr ⟨n5'.1, n9.1, fun a h1 b h2 e => k4 a (List.mem_cons_of_mem _ h1) (List.mem_append_left _ (e ▸ h2))⟩
    refine List.nodup_cons.mpr ⟨fun hm => ?_, List.nodup_append.mpr ⟨q3.nodup_iff.mpr nT, g9.nd, fun a h1 b h2 e => ?_⟩⟩
    · rcases List.mem_append.mp hm with q | q
      · exact hT' D q rfl
      · exact hS9 D q rfl
    · subst e
      rcases List.mem_append.mp (q3.mem_iff.mp h1) with q | q
      · exact k4 a (List.mem_cons_of_mem _ q) (List.mem_append_right _ h2)
      · exact n9.2.2 a q a h2 rfl
  · intro a ha
    rcases List.mem_cons.mp ha with q | q
    · rw [q]; exact k3 D (List.mem_cons_self ..)
    · rcases List.mem_append.mp (q3.mem_iff.mp q) with q | q
      · exact k3 a (List.mem_cons_of_mem _ q)
      · exact fr9 a q
end
end B
set_option Elab.async false
set_option linter.all false
set_option maxRecDepth 100000
set_option maxHeartbeats 2000000
namespace B
open PySem PySem.Spec PyProof.Rows L2 LamX
end B
namespace PySem.SeqAt
open PySem
end PySem.SeqAt
namespace B
open PySem PySem.Spec PyProof.Rows L2 LamX
end B
set_option Elab.async false
set_option linter.all false
set_option maxRecDepth 100000
set_option maxHeartbeats 2000000
namespace B
open PySem PySem.Spec PyProof.Rows L2 LamX
end B
set_option Elab.async false
set_option linter.all false
set_option maxRecDepth 100000
namespace B
open PySem PySem.Spec PyProof.Rows L2 LamX
end B
set_option Elab.async false
set_option linter.all false
set_option maxRecDepth 100000
set_option maxHeartbeats 2000000
namespace B
open PySem PySem.Spec PyProof.Rows L2
variable [TabT]
section
variable {X : Cx} {e : Expr} {es : List Expr} {ta : TA} {p pos : Pos}
/-- C(x, ..), held -/
def tMkV (C : Addr) (sp : Sp) (ta : TA) : TE := fun σ H Q => ta σ H fun vs H1 => vs.length ≤ 1000 ∧ ∀ a, H1 a = none → sp (.ref a :: vs) (upd H1 a (exo a C none)) (fun v H2 => v = .non ∧ Q (.ref a) H2) fun _ _ _ => False
theorem pe_oexV {CX : CXT} {x : Str} {C fI : Addr} {k : Nat} {fd : FuncData} {ps : List Str} {sp : Sp} (T : OexC X.K C) (iC : PySem.W.findIn X.K (.ref C) "__init__" = some (some (.ref fI))) (tI : PySem.W.typeIn X.K (.ref fI) = some (.type "function"))
    (F1 : FnOk X.prog X.w X.K X.mg X.base CX k fI fd ps sp) (hr : Room (k + 1) X.A) (hb : Binds X.K fd ps []) (hx : Passes CX X (fun _ _ _ => False)) (hg : Gl X x) (hm : X.mg x = some (.ref C)) (ha : PA X (e :: es) ta)
    (hdb : (x == ("__debug__" : Str)) = false := by decide) (he : starEach (e :: es) X.env = (false, eval e X.env) :: starEach es X.env := by rfl) (hpl : (backTo pos (starEach es X.env)).any (·.1) = false := by rfl) :
    PE X (.Call (.Name x p) (e :: es) [] pos) (tMkV C sp ta) := by
  refine ⟨fun pins s σ H Q I h => ?_⟩
  obtain ⟨nm, q, N, bs, bm, sn, sub, ab, col, dd, k0, k1, k2, k3, k5, hC, hbm⟩ := T.cls
  refine wpAny_Call_Name_kw (ld_glob I hg hm ?_ hdb)
  refine PySem.W.callWith_K (h₀ := X.base) I.ok.mod.kin T.kC (thn (ha.run pos pins s σ H _ I h) fun us s1 ⟨vs, H1, I1, r1, hz, q1⟩ => ⟨I1.kIn, ?_⟩) he hpl
  show wpAny _ _ (call (.ref C) us) _ _ _
  obtain ⟨hp, g, dr, tk, os⟩ := s1
  have hsz : hp.objs.size ≤ hp.objs.size + 1 := Nat.le_succ _
  have hn : H1 (hp.objs.size + 1) = none := I1.hok.fresh hsz
  have hq := q1 (hp.objs.size + 1) hn
  have kk : ∀ b o, hp.get? b = some o → ((hp.push (PySem.W.kdv_tup us)).push (PySem.HandSPX.excO C hp.objs.size)).get? b = some o := fun b o e => Heap.get?_push_of_some _ (Heap.get?_push_of_some _ e)
  have hget : ((hp.push (PySem.W.kdv_tup us)).push (PySem.HandSPX.excO C hp.objs.size)).get? (hp.objs.size + 1) = some (PySem.HandSPX.excO C hp.objs.size) := by heap_get
  have I2 : L2.Inv X pins σ (upd H1 (hp.objs.size + 1) (exo (hp.objs.size + 1) C none)) ⟨(hp.push (PySem.W.kdv_tup us)).push (PySem.HandSPX.excO C hp.objs.size), g, dr, tk, os⟩ :=
    I1.laid (t' := tk) (a := hp.objs.size + 1) (o := exo (hp.objs.size + 1) C none) (h' := (hp.push (PySem.W.kdv_tup us)).push (PySem.HandSPX.excO C hp.objs.size)) kk hsz (exo_ok hget)
  have r2 : Vals (V.ref (hp.objs.size + 1) :: vs) (Value.ref (hp.objs.size + 1) :: us) := .cons rfl r1
  have hl : (Value.ref (hp.objs.size + 1) :: us ++ []).length = ps.length := by
    rw [List.append_nil]
    have e := r2.length
    rw [F1.len _ _ _ _ hq] at e
    exact e.symm
  have hus : us.length ≤ sizeLine := by
    rw [← Paired.length r1, sizeLine_eq]
    omega
  refine wpAny_call (PySem.HandSPX.call_own F.excBase_ValueError (fun Y => PySem.HandSPX.refsVE_contains Y bm hbm) (I1.kIn _ _ hC) (PySem.W.looks_findIn I1.kIn iC) (fun self => PySem.W.bind_fn I1.kIn self tI) hus
    (codeAny_mono (F1.run _ X.stack _ _ ⟨Value.ref (hp.objs.size + 1) :: us, []⟩ (Value.ref (hp.objs.size + 1) :: us) _ _ (fun _ _ _ => False) (hr.make C us []) (I2.env0.make C us []) (by have := hb _ (Value.ref (hp.objs.size + 1) :: us) I2.kIn hl; rw [List.append_nil] at this; exact this) r2 hq) fun r s' hq' => ?_))
  cases r with
  | error er => exact hx pins σ _ _ er s' I2 hq'
  | ok fl =>
    cases fl with
    | ret u =>
      obtain ⟨v, H2, J, rv, ev, q2⟩ := I2.after hq'
      subst ev
      exact ⟨rv, ⟨.ref (hp.objs.size + 1), H2, J, rfl, q2⟩⟩
    | next => exact False.elim hq'
    | brk => exact False.elim hq'
    | cont => exact False.elim hq'
def tXo (K : PySem.W.Frag) (f : Str) (te : TE) : TE := fun σ H Q => te σ H fun x H1 => ∃ (a C dd : Addr) (fs : List (Str × V)) (v : V), x = .ref a ∧ XfC K C ∧ PySem.W.findIn K (.ref C) f = some none ∧ H1 a = some (exo a C (some dd)) ∧ H1 dd = some (exd dd fs) ∧ fs.lookup f = some v ∧ Q v H1
theorem pe_xo {e : Expr} {te : TE} {pos : Pos} {n : Str} (he : PE X e te) (hb : attributeBase e n X.env (eval e X.env) = eval e X.env := by rfl) : PE X (.Attribute e n pos) (tXo X.K n te) := by
  refine ⟨fun pins s σ H Q I h => ?_⟩
  refine attr_of hb (thn (he.run pins s σ H _ I h) fun u s1 hh => ?_)
  obtain ⟨x, H1, I1, rx, a, C, dd, fs, v, ex, T, hno, ea, ed, l, q⟩ := hh
  subst ex
  obtain rfl : u = Value.ref a := rx
  obtain ⟨t1, ha⟩ := exo_at I1.hok ea
  obtain ⟨mA, hns, hr⟩ := exd_at I1.hok ed
  obtain ⟨od, ho, hl⟩ := lookIn_ns hns
  obtain ⟨u, hu, ru⟩ := RelO.some_of (v := v) (o := mA n) (by rw [← l]; exact hr n)
  have J : PySem.W.InstAt s1.heap a _ C (some od) := ⟨ha, rfl, rfl, ho⟩
  exact HandSPX.exc_get I1.kIn J T.ga T.gg T.exC (PySem.W.findObj_own T.hdC hno rfl (by rw [hl, hu])) (handed_of ru) ⟨v, H1, I1.tok _, ru, q⟩
end
end B
set_option Elab.async false
set_option linter.all false
set_option maxRecDepth 100000
namespace B
open PySem PySem.Spec PyProof.Rows L2
variable [TabT]
section
variable {X : Cx} {W : WX} {e : Expr} {es : List Expr} {p pos : Pos}
/-- an error made, as data -/
def dMk (c : Nat) : List Dat → Option Dat
  | [d] => if im d = true ∧ (LamT.ob c).2.length = 1 then some (.ob c [d]) else none
  | _ => none
theorem upd3 {H : Hp} {a b : Addr} {x y z : HO} : upd (upd (upd H a x) b y) a z = upd (upd H b y) a z := by
  funext q
  by_cases h : q = a
  · rw [h, upd_same, upd_same]
  · rw [upd_ne h, upd_ne h]
    by_cases h2 : q = b
    · rw [h2, upd_same, upd_same]
    · rw [upd_ne h2, upd_ne h2, upd_ne h]
theorem ro_mk {c : Nat} {C : Addr} {fld : Str} (T : OexC X.K C) (hno : PySem.W.findIn X.K (.ref C) fld = some none) (hc : LamT.ob c = (C, [fld])) :
    RO X (fun vs H Q => vs.length ≤ 1000 ∧ ∀ a, H a = none → spInit X.K C fld (.ref a :: vs) (upd H a (exo a C none)) (fun v H2 => v = .non ∧ Q (.ref a) H2) fun _ _ _ => False) (dMk c) := by
  intro F H ds vs B d Q hs o e k
  unfold dMk at e
  split at e
  · rename_i d0
    split at e
    · rename_i hi
      have e := (Option.some.inj e).symm
      subst e
      obtain ⟨v, ws, S1, S2, rfl, rfl, od, ol⟩ := o.cons_inv
      cases ol
      refine ⟨(by decide : (1 : Nat) ≤ 1000), fun a ha => ⟨a, v, rfl, T, hno, upd_same, fun dx hdx hne => ⟨rfl, ?_⟩⟩⟩
      have hdx0 : H dx = none := by rw [upd_ne hne] at hdx; exact hdx
      have ex1 : ∀ ps, exd dx [(fld, v)] ≠ HO.tbl ps := fun ps z => by unfold exd at z; cases z
      have ex2 : ∀ ps, exo a C (some dx) ≠ HO.tbl ps := fun ps => exo_tbl
      rw [upd3]
      have s1 := step_newF (F := F) ex1 hs hdx0
      have sb1 := sub_newF (o := exd dx [(fld, v)]) hs (p := dx)
      have ha1 : upd H dx (exd dx [(fld, v)]) a = none := by rw [upd_ne (Ne.symm hne)]; exact ha
      have s2 := step_newF (F := upd F dx (exd dx [(fld, v)])) ex2 sb1 ha1
      have sb2 := sub_newF (o := exo a C (some dx)) sb1 (p := a)
      have e1 : (LamT.ob c).1 = C := by rw [hc]
      have e2 : (LamT.ob c).2 = [fld] := by rw [hc]
      have st := s1.trans s2
      have od2 := (od.ims hi.1).mono (H' := upd (upd H dx (exd dx [(fld, v)])) a (exo a C (some dx))) st.fsub fun _ q => nomatch q
      refine k (.ref a) _ _ [] st sb2 (.ob (d := dx) (vs := [v]) ?_ ?_ (by rw [e2]; rfl) (OwL.cons (S := []) (T := []) od2 .nil)) List.nodup_nil fun _ q => nomatch q
      · rw [upd_same, e1]
      · rw [upd_ne hne, upd_same, e2]; rfl
    · cases e
  · cases e
/-- C(e) -/
theorem pd_mkO {c : Nat} {cn fld : Str} {C fI : Addr} {k : Nat} {as : DA} (EC : ErrC X.prog X.w X.K X.mg X.base k cn fld C fI) (hc : LamT.ob c = (C, [fld])) (hr : Room (k + 1) X.A) (tk : Takes X W) (hg : Gl X cn) (ha : PDA X W [e] as)
    (hdb : (cn == ("__debug__" : Str)) = false := by decide) (he : starEach [e] X.env = (false, eval e X.env) :: starEach [] X.env := by rfl) (hpl : (backTo pos (starEach [] X.env)).any (·.1) = false := by rfl) :
    PD X W (.Call (.Name cn p) [e] [] pos) (eOp (dMk c) as) := by
  obtain ⟨fd, ps, FI, bI⟩ := EC.ini
  exact PE.imp (pe_oexV EC.oex EC.iC EC.tI FI hr bI passL hg EC.gC ha hdb he hpl) fun σ H Q h => ro_use (ro_mk EC.oex EC.no hc) h
/-- e.f -/
def dAt (f : Str) : List Dat → Option Dat
  | [.ob c ds] => (((LamT.ob c).2.zip ds).lookup f)
  | _ => none
/-- the classes of errors told as data -/
structure ObOk (K : PySem.W.Frag) (c : Nat) : Prop where
  xf : XfC K (LamT.ob c).1
  no : ∀ f ∈ (LamT.ob c).2, PySem.W.findIn K (.ref (LamT.ob c).1) f = some none
theorem OwL.look {F H : Hp} {f : Str} {d : Dat} : ∀ {ns : List Str} {ds : List Dat} {vs : List V}, OwL X.prog X.w X.K F H ds vs [] → (ns.zip ds).lookup f = some d → f ∈ ns ∧ ∃ v, (ns.zip vs).lookup f = some v ∧ Ow X.prog X.w X.K F H d v []
  | [], _, _, _, h => by cases h
  | n :: ns, [], _, _, h => by cases h
  | n :: ns, d0 :: ds, vs, o, h => by
    obtain ⟨v, ws, S1, S2, rfl, hS, od, ol⟩ := o.cons_inv
    obtain ⟨rfl, rfl⟩ := List.append_eq_nil_iff.mp hS.symm
    rw [List.zip_cons_cons, List.lookup_cons] at h
    by_cases e : f = n
    · rw [show (f == n) = true from by simpa using e] at h
      have h := Option.some.inj h
      subst h
      refine ⟨by rw [e]; exact List.mem_cons_self .., v, ?_, od⟩
      rw [List.zip_cons_cons, List.lookup_cons, show (f == n) = true from by simpa using e]
    · have hb : (f == n) = false := by simpa using e
      rw [hb] at h
      obtain ⟨h1, v', h2, h3⟩ := OwL.look (ns := ns) ol h
      exact ⟨List.mem_cons_of_mem _ h1, v', by rw [List.zip_cons_cons, List.lookup_cons, hb]; exact h2, h3⟩
theorem ro_at {f : Str} (hob : ∀ c, (LamT.ob c).2 ≠ [] → ObOk X.K c) :
    RO X (fun vs H Q => ∃ x, vs = [x] ∧ ∃ (a C dd : Addr) (fs : List (Str × V)) (v : V), x = .ref a ∧ XfC X.K C ∧ PySem.W.findIn X.K (.ref C) f = some none ∧ H a = some (exo a C (some dd)) ∧ H dd = some (exd dd fs) ∧ fs.lookup f = some v ∧ Q v H) (dAt f) := by
  intro F H ds vs B d Q hs o e k
  unfold dAt at e
  split at e
  · rename_i c ds'
    obtain ⟨x, ws, S1, S2, rfl, _, od, ol⟩ := o.cons_inv
    cases ol
    cases od with
    | @ob _ a dd vs' _ h1 h2 h3 h4 =>
      obtain ⟨hm, v, hv, ov⟩ := h4.look (ns := (LamT.ob c).2) e
      have O := hob c (fun z => by rw [z] at hm; cases hm)
      exact ⟨_, rfl, a, _, dd, _, v, rfl, O.xf, O.no f hm, hs _ _ h1, hs _ _ h2, hv, k v F H [] Step.refl hs ov List.nodup_nil fun _ q => nomatch q⟩
    | ob0 h1 h2 => rw [h2] at e; cases e
  · cases e
theorem pd_at {f : Str} {o : Expr} {co : DA → DA} (hob : ∀ c, (LamT.ob c).2 ≠ [] → ObOk X.K c) (ho : P1 X W o co) (hb : attributeBase o f X.env (eval o X.env) = eval o X.env := by rfl) : PD X W (.Attribute o f pos) (eOp (dAt f) (co aNil)) := by
  obtain ⟨t, pt, qt, mt⟩ := ho
  refine PE.imp (pe_xo pt hb) fun σ H Q h => ?_
  refine mt σ H _ _ (fun v H1 h1 => ?_) (qt _ σ H _ (ro_use (ro_at (f := f) hob) h))
  obtain ⟨x, ex, q⟩ := tA_nil h1
  obtain ⟨rfl, _⟩ := List.cons.inj ex
  exact q
end
end B
set_option Elab.async false
set_option linter.all false
set_option maxRecDepth 100000
namespace B
open PySem PySem.Spec PyProof.Rows L2
variable [TabT]
/-- what isinstance asks of an own class of errors -/
structure KitE (K : PySem.W.Frag) (C : Addr) : Prop where
  cl : (PySem.W.clsIn K C).isSome = true
  ga : PySem.W.findIn K (.ref C) "__getattribute__" = some (some (.builtin "BaseException.__getattribute__"))
  gg : PySem.W.findIn K (.ref C) "__getattr__" = some none
  ex : PySem.W.subIn K (.ref C) (.type "BaseException") = some true
  cc : PySem.W.findIn K (.ref C) "__class__" = some (some (.builtin "object.__class__"))
  sg : PySem.W.specialIn K (.builtin "object.__class__") "__get__" = some (some (.builtin "getset_descriptor.__get__"))
  tk : PySem.W.takesIn K (.builtin "object.__class__") = some true
  mr : PySem.W.mroIn K C (.type "object") = some true
/-- a class as a value -/
def clsU : V → Option Value
  | .ty T => some (.type T)
  | .ref D => some (.ref D)
  | _ => none
theorem clsU_rel {v : V} {u u' : Value} (h : clsU v = some u) (r : RelV v u') : u' = u := by
  cases v <;> first | (cases h; cases r; rfl) | cases h
section
variable {X : Cx} {W : WX} {p pos : Pos}
def rIsO (X : Cx) : List V → Hp → VK → Prop := fun xs H Q => ∃ (a C : Addr) (od : Option Addr) (v : V) (u : Value) (b : Bool), xs = [.ref a, v] ∧ H a = some (exo a C od) ∧ (od = none ∨ ∃ dd fs, od = some dd ∧ H dd = some (exd dd fs)) ∧ KitE X.K C ∧ clsU v = some u ∧ PySem.W.kitOne X.K (.ref C) u = some b ∧ Q (.bl b) H
theorem call_isO : CallR X (.builtin "isinstance") (rIsO X) := by
  intro pins s σ H xs us Q I r h
  obtain ⟨a, C, od, v, u, b, rfl, ha, hd, E, hu, hk, q⟩ := h
  obtain ⟨u1, u2, rfl, r1, r2⟩ := vals2 r
  cases r1
  have e2 := clsU_rel hu r2
  subst e2
  obtain ⟨t1, h1⟩ := exo_at I.hok ha
  have key : ∀ (ox : Obj) (odo : Option Obj), PySem.W.InstAt s.heap a ox C odo → wpAny (model X.prog X.w) X.A (call (.builtin "isinstance") [.ref a, u2]) (EP X pins σ Q) X.xe s := fun ox odo J =>
    PySem.W.kia_one (PySem.W.kitx_exc E.cl E.ga E.gg E.ex E.cc E.sg E.tk E.mr) I.kIn J hk (fun z => nomatch z) fun tk => ⟨.bl _, H, I.tok tk, rfl, q⟩
  rcases hd with rfl | ⟨dd, fs, rfl, hdd⟩
  · exact key _ none ⟨h1, rfl, rfl, trivial⟩
  · obtain ⟨mA, hns, _⟩ := exd_at I.hok hdd
    obtain ⟨odo, ho, _⟩ := lookIn_ns hns
    exact key _ (some odo) ⟨h1, rfl, rfl, ho⟩
end
end B
set_option Elab.async false
set_option linter.all false
set_option maxRecDepth 100000
namespace B
open PySem PySem.Spec PyProof.Rows L2
variable [TabT]
mutual
def sb (r : Addr) (t : Dat) : Dat → Dat
  | .raw (.ref a) => if a = r then t else .raw (.ref a)
  | .tup ds => .tup (sbs r t ds)
  | .lst ds => .lst (sbs r t ds)
  | .ol ds => .ol (sbs r t ds)
  | .ob c ds => .ob c (sbs r t ds)
  | .dic nk ks vs => .dic nk ks (sbs r t vs)
  | .od nk ks vs => .od nk ks (sbs r t vs)
  | d => d
def sbs (r : Addr) (t : Dat) : List Dat → List Dat
  | [] => []
  | d :: ds => sb r t d :: sbs r t ds
end
section
variable {X : Cx} {W : WX} {P : Program} {w : World} {K : PySem.W.Frag} {F F1 F' H H1 H' : Hp} {σ : L2.St} {ρ ρ' : Ev} {S S' : List Addr} {fix : Nat → Bool} {r : Addr} {t : Dat}
mutual
theorem Ow.sb (ht : Ow P w K F H t (.ref r) []) : ∀ {d : Dat} {v : V} {S : List Addr}, Ow P w K F H d v S → Ow P w K F H (sb r t d) v S
  | _, _, _, .fn h c => .fn h c
  | _, _, _, .non => .non
  | _, _, _, .bl b => .bl b
  | _, _, _, .int i => .int i
  | _, _, _, .str x => .str x
  | _, _, _, .raw v => by
    cases v with
    | ref a =>
      show Ow P w K F H (if a = r then t else .raw (.ref a)) (.ref a) []
      by_cases e : a = r
      · rw [if_pos e, e]; exact ht
      · rw [if_neg e]; exact .raw _
    | _ => exact .raw _
  | _, _, _, .tup h l => .tup h (OwL.sb ht l)
  | _, _, _, .lst h l => .lst h (OwL.sb ht l)
  | _, _, _, .ol h l => .ol h (OwL.sb ht l)
  | _, _, _, .dic h k l => .dic h k (OwL.sb ht l)
  | _, _, _, .od h k l => .od h k (OwL.sb ht l)
  | _, _, _, .dicK h k l => .dicK h k (OwL.sb ht l)
  | _, _, _, .odK h k l => .odK h k (OwL.sb ht l)
  | _, _, _, .ob h c e l => .ob h c e (OwL.sb ht l)
  | _, _, _, .ob0 h e => .ob0 h e
theorem OwL.sb (ht : Ow P w K F H t (.ref r) []) : ∀ {ds : List Dat} {vs : List V} {S : List Addr}, OwL P w K F H ds vs S → OwL P w K F H (sbs r t ds) vs S
  | _, _, _, .nil => .nil
  | _, _, _, .cons h l => .cons (Ow.sb ht h) (OwL.sb ht l)
end
theorem EnvR.sb (ht : Ow P w K F H t (.ref r) []) (e : EnvR P w K F H σ ρ S) : EnvR P w K F H σ (ρ.map (Option.map (sb r t))) S := by
  induction e with
  | nil => exact .nil
  | no _ ih => exact .no ih
  | so h _ ih => exact .so (Ow.sb ht h) ih
end
end B
set_option Elab.async false
set_option linter.all false
set_option maxRecDepth 100000
namespace B
open PySem PySem.Spec PyProof.Rows L2 LamX
variable [TabT]
noncomputable def sHeldR (i : Nat) (x w : Str) (dm : DS) : DS := fun ρ =>
  open Classical in if h : i < ρ.length ∧ ∃ R, ∀ a : Addr, ∃ ρ1, dm (ρ.set i (some (.raw (.ref a)))) = some (.nx, ρ1) ∧ ρ1[i]? = some (some (.raw (.ref a))) ∧ ρ1.map (Option.map (sb a (.lst [.str x, .str w]))) = R then some (.nx, choose h.2) else none
section
variable {X : Cx} {W : WX} {F F1 F' H H1 H' : Hp} {σ : L2.St} {ρ ρ' : Ev} {S S' : List Addr} {fix : Nat → Bool}
theorem Step.updAt (s : Step F S H F' S' H') {q : Addr} {vs us : List V} (tq : ¬ There H q) (hq : H' q = some (.lst vs)) : Step F S H F' S' (upd H' q (.lst us)) :=
  ⟨s.fsub, s.fnew, s.snew, fun a u e ha hn => by
    rw [upd_ne (fun z : a = q => tq (by rw [← z]; exact ⟨u, e, hn⟩))]; exact s.keep a u e ha hn, fun a t => by
    by_cases z : a = q
    · exact absurd (by rw [← z]; exact t) tq
    · obtain ⟨u, e, hn⟩ := s.there a t
      exact ⟨u, by rw [upd_ne z]; exact e, hn⟩, fun t => tabs_upd (s.tabs t) hq (.inl ⟨_, rfl⟩), s.fnt⟩
theorem pdss_heldR {i : Nat} {x vx wx : Str} {e0 e1 : Expr} {s2 s3 : Stmt} {rest : List Stmt} {d2 d3 dr : DS} {px ps pl px2 pa pc pe : Pos} (hN : X.N.Nodup) (hi : X.N[i]? = some x) (hx : Loc X.env.scope x) (hfi : fix i = false) (hv : PE X (.Name x px2) (tVar i))
    (h0 : PE X e0 (tC (.str vx))) (h1 : PE X e1 (tC (.str wx))) (h2 : PDS X W fix s2 d2) (h3 : PDS X W fix s3 d3) (hr : PDSs X W fix rest dr)
    (hs : swapsWith (.List [e0] pl) (some (.Name x px)) ps.line X.env = pure false := by rfl) (hf : X.fn x = true ∨ X.env.scope.names.lookup x = some .local := by first | exact .inl rfl | exact .inr rfl | assumption)
    (he : starEach [e0] X.env = (false, eval e0 X.env) :: starEach [] X.env := by rfl) (hbase : attributeBase (.Name x px2) "append" X.env (eval (.Name x px2) X.env) = eval (.Name x px2) X.env := by rfl)
    (hfew : ((backTo pc (starEach [e1] X.env)).all (fun x => !x.1) && (backToKw pc (keywordEach [] X.env)).all (fun x => x.1.isSome)
      && decide ([e1].length + ([] : List Keyword).length + (if ([] : List Keyword).isEmpty then 0 else 1) < 30)) = true := by rfl)
    (hline : (pa.endLine == pc.line) = true := by rfl) (he2 : starEach [e1] X.env = (false, eval e1 X.env) :: starEach [] X.env := by rfl) (hplain : (backTo pc (starEach [] X.env)).any (·.1) = false := by rfl)
    (hs2 : swapsWith (.Call (.Attribute (.Name x px2) "append" pa) [e1] [] pc) none pe.line X.env = pure false := by rfl) :
    PDSs X W fix (.Assign [.Name x px] (.List [e0] pl) ps :: s2 :: s3 :: .Expr (.Call (.Attribute (.Name x px2) "append" pa) [e1] [] pc) pe :: rest) (sSeq (sHeldR i vx wx (sSeq d2 d3)) dr) := by
  refine PSs.imp (pss_cons (ps_set hN hi hx (pe_lst (pa_cons h0 pa_nil he)) hs hf) (pss_cons h2 (pss_cons h3 (pss_cons (ps_expr (pe_bm PySem.F.plainAttrs_list PySem.F.slot_list_append PySem.F.type_list_append mt_append hv (pa_cons h1 pa_nil he2) hbase hfew hline he2 hplain) hs2) hr)))) fun D σ H h => ?_
  obtain ⟨F, ρ, S, o, ρ', g, hd, ho⟩ := h
  have hd : sThen (sHeldR i vx wx (sSeq d2 d3) ρ) dr = some (o, ρ') := hd
  unfold sHeldR at hd
  split at hd
  case isFalse => cases hd
  rename_i hc
  have spec := Classical.choose_spec hc.2
  generalize Classical.choose hc.2 = R at hd spec
  have hd : dr R = some (o, ρ') := hd
  have hil := hc.1
  refine ⟨(by decide : (1 : Nat) ≤ sizeLine), fun q hq => ?_⟩
  obtain ⟨ρ1, r1, r2, r3⟩ := spec q
  have tq : ¬ There H q := not_there hq
  obtain ⟨sq, gq⟩ := limbo_step (o := .lst [.str vx]) g hq
  obtain ⟨S2, g2, hS2⟩ := gq.set (T := []) (i := i) hil (.raw (.ref q)) (by simpa using gq.nd) (fun _ z => nomatch z)
  have hS2' : ∀ a ∈ S2, a ∈ S := fun a ha => by simpa using hS2 a ha
  have s02 : Step F S H F S2 (upd H q (.lst [.str vx])) := sq.less hS2'
  have q2 : q ∉ S2 := fun z => tq (g.env.inH q (hS2' q z)).there
  have qF : F q = none := by
    cases z : F q with
    | none => rfl
    | some u => have := g.sub q u z; rw [hq] at this; cases this
  have last : ∀ σ' F' H' S', Step F S2 (upd H q (.lst [.str vx])) F' S' H' → Good X.prog X.w X.K F' H' σ' ρ1 S' → Fixed fix (σ.set i (some (.ref q))) σ' →
      tDrop (tBM X.K "list" rAppend (tVar i) (tCons (tC (.str wx)) tNil)) { D with nx := tS X W fix dr D } σ' H' := by
    intro σ' F' H' S' st gg fx
    obtain ⟨k1, k2, k3⟩ := st.same1 (a := q) upd_same lst_tc q2 qF
    obtain ⟨v, S1, hσ, ov, _⟩ := gg.get r2
    cases ov
    refine ⟨.ref q, hσ, .inl ⟨rfl, [.str vx], SqL.of k1⟩, q, [.str vx], .str wx, rfl, rfl, k1, (by decide : (1 : Nat) < sizeLine), ?_⟩
    have g3 : Good X.prog X.w X.K F' (upd H' q (.lst ([.str vx] ++ [.str wx]))) σ' ρ1 S' := gg.ext (fun _ _ e => e) (fun a u e => by
      rw [upd_ne fun z => by rw [z, k3] at e; cases e]; exact gg.sub a u e) (fun a ha => upd_ne (fun z : a = q => k2 (by rw [← z]; exact ha))) gg.fr (tabs_upd gg.tab k1 (.inl ⟨_, rfl⟩)) gg.nt
    have lnt : ∀ ps, HO.lst ([V.str vx] ++ [V.str wx]) ≠ HO.tbl ps := fun _ z => by cases z
    have g4 := g3.addF (p := q) (o := .lst ([.str vx] ++ [.str wx])) upd_same k3 k2 lnt
    have ow : Ow X.prog X.w X.K (upd F' q (.lst ([.str vx] ++ [.str wx]))) (upd H' q (.lst ([.str vx] ++ [.str wx]))) (.lst [.str vx, .str wx]) (.ref q) [] := .lst (.inl upd_same) (OwL.cons (S := []) (T := []) (.str vx) (OwL.cons (S := []) (T := []) (.str wx) .nil))
    have g5 : Good X.prog X.w X.K (upd F' q (.lst ([.str vx] ++ [.str wx]))) (upd H' q (.lst ([.str vx] ++ [.str wx]))) σ' R S' := ⟨g4.sub, by rw [← r3]; exact g4.env.sb ow, g4.nd, g4.fr, g4.tab, g4.nt⟩
    have sA := ((s02.trans st).updAt (us := [.str vx] ++ [.str wx]) tq k1).addF (o := .lst ([.str vx] ++ [.str wx])) tq upd_same lnt k3
    exact ⟨_, R, S', o, ρ', g5, hd, ho.after sA (Fixed.trans (Fixed.set hfi) fx)⟩
  have mid : tS X W fix (sSeq d2 d3) { D with nx := tDrop (tBM X.K "list" rAppend (tVar i) (tCons (tC (.str wx)) tNil)) { D with nx := tS X W fix dr D } } (σ.set i (some (.ref q))) (upd H q (.lst [.str vx])) := ⟨F, _, S2, .nx, ρ1, g2, r1, fun σ' F' H' S' st gg fx => last σ' F' H' S' st gg fx⟩
  exact tS_seq mid
end
end B
set_option Elab.async false
set_option linter.all false
set_option maxRecDepth 100000
set_option maxHeartbeats 1000000
namespace B
open PySem PySem.Spec PySem.Calls PyProof.Rows PySem.HandSPX
section
variable {M : Model} {A : Around} {E : Value → Shared → Prop} {h : Heap} {g : Array GenState} {d : Drawn} {t : Nat} {os : OsState}
variable {nm q : Str} {C N : Addr} {bs bm bmB : List Value} {hdct : Bool} {sn : List Str} {sub : List Value} {ab : Bool} {col : Option Bool} {dd : Option Addr} {k0 k1 k2 k3 k5 : Option Value} {B newId initId : String}
theorem kw_check_new (F : ExcBaseFacts B newId initId bmB) (hT : ∀ X : String, bm.contains (.type X) = bmB.contains (.type X)) {kws : List (Str × Value)} {Q : Unit → Shared → Prop}
    (hC : h.get? C = some (excClassObj nm q C N bs bm hdct sn sub ab col dd k0 k1 k2 k3 k5 newId)) (hq : Q () ⟨h, g, d, t, os⟩) : wpAny M A (checkBuiltinCall newId ⟨[.ref C], kws⟩) Q E ⟨h, g, d, t, os⟩ := by
  have hm : (Value.ref C :: bm).contains (.type B) = true := by rw [List.contains_cons, hT, F.hasB, Bool.or_true]
  have hs := F.noStar
  simp only [checkBuiltinCall, F.newKind, F.newSplit, F.newRow]
  repeat (first | refine wpAny_loadPart_at hC ?_ | (refine wpAny_isSubtype_exc hC ?_; rw [hm]) | refine wpAny_staticBase_exc hC ?_ | refine wpAny_madeBy_exc hC ?_ | simp only [bne_self_eq_false, Bool.false_eq_true, if_false] | wp_step)
  exact hq
end
end B
set_option Elab.async false
set_option linter.all false
set_option maxRecDepth 100000
set_option maxHeartbeats 2000000
namespace B
open PySem PySem.Spec PySem.Calls PyProof.Rows PySem.HandSPX
section
variable {prog : Program} {w : World} {A : Around} {E : Value → Shared → Prop} {R : Result → Shared → Prop} {h : Heap} {g : Array GenState} {d : Drawn} {t : Nat} {os : OsState}
variable {nm q : Str} {C N : Addr} {bs bm bmB : List Value} {hdct : Bool} {sn : List Str} {sub : List Value} {ab : Bool} {col : Option Bool} {dd : Option Addr} {k0 k1 k2 k3 k5 : Option Value} {B newId initId : String}
theorem kw_new (F : ExcBaseFacts B newId initId bmB) (hT : ∀ X : String, bm.contains (.type X) = bmB.contains (.type X)) {kws : List (Str × Value)}
    (hC : h.get? C = some (excClassObj nm q C N bs bm hdct sn sub ab col dd k0 k1 k2 k3 k5 newId))
    (hq : R (.ok (.ret (.ref (h.objs.size + 1)))) ⟨(h.push { cls := .type "tuple", data := .seq #[] }).push { cls := .ref C, data := .fields #[.ref h.objs.size, .none, .none, .none, .bool false, .none] }, g, d, t, os⟩) :
    codeAny (model prog w) A (.builtin newId ⟨[.ref C], kws⟩) R ⟨h, g, d, t, os⟩ := by
  have he := F.ends
  have c1 : (Value.ref C :: bm).contains (.type B) = true := by rw [List.contains_cons, hT, F.hasB, Bool.or_true]
  have c2 : (Value.ref C :: bm).contains (.type "AttributeError") = false := by rw [List.contains_cons, hT, F.noAttr]; rfl
  have c3 : (Value.ref C :: bm).contains (.type "NameError") = false := by rw [List.contains_cons, hT, F.noName]; rfl
  have hl : ([] : List Value).length ≤ sizeLine := Nat.zero_le _
  refine codeAny_builtinAt F.entry ?_
  unfold Builtin.«BaseException.__new__»
  refine PyProof.Rows.wpAt_bind ?_
  show PyProof.Rows.wpAt _ _ _ (stack >>= _) _ _ _
  refine PyProof.Rows.wpAt_bind (PyProof.Rows.wpAt_stack fun p below => PySem.wpAt_of_wpAny ?_)
  wp_walk
  refine PySem.wpAt_of_wpAny ?_
  rw [F.owner]
  repeat (first | with_reducible refine wpAny_madeHere_exc F.canon hC ?_ | with_reducible refine wpAny_loadPart_at hC ?_ | (with_reducible refine wpAny_isSubtype_exc hC ?_; first | rw [c1] | rw [c2] | rw [c3]) | wp_step)
  show R _ _
  rw [Heap.size_push]
  exact hq
end
end B
set_option Elab.async false
set_option linter.all false
set_option maxRecDepth 100000
set_option maxHeartbeats 2000000
namespace B
open PySem PySem.Spec PySem.Calls PyProof.Rows PySem.HandSPX
section
variable {prog : Program} {w : World} {A : Around} {E : Value → Shared → Prop} {R : Result → Shared → Prop} {h : Heap} {g : Array GenState} {d : Drawn} {t : Nat} {os : OsState}
variable {nm q : Str} {C N : Addr} {bs bm bmB : List Value} {hdct : Bool} {sn : List Str} {sub : List Value} {ab : Bool} {col : Option Bool} {dd : Option Addr} {k0 k1 k2 k3 k5 : Option Value} {B newId initId : String}
theorem kw_type_call (F : ExcBaseFacts B newId initId bmB) (hT : ∀ X : String, bm.contains (.type X) = bmB.contains (.type X)) {kws : List (Str × Value)} {fI : Addr} {Q : Fin → Shared → Prop}
    (hC : h.get? C = some (excClassObj nm q C N bs bm hdct sn sub ab col dd k0 k1 k2 k3 k5 newId))
    (hi : W.Looks (model prog w) h (typeLookup (.ref C) "__init__") (some (.ref fI))) (hb : ∀ self, W.Looks (model prog w) h (bindSpecial (.ref fI) self) (.ref fI, [self]))
    (hq : codeAny (model prog w) A (.call (.ref fI) ⟨[.ref (h.objs.size + 1)], kws⟩)
      (fun r s' => match r with | .ok (.ret v) => v = .none ∧ Q (.done (.ret (.ref (h.objs.size + 1)))) s' | .ok _ => False | .error e => E e s')
      ⟨(h.push (W.kdv_tup [])).push (excO C h.objs.size), g, d, t, os⟩) :
    wpAny (model prog w) A (Builtin.«type.__call__» ⟨[.ref C], kws⟩) Q E ⟨h, g, d, t, os⟩ := by
  repeat (first | with_reducible refine wpAny_loadPart_at hC ?_ | with_reducible refine wpAny_madeBy_exc hC ?_ | wp_step)
  refine codeAny_call_builtin_code (Code.quiet_builtin _ F.quiet) (kw_check_new F hT hC ?_)
  refine kw_new F hT hC ?_
  show wpAny _ _ _ _ _ _
  have kk : ∀ b o, h.get? b = some o → ((h.push (W.kdv_tup [])).push (excO C h.objs.size)).get? b = some o := fun b o e => Heap.get?_push_of_some _ (Heap.get?_push_of_some _ e)
  have c1 := kk _ _ hC
  have g1 : ((h.push (W.kdv_tup [])).push (excO C h.objs.size)).get? (h.objs.size + 1) = some (excO C h.objs.size) := by heap_get
  have cc : (Value.ref C :: bm).contains (.ref C) = true := by simp
  have i1 := hi.keeps kk
  have b1 := (hb (.ref (h.objs.size + 1))).keeps kk
  unfold isInstance
  repeat (first | with_reducible refine wpAny_loadPart_at g1 ?_ | (with_reducible refine wpAny_isSubtype_exc c1 ?_; rw [cc]) | wp_step)
  show wpAny _ _ (typeLookup (.ref C) _) _ _ _
  refine i1.at ?_
  refine wpAny_holding (wpAny_bind (b1.at ?_))
  refine wpAny_bind (wpAny_call (codeAny_mono hq fun r s' z => ?_))
  rcases r with e | (v | _ | _ | _) <;> first | exact z | exact z.elim | skip
  obtain ⟨rfl, z⟩ := z
  first
    | exact wpAny_pure (wpAny_pure z)
    | (wp_walk; exact z)
end
end B
set_option Elab.async false
set_option linter.all false
set_option maxRecDepth 100000
set_option maxHeartbeats 2000000
namespace B
open PySem PySem.Spec PySem.Calls PyProof.Rows PySem.HandSPX
section
variable {prog : Program} {w : World} {A : Around} {E : Value → Shared → Prop} {R : Result → Shared → Prop} {h : Heap} {g : Array GenState} {d : Drawn} {t : Nat} {os : OsState}
variable {nm q : Str} {C N : Addr} {bs bm bmB : List Value} {hdct : Bool} {sn : List Str} {sub : List Value} {ab : Bool} {col : Option Bool} {dd : Option Addr} {k0 k1 k2 k3 k5 : Option Value} {B newId initId : String}
theorem kw_check_call {M : Model} {kws : List (Str × Value)} {Q : Unit → Shared → Prop} (hC : h.get? C = some (excClassObj nm q C N bs bm hdct sn sub ab col dd k0 k1 k2 k3 k5 newId))
    (hq : Q () ⟨h, g, d, t, os⟩) : wpAny M A (checkBuiltinCall "type.__call__" ⟨[.ref C], kws⟩) Q E ⟨h, g, d, t, os⟩ := by
  have s1 := tc_sub
  have ty : (⟨h, g, d, t, os⟩ : Shared).TypeIs (.ref C) "type" := ⟨_, hC, rfl⟩
  simp only [checkBuiltinCall, tc_kind, tc_split]
  repeat (any_goals (first | assumption | with_reducible refine wpAny_loadPart_at hC ?_ | with_reducible refine wpAny_onRaise ?_ | with_reducible refine wpAny_map ?_ | wp_step))
theorem kw_call (F : ExcBaseFacts B newId initId bmB) (hT : ∀ X : String, bm.contains (.type X) = bmB.contains (.type X)) {kws : List (Str × Value)} {fI : Addr}
    (hC : h.get? C = some (excClassObj nm q C N bs bm hdct sn sub ab col dd k0 k1 k2 k3 k5 newId))
    (hi : W.Looks (model prog w) h (typeLookup (.ref C) "__init__") (some (.ref fI))) (hb : ∀ self, W.Looks (model prog w) h (bindSpecial (.ref fI) self) (.ref fI, [self]))
    (hq : codeAny (model prog w) (A.under (.builtin "type.__call__" ⟨[.ref C], kws⟩)) (.call (.ref fI) ⟨[.ref (h.objs.size + 1)], kws⟩) (W.InitBack (h.objs.size + 1) R)
      ⟨(h.push (W.kdv_tup [])).push (excO C h.objs.size), g, d, t, os⟩) :
    codeAny (model prog w) A (.call (.ref C) ⟨[], kws⟩) R ⟨h, g, d, t, os⟩ := by
  have s1 := tc_lookup
  have s2 := tc_bind (.ref C)
  have ty : (⟨h, g, d, t, os⟩ : Shared).TypeIs (.ref C) "type" := ⟨_, hC, rfl⟩
  refine codeAny_of_tree ?_
  show wpAny _ _ (callAny (.ref C) _) _ _ _
  repeat (any_goals (first | assumption | with_reducible refine wpAny_loadPart_at hC ?_ | wp_step))
  refine ⟨rfl, ?_⟩
  refine codeAny_call_builtin_at (Code.quiet_builtin _ (by decide +kernel)) entry_typeCall (kw_check_call hC (kw_type_call F hT hC hi hb ?_))
  refine codeAny_mono hq fun r s' z => ?_
  rcases r with e | (v | _ | _ | _) <;> exact z
end
end B
set_option Elab.async false
set_option linter.all false
set_option maxRecDepth 100000
set_option maxHeartbeats 2000000
namespace B
open PySem PySem.Spec PyProof.Rows L2
variable [TabT]
section
variable {X : Cx} {p pos : Pos} {kws : List Keyword} {tk : TA}
/-- C(k = x, ..), held -/
def tMkK (C : Addr) (m : Nat) (pm : List Nat) (sp : Sp) (tk : TA) : TE := fun σ H Q => tk σ H fun zs H1 => zs.length = m ∧ ∀ a, H1 a = none → sp (gP pm [.ref a] zs) (upd H1 a (exo a C none)) (fun v H2 => v = .non ∧ Q (.ref a) H2) fun _ _ _ => False
theorem pe_oexVK {CX : CXT} {x : Str} {C fI : Addr} {k : Nat} {fd : FuncData} {ps ks : List Str} {pm : List Nat} {sp : Sp} (T : OexC X.K C) (iC : PySem.W.findIn X.K (.ref C) "__init__" = some (some (.ref fI))) (tI : PySem.W.typeIn X.K (.ref fI) = some (.type "function"))
    (F1 : FnOk X.prog X.w X.K X.mg X.base CX k fI fd ps sp) (hr : Room (k + 1) X.A) (hb : KBn X.K fd ps 1 ks (gP pm) (gP pm)) (hx : Passes CX X (fun _ _ _ => False)) (hg : Gl X x) (hm : X.mg x = some (.ref C)) (hkw : PK X kws tk)
    (hall : (backToKw pos (keywordEach kws X.env)).all (·.1.isSome) = true := by rfl) (hks : (backToKw pos (keywordEach kws X.env)).filterMap (·.1) = ks := by rfl) (hdb : (x == ("__debug__" : Str)) = false := by decide)
    (hpl : ((backTo pos (starEach [] X.env)).any (·.1) || (backToKw pos (keywordEach kws X.env)).any (·.1.isNone)) = false := by rfl) :
    PE X (.Call (.Name x p) [] kws pos) (tMkK C ks.length pm sp tk) := by
  refine ⟨fun pins s σ H Q I h => ?_⟩
  obtain ⟨nm, q, N, bs, bm, sn, sub, ab, col, dd, k0, k1, k2, k3, k5, hC, hbm⟩ := T.cls
  refine wpAny_Call_Name_kw (ld_glob I hg hm ?_ hdb)
  refine PySem.W.callWith_KW0 (h₀ := X.base) I.ok.mod.kin T.kC hall ?_ hpl
  refine thn (hkw.run pos pins s σ H _ I h) fun ws s1 ⟨zs, H1, I1, rz, hl, q1⟩ => ⟨I1.kIn, ?_⟩
  rw [hks]
  show wpAny _ _ (call (.ref C) [] (ks.zip ws)) _ _ _
  obtain ⟨hp, g, dr, tkn, os⟩ := s1
  have hsz : hp.objs.size ≤ hp.objs.size + 1 := Nat.le_succ _
  have hn : H1 (hp.objs.size + 1) = none := I1.hok.fresh hsz
  have hq := q1 (hp.objs.size + 1) hn
  have kk : ∀ b o, hp.get? b = some o → ((hp.push (PySem.W.kdv_tup [])).push (PySem.HandSPX.excO C hp.objs.size)).get? b = some o := fun b o e => Heap.get?_push_of_some _ (Heap.get?_push_of_some _ e)
  have hget : ((hp.push (PySem.W.kdv_tup [])).push (PySem.HandSPX.excO C hp.objs.size)).get? (hp.objs.size + 1) = some (PySem.HandSPX.excO C hp.objs.size) := by heap_get
  have I2 : L2.Inv X pins σ (upd H1 (hp.objs.size + 1) (exo (hp.objs.size + 1) C none)) ⟨(hp.push (PySem.W.kdv_tup [])).push (PySem.HandSPX.excO C hp.objs.size), g, dr, tkn, os⟩ :=
    I1.laid (t' := tkn) (a := hp.objs.size + 1) (o := exo (hp.objs.size + 1) C none) (h' := (hp.push (PySem.W.kdv_tup [])).push (PySem.HandSPX.excO C hp.objs.size)) kk hsz (exo_ok hget)
  have r1 : Vals [V.ref (hp.objs.size + 1)] [Value.ref (hp.objs.size + 1)] := .cons rfl .nil
  have r2 := hb.rel r1 rz
  refine wpAny_call (kw_call F.excBase_ValueError (fun Y => PySem.HandSPX.refsVE_contains Y bm hbm) (I1.kIn _ _ hC) (PySem.W.looks_findIn I1.kIn iC) (fun self => PySem.W.bind_fn I1.kIn self tI)
    (codeAny_mono (F1.run _ X.stack _ _ ⟨[Value.ref (hp.objs.size + 1)], ks.zip ws⟩ (gP pm [Value.ref (hp.objs.size + 1)] ws) _ _ (fun _ _ _ => False) (hr.make C [] (ks.zip ws)) (I2.env0.make C [] (ks.zip ws)) (hb.to _ [Value.ref (hp.objs.size + 1)] ws I2.kIn rfl (rz.length.symm.trans hl)) r2 hq) fun r s' hq' => ?_))
  cases r with
  | error er => exact hx pins σ _ _ er s' I2 hq'
  | ok fl =>
    cases fl with
    | ret u =>
      obtain ⟨v, H2, J, rv, ev, q2⟩ := I2.after hq'
      subst ev
      exact ⟨rv, ⟨.ref (hp.objs.size + 1), H2, J, rfl, q2⟩⟩
    | next => exact False.elim hq'
    | brk => exact False.elim hq'
    | cont => exact False.elim hq'
end
end B
set_option Elab.async false
set_option linter.all false
set_option maxRecDepth 100000
set_option maxHeartbeats 2000000
namespace B
open PySem PySem.Spec PyProof.Rows L2
variable [TabT]
section
variable {X : Cx} {W : WX} {p pos : Pos}
/-- C(), of a class of errors without own __init__ -/
theorem pe_exc0 {C : Addr} {bmB : List Value} {Bn newId initId : String} {x : Str} (F : ExcBaseFacts Bn newId initId bmB) (q : PySem.W.excIn X.K C bmB newId = true) (gC : X.mg x = some (.ref C)) (kC : PySem.W.keepIn X.K (.ref C) = true) (hg : Gl X x) (hdb : (x == ("__debug__" : Str)) = false := by decide) :
    PE X (.Call (.Name x p) [] [] pos) (fun σ H Q => ∀ a, H a = none → Q (.ref a) (upd H a (exo a C none))) := by
  refine ⟨fun pins s σ H Q I h => ?_⟩
  refine wpAny_Call_Name_kw (ld_glob I hg gC ?_ hdb)
  refine PySem.W.callWith_K0 I.kIn kC ?_
  obtain ⟨bm, N, nm, qn, bs, hdct, sn, sub, ab, col, dd, k0, k1, k2, k3, k5, mN, hC, hN, hni, T⟩ := exc_obj I.kIn q
  refine wpAny_call_exc_subT F T hC hN hni (fun h' a hm => ?_) (by show 0 ≤ sizeLine; exact Nat.zero_le _)
  have hn : H a = none := I.hok.gone hm.new
  obtain ⟨t, ht, _, _⟩ := hm.there
  exact ⟨.ref a, upd H a (exo a C none), I.laidN hm.keeps hm.new hn (exo_ok ht), rfl, h a hn⟩
end
end B
set_option Elab.async false
set_option linter.all false
set_option maxRecDepth 100000
namespace B
open PySem PySem.Spec PyProof.Rows L2
variable [TabT]
section
variable {X : Cx} {W : WX} {p pos : Pos}
def dMk0 (c : Nat) : List Dat → Option Dat
  | [] => if (LamT.ob c).2 = [] then some (.ob c []) else none
  | _ => none
theorem ro_mk0 {c : Nat} {C : Addr} (hc : LamT.ob c = (C, [])) : RO X (fun vs H Q => ∀ a, H a = none → Q (.ref a) (upd H a (exo a C none))) (dMk0 c) := by
  intro F H ds vs B d Q hs o e k
  unfold dMk0 at e
  split at e
  · split at e
    · have e := (Option.some.inj e).symm
      subst e
      intro a ha
      have s := step_newF (F := F) (o := exo a C none) (fun ps => exo_tbl) hs ha
      exact k (.ref a) _ _ [] s (sub_newF hs) (.ob0 (by rw [upd_same, hc]) (by rw [hc])) List.nodup_nil fun _ q => nomatch q
    · cases e
  · cases e
/-- C() -/
theorem pd_mk0 {c : Nat} {C : Addr} {bmB : List Value} {Bn newId initId : String} {x : Str} (F : ExcBaseFacts Bn newId initId bmB) (q : PySem.W.excIn X.K C bmB newId = true) (hc : LamT.ob c = (C, [])) (gC : X.mg x = some (.ref C)) (kC : PySem.W.keepIn X.K (.ref C) = true) (hg : Gl X x) (hdb : (x == ("__debug__" : Str)) = false := by decide) :
    PD X W (.Call (.Name x p) [] [] pos) (eOp (dMk0 c) aNil) := PE.imp (pe_exc0 F q gC kC hg hdb) fun σ H Q h => tA_nil (ro_use (ro_mk0 hc) h)
end
end B
set_option Elab.async false
set_option linter.all false
set_option maxRecDepth 100000
namespace B
open PySem PySem.Spec PyProof.Rows L2
variable [TabT]
/-- the class cn, at C, whose __init__ at fI keeps one field, by place and by name -/
structure ErrK (P : Program) (w : World) (K : PySem.W.Frag) (mg : Str → Option Value) (base : Heap) (k : Nat) (cn fld : Str) (C fI : Addr) : Prop where
  oex : OexC K C
  gC : mg cn = some (.ref C)
  iC : PySem.W.findIn K (.ref C) "__init__" = some (some (.ref fI))
  tI : PySem.W.typeIn K (.ref fI) = some (.type "function")
  no : PySem.W.findIn K (.ref C) fld = some none
  ini : ∃ fd ps, FnOk P w K mg base (L2.CX P w) k fI fd ps (spInit K C fld) ∧ Binds K fd ps [] ∧ KBn K fd ps 1 [fld] (gP [0, 1]) (gP [0, 1])
theorem ErrK.c {P : Program} {w : World} {K : PySem.W.Frag} {mg : Str → Option Value} {base : Heap} {k : Nat} {cn fld : Str} {C fI : Addr} (h : ErrK P w K mg base k cn fld C fI) : ErrC P w K mg base k cn fld C fI :=
  ⟨h.oex, h.gC, h.iC, h.tI, h.no, let ⟨fd, ps, a, b, _⟩ := h.ini; ⟨fd, ps, a, b⟩⟩
/-- .. two fields -/
def spInit2 (K : PySem.W.Frag) (C : Addr) (f1 f2 : Str) : Sp := fun vs H Q E => ∃ a v1 v2, vs = [.ref a, v1, v2] ∧ OexC K C ∧ PySem.W.findIn K (.ref C) f1 = some none ∧ PySem.W.findIn K (.ref C) f2 = some none ∧ H a = some (exo a C none) ∧ ∀ dx, H dx = none → dx ≠ a → Q .non (upd (upd (upd H dx (exd dx [(f1, v1)])) a (exo a C (some dx))) dx (exd dx [(f2, v2), (f1, v1)]))
structure ErrK2 (P : Program) (w : World) (K : PySem.W.Frag) (mg : Str → Option Value) (base : Heap) (k : Nat) (cn f1 f2 : Str) (C fI : Addr) : Prop where
  oex : OexC K C
  gC : mg cn = some (.ref C)
  iC : PySem.W.findIn K (.ref C) "__init__" = some (some (.ref fI))
  tI : PySem.W.typeIn K (.ref fI) = some (.type "function")
  no1 : PySem.W.findIn K (.ref C) f1 = some none
  no2 : PySem.W.findIn K (.ref C) f2 = some none
  ini : ∃ fd ps, FnOk P w K mg base (L2.CX P w) k fI fd ps (spInit2 K C f1 f2) ∧ Binds K fd ps [] ∧ KBn K fd ps 1 [f2, f1] (gP [0, 2, 1]) (gP [0, 2, 1])
section
variable {X : Cx} {W : WX} {e : Expr} {es : List Expr} {p pos kpos kpos2 : Pos} {kw : List Keyword}
/-- C(f = e) -/
theorem pd_mkOK {c : Nat} {cn fld : Str} {C fI : Addr} {k : Nat} {ck : DA → DA} (EC : ErrK X.prog X.w X.K X.mg X.base k cn fld C fI) (hc : LamT.ob c = (C, [fld])) (hr : Room (k + 1) X.A) (hg : Gl X cn) (hkw : P1Kw X W kw ck) (hl : kw.length = 1 := by rfl)
    (hall : (backToKw pos (keywordEach kw X.env)).all (·.1.isSome) = true := by rfl) (hks : (backToKw pos (keywordEach kw X.env)).filterMap (·.1) = [fld] := by rfl) (hdb : (cn == ("__debug__" : Str)) = false := by decide)
    (hpl : ((backTo pos (starEach [] X.env)).any (·.1) || (backToKw pos (keywordEach kw X.env)).any (·.1.isNone)) = false := by rfl) :
    PD X W (.Call (.Name cn p) [] kw pos) (eOp (dMk c) (ck aNil)) := by
  obtain ⟨fd, ps, FI, bI, kI⟩ := EC.ini
  obtain ⟨t2, ht2, mt2, qt2⟩ := hkw
  refine PE.imp (pe_oexVK EC.oex EC.iC EC.tI FI hr kI passL hg EC.gC ht2 hall hks hdb hpl) fun σ H Q h => ?_
  have h1 := ro_use (ro_mk EC.oex EC.no hc) h
  refine mt2 σ H _ _ (fun zs H2 ⟨l2, q2⟩ => ?_) (qt2 _ σ H _ h1)
  have q3 := tA_nil q2
  rw [List.append_nil] at q3
  rw [hl] at l2
  obtain ⟨z, rfl⟩ : ∃ z, zs = [z] := match zs, l2 with | [z], _ => ⟨z, rfl⟩
  exact ⟨rfl, q3.2⟩
/-- an error of two fields made, as data -/
def dMk2 (c : Nat) : List Dat → Option Dat
  | [d1, d2] => if im d1 = true ∧ im d2 = true ∧ (LamT.ob c).2.length = 2 then some (.ob c [d2, d1]) else none
  | _ => none
def dMk2K (c : Nat) : List Dat → Option Dat
  | [d2, d1] => dMk2 c [d1, d2]
  | _ => none
theorem core_mk2 {c : Nat} {C : Addr} {f1 f2 : Str} {F H : Hp} {d1 d2 d : Dat} {v1 v2 : V} {S1 S2 : List Addr} {Q : VK} (T : OexC X.K C) (no1 : PySem.W.findIn X.K (.ref C) f1 = some none) (no2 : PySem.W.findIn X.K (.ref C) f2 = some none) (hc : LamT.ob c = (C, [f2, f1]))
    (hs : ∀ a o, F a = some o → H a = some o) (o1 : Ow X.prog X.w X.K F H d1 v1 S1) (o2 : Ow X.prog X.w X.K F H d2 v2 S2) (e : dMk2 c [d1, d2] = some d)
    (k : ∀ v F' H' T, Step F [] H F' T H' → (∀ a o, F' a = some o → H' a = some o) → Ow X.prog X.w X.K F' H' d v T → T.Nodup → (∀ a ∈ T, F' a = none) → Q v H') :
    ∀ a, H a = none → spInit2 X.K C f1 f2 [.ref a, v1, v2] (upd H a (exo a C none)) (fun v H2 => v = .non ∧ Q (.ref a) H2) fun _ _ _ => False := by
  intro a ha
  have e : (if im d1 = true ∧ im d2 = true ∧ (LamT.ob c).2.length = 2 then some (Dat.ob c [d2, d1]) else none) = some d := e
  · split at e
    · rename_i hi
      have e := (Option.some.inj e).symm
      subst e
      refine ⟨a, v1, v2, rfl, T, no1, no2, upd_same, fun dx hdx hne => ⟨rfl, ?_⟩⟩
      have hdx0 : H dx = none := by rw [upd_ne hne] at hdx; exact hdx
      have ex1 : ∀ ps, exd dx [(f2, v2), (f1, v1)] ≠ HO.tbl ps := fun ps z => by unfold exd at z; cases z
      have ex2 : ∀ ps, exo a C (some dx) ≠ HO.tbl ps := fun ps => exo_tbl
      have eqH : upd (upd (upd (upd H a (exo a C none)) dx (exd dx [(f1, v1)])) a (exo a C (some dx))) dx (exd dx [(f2, v2), (f1, v1)]) = upd (upd H dx (exd dx [(f2, v2), (f1, v1)])) a (exo a C (some dx)) := by
        funext q
        by_cases h : q = dx
        · subst h
          rw [upd_same, upd_ne hne, upd_same]
        · rw [upd_ne h]
          by_cases h2 : q = a
          · rw [h2, upd_same, upd_same]
          · rw [upd_ne h2, upd_ne h, upd_ne h2, upd_ne h2, upd_ne h]
      rw [eqH]
      have s1 := step_newF (F := F) ex1 hs hdx0
      have sb1 := sub_newF (o := exd dx [(f2, v2), (f1, v1)]) hs (p := dx)
      have ha1 : upd H dx (exd dx [(f2, v2), (f1, v1)]) a = none := by rw [upd_ne (Ne.symm hne)]; exact ha
      have s2 := step_newF (F := upd F dx (exd dx [(f2, v2), (f1, v1)])) ex2 sb1 ha1
      have sb2 := sub_newF (o := exo a C (some dx)) sb1 (p := a)
      have e1 : (LamT.ob c).1 = C := by rw [hc]
      have e2 : (LamT.ob c).2 = [f2, f1] := by rw [hc]
      have st := s1.trans s2
      have od1 := (o1.ims hi.1).mono (H' := upd (upd H dx (exd dx [(f2, v2), (f1, v1)])) a (exo a C (some dx))) st.fsub fun _ q => nomatch q
      have od2 := (o2.ims hi.2.1).mono (H' := upd (upd H dx (exd dx [(f2, v2), (f1, v1)])) a (exo a C (some dx))) st.fsub fun _ q => nomatch q
      refine k (.ref a) _ _ [] st sb2 (.ob (d := dx) (vs := [v2, v1]) ?_ ?_ (by rw [e2]; rfl) (OwL.cons (S := []) (T := []) od2 (OwL.cons (S := []) (T := []) od1 .nil))) List.nodup_nil fun _ q => nomatch q
      · rw [upd_same, e1]
      · rw [upd_ne hne, upd_same, e2]; rfl
    · cases e
theorem ro_mk2 {c : Nat} {C : Addr} {f1 f2 : Str} (T : OexC X.K C) (no1 : PySem.W.findIn X.K (.ref C) f1 = some none) (no2 : PySem.W.findIn X.K (.ref C) f2 = some none) (hc : LamT.ob c = (C, [f2, f1])) :
    RO X (fun vs H Q => vs.length ≤ 1000 ∧ ∀ a, H a = none → spInit2 X.K C f1 f2 (.ref a :: vs) (upd H a (exo a C none)) (fun v H2 => v = .non ∧ Q (.ref a) H2) fun _ _ _ => False) (dMk2 c) := by
  intro F H ds vs B d Q hs o e k
  match ds, e with
  | [d1, d2], e =>
    obtain ⟨v1, v2, S1, S2, rfl, o1, o2⟩ := o.two
    exact ⟨(by simp), core_mk2 T no1 no2 hc hs o1 o2 e k⟩
theorem ro_mk2K {c : Nat} {C : Addr} {f1 f2 : Str} (T : OexC X.K C) (no1 : PySem.W.findIn X.K (.ref C) f1 = some none) (no2 : PySem.W.findIn X.K (.ref C) f2 = some none) (hc : LamT.ob c = (C, [f2, f1])) :
    RO X (fun vs H Q => vs.length = 2 ∧ ∀ a, H a = none → spInit2 X.K C f1 f2 (gP [0, 2, 1] [.ref a] vs) (upd H a (exo a C none)) (fun v H2 => v = .non ∧ Q (.ref a) H2) fun _ _ _ => False) (dMk2K c) := by
  intro F H ds vs B d Q hs o e k
  match ds, e with
  | [d2, d1], e =>
    obtain ⟨v2, v1, S2, S1, rfl, o2, o1⟩ := o.two
    exact ⟨rfl, core_mk2 T no1 no2 hc hs o1 o2 e k⟩
/-- C(e1, e2) -/
theorem pd_mk2 {c : Nat} {cn f1 f2 : Str} {C fI : Addr} {k : Nat} {as : DA} (EC : ErrK2 X.prog X.w X.K X.mg X.base k cn f1 f2 C fI) (hc : LamT.ob c = (C, [f2, f1])) (hr : Room (k + 1) X.A) (hg : Gl X cn) (ha : PDA X W (e :: es) as)
    (hdb : (cn == ("__debug__" : Str)) = false := by decide) (he : starEach (e :: es) X.env = (false, eval e X.env) :: starEach es X.env := by rfl) (hpl : (backTo pos (starEach es X.env)).any (·.1) = false := by rfl) :
    PD X W (.Call (.Name cn p) (e :: es) [] pos) (eOp (dMk2 c) as) := by
  obtain ⟨fd, ps, FI, bI, _⟩ := EC.ini
  exact PE.imp (pe_oexV EC.oex EC.iC EC.tI FI hr bI passL hg EC.gC ha hdb he hpl) fun σ H Q h => ro_use (ro_mk2 EC.oex EC.no1 EC.no2 hc) h
/-- C(f2 = e2, f1 = e1) -/
theorem pd_mk2K {c : Nat} {cn f1 f2 : Str} {C fI : Addr} {k : Nat} {ck : DA → DA} (EC : ErrK2 X.prog X.w X.K X.mg X.base k cn f1 f2 C fI) (hc : LamT.ob c = (C, [f2, f1])) (hr : Room (k + 1) X.A) (hg : Gl X cn) (hkw : P1Kw X W kw ck)
    (hall : (backToKw pos (keywordEach kw X.env)).all (·.1.isSome) = true := by rfl) (hks : (backToKw pos (keywordEach kw X.env)).filterMap (·.1) = [f2, f1] := by rfl) (hdb : (cn == ("__debug__" : Str)) = false := by decide)
    (hpl : ((backTo pos (starEach [] X.env)).any (·.1) || (backToKw pos (keywordEach kw X.env)).any (·.1.isNone)) = false := by rfl) :
    PD X W (.Call (.Name cn p) [] kw pos) (eOp (dMk2K c) (ck aNil)) := by
  obtain ⟨fd, ps, FI, bI, kI⟩ := EC.ini
  obtain ⟨t2, ht2, mt2, qt2⟩ := hkw
  refine PE.imp (pe_oexVK EC.oex EC.iC EC.tI FI hr kI passL hg EC.gC ht2 hall hks hdb hpl) fun σ H Q h => ?_
  have h1 := ro_use (ro_mk2K EC.oex EC.no1 EC.no2 hc) h
  refine mt2 σ H _ _ (fun zs H2 ⟨l2, q2⟩ => ?_) (qt2 _ σ H _ h1)
  have q3 := tA_nil q2
  rw [List.append_nil] at q3
  exact q3
/-- isinstance(e, C), C a class told by its name -/
def dIsC (tst : Nat → Option Bool) : List Dat → Option Dat
  | [.ob c _] => (tst c).map Dat.bl
  | _ => none
def IsC (K : PySem.W.Frag) (v : V) (tst : Nat → Option Bool) : Prop := ∀ c b, tst c = some b → KitE K (LamT.ob c).1 ∧ ∃ u, clsU v = some u ∧ PySem.W.kitOne K (.ref (LamT.ob c).1) u = some b
theorem ro_isC {v : V} {tst : Nat → Option Bool} (ok : IsC X.K v tst) : RO X (fun xs H Q => ∃ x, xs = [x] ∧ rIsO X [x, v] H Q) (dIsC tst) := by
  intro F H ds vs B d Q hs o e k
  unfold dIsC at e
  split at e
  · rename_i c es
    cases hb : tst c with
    | none => rw [hb] at e; cases e
    | some b =>
      rw [hb] at e
      have e := (Option.some.inj e).symm
      subst e
      obtain ⟨x, S1, rfl, h1⟩ := o.one
      obtain ⟨E, u, hu, hk⟩ := ok c b hb
      have fin : Q (.bl b) H := k (.bl b) F H [] Step.refl hs (.bl b) List.nodup_nil fun _ q => nomatch q
      cases h1 with
      | ob a1 a2 _ _ => exact ⟨_, rfl, _, _, _, _, u, b, rfl, hs _ _ a1, .inr ⟨_, _, rfl, hs _ _ a2⟩, E, hu, hk, fin⟩
      | ob0 a1 _ => exact ⟨_, rfl, _, _, _, _, u, b, rfl, hs _ _ a1, .inl rfl, E, hu, hk, fin⟩
  · cases e
theorem pd_isC {v : V} {tst : Nat → Option Bool} {a b : Expr} {ca : DA → DA} (ok : IsC X.K v tst) (hm : X.mg "isinstance" = none) (ha : P1 X W a ca) (hb : PE X b (tC v)) (hg : Gl X "isinstance" := by rfl) (he : starEach [a, b] X.env = (false, eval a X.env) :: starEach [b] X.env := by rfl) (he2 : starEach [b] X.env = (false, eval b X.env) :: starEach [] X.env := by rfl) (hpl : (backTo pos (starEach [b] X.env)).any (·.1) = false := by rfl) :
    PD X W (.Call (.Name "isinstance" p) [a, b] [] pos) (eOp (dIsC tst) (ca aNil)) := by
  obtain ⟨t, pt, qt, mt⟩ := ha
  refine PE.imp (pe_callB call_isO hg hm rfl (pa_cons pt (pa_cons hb pa_nil he2) he) (by decide) (by decide) he hpl) fun σ H Q h => ?_
  refine mt σ H _ _ (fun x H1 h1 => ?_) (qt _ σ H _ (ro_use (ro_isC ok) h))
  obtain ⟨y, ey, q⟩ := tA_nil h1
  obtain ⟨rfl, _⟩ := List.cons.inj ey
  exact q
end
end B
set_option Elab.async false
set_option linter.all false
set_option maxRecDepth 100000
namespace B
open PySem PySem.Spec PyProof.Rows L2 LamX
section
variable {P : Program} {w : World} {K : PySem.W.Frag} {mg : Str → Option Value} {base : Heap} {h : Heap} {R : Prop}
/-- the __init__ that keeps two fields -/
theorem ok_init2 [TabT] {qual f1 f2 : Str} {st : Stmt} {f C : Addr} {fd : FuncData} {k : Nat} (Fu : Fun K "__init__" qual st f fd) (S : FnScope ["self", f1, f2] ["self", f1, f2] (defScope st))
    (hb : ∀ (cdv : Value) (A : Around) (outer : List Env) (s : Shared) (H : Hp) (E : XK), ∃ p1 p2 p3 p4 q1 q2 q3 q4, defBody st = [.Assign [.Attribute (.Name "self" p1) f1 p2] (.Name f1 p3) p4, .Assign [.Attribute (.Name "self" q1) f2 q2] (.Name f2 q3) q4] ∧
      PE (cxOf (L2.CX P w) P w K mg base ["self", f1, f2] qual (defScope st) f cdv A outer s H E) (.Name "self" p1) (tVar 0) ∧ PE (cxOf (L2.CX P w) P w K mg base ["self", f1, f2] qual (defScope st) f cdv A outer s H E) (.Name f1 p3) (tVar 1) ∧
      swapsWith (.Name f1 p3) (some (.Attribute (.Name "self" p1) f1 p2)) p4.line (cxOf (L2.CX P w) P w K mg base ["self", f1, f2] qual (defScope st) f cdv A outer s H E).env = pure false ∧
      PE (cxOf (L2.CX P w) P w K mg base ["self", f1, f2] qual (defScope st) f cdv A outer s H E) (.Name "self" q1) (tVar 0) ∧ PE (cxOf (L2.CX P w) P w K mg base ["self", f1, f2] qual (defScope st) f cdv A outer s H E) (.Name f2 q3) (tVar 2) ∧
      swapsWith (.Name f2 q3) (some (.Attribute (.Name "self" q1) f2 q2)) q4.line (cxOf (L2.CX P w) P w K mg base ["self", f1, f2] qual (defScope st) f cdv A outer s H E).env = pure false) :
    FnOk P w K mg base (L2.CX P w) (k + 1) f fd ["self", f1, f2] (spInit2 K C f1 f2) :=
  Fu.okX S (fun vs H Q E h => by obtain ⟨a, v1, v2, rfl, _⟩ := h; rfl) fun cdv A outer s H vs Q E hr h => by
    obtain ⟨p1, p2, p3, p4, q1, q2, q3, q4, eb, h1, h2, h3, h4, h5, h6⟩ := hb cdv A outer s H E
    rw [eb]
    refine ⟨_, pss_cons (ps_ost h1 h2 h3) (pss_one (ps_ost h4 h5 h6)), ?_⟩
    obtain ⟨a, v1, v2, rfl, T, no1, no2, ha, k⟩ := h
    refine ⟨v1, rfl, .ref a, rfl, a, C, rfl, T, no1, .inl ⟨ha, fun dx hdx hne => ?_⟩⟩
    refine ⟨v2, rfl, .ref a, rfl, a, C, rfl, T, no2, .inr ⟨dx, [(f1, v1)], upd_same, by rw [upd_ne hne]; exact upd_same, (by simp), k dx hdx hne⟩⟩
theorem use_cls1 {cn fld qual : Str} {st : Stmt} {C fI : Addr} {nm q : Str} {N : Addr} {bs bm : List Value} {sn : List Str} {sub : List Value} {ab : Bool} {col : Option Bool} {dd : Option Addr} {k0 k1 k2 k3 k5 : Option Value}
    {oc : Value} {od an : Option Addr} {osl : Array (Option Value)} {kV doc pm cdv ct : Value} (X : K.In h) (G : h.Ns mainGlobals mg)
    (aC : PySem.W.nsIn K mainGlobals cn = some (some (.ref C))) (xL : K.lookup C = some (excClassObj nm q C N bs bm true sn sub ab col dd k0 k1 k2 k3 k5 "ValueError.__new__")) (rv : PySem.HandSPX.refsVE bm = true)
    (sa : PySem.W.findIn K (.ref C) "__setattr__" = some (some (.builtin "object.__setattr__"))) (exC : PySem.W.subIn K (.ref C) (.type "BaseException") = some true) (tyC : PySem.W.typeIn K (.ref C) = some (.type "type")) (kC : PySem.W.keepIn K (.ref C) = true)
    (a1 : PySem.W.findIn K (.ref C) "__init__" = some (some (.ref fI))) (t1 : PySem.W.typeIn K (.ref fI) = some (.type "function")) (no : PySem.W.findIn K (.ref C) fld = some none)
    (l1 : K.lookup fI = some ⟨oc, od, .func (PySem.W.fnOf "__init__" qual (defArgs st) (defBody st) (defScope st) .none kV doc pm an cdv ct), osl⟩) (c1 : PySem.W.codeIn K cdv qual = true) (k1' : PySem.W.keepIn K (.ref fI) = true)
    (ga : PySem.W.findIn K (.ref C) "__getattribute__" = some (some (.builtin "BaseException.__getattribute__"))) (gg : PySem.W.findIn K (.ref C) "__getattr__" = some none) (hd : PySem.W.hasDictIn K C = true)
    (S : FnScope ["self", fld] ["self", fld] (defScope st))
    (hb : ∀ (P : Program) (w : World) (base : Heap) (fI : Addr) (cdv : Value) (A : Around) (outer : List Env) (s : Shared) (H : Hp) (E : XK), ∃ p1 p2 p3 p4, defBody st = [.Assign [.Attribute (.Name "self" p1) fld p2] (.Name fld p3) p4] ∧
      PE (cxOf (L2.CX P w) P w K mg base ["self", fld] qual (defScope st) fI cdv A outer s H E) (.Name "self" p1) (tVar 0) ∧ PE (cxOf (L2.CX P w) P w K mg base ["self", fld] qual (defScope st) fI cdv A outer s H E) (.Name fld p3) (tVar 1) ∧
      swapsWith (.Name fld p3) (some (.Attribute (.Name "self" p1) fld p2)) p4.line (cxOf (L2.CX P w) P w K mg base ["self", fld] qual (defScope st) fI cdv A outer s H E).env = pure false)
    (bi : ∀ (kV doc pmv : Value) (an : Option Addr) (cdv ct : Value) (us : List Value), us.length = 2 → bindArgs (PySem.W.fnOf "__init__" qual (defArgs st) (defBody st) (defScope st) .none kV doc pmv an cdv ct) ⟨us, []⟩ = pure ([("self" : Str), fld].zip us))
    (bk : ∀ (kV doc pmv : Value) (an : Option Addr) (cdv ct : Value) (us ws : List Value), us.length = 1 → ws.length = ([fld] : List Str).length → bindArgs (PySem.W.fnOf "__init__" qual (defArgs st) (defBody st) (defScope st) .none kV doc pmv an cdv ct) ⟨us, ([fld] : List Str).zip ws⟩ = pure ([("self" : Str), fld].zip (gP [0, 1] us ws)))
    (cont : ∀ C' I' : Addr, C' = C → (∀ (P : Program) (w : World) (base : Heap), ErrK P w K mg base 1 cn fld C' I') → XfC K C' → R) : R :=
  cont C fI rfl (fun P w base =>
    letI : TabT := { lam := fun _ => ⟨"", default, default, default⟩, tabs := [], fns := [] }
    have Fu := fun_mk (x := "__init__") (qual := qual) (st := st) l1 c1 k1'
    { oex := ⟨⟨nm, q, N, bs, bm, sn, sub, ab, col, dd, k0, k1, k2, k3, k5, xL, rv⟩, sa, exC, tyC, kC⟩, gC := PySem.W.mg_of X G aC, iC := a1, tI := t1, no := no,
      ini := ⟨_, ["self", fld], ok_init Fu S (hb P w base fI), Fu.binds fun kV doc pm an cdv ct us hl => bi kV doc pm an cdv ct us hl, B.Fun.kbn Fu 1 [fld] [0, 1] bk⟩ }) ⟨ga, gg, exC, hd⟩
theorem use_cls2 {cn f1 f2 qual : Str} {st : Stmt} {C fI : Addr} {nm q : Str} {N : Addr} {bs bm : List Value} {sn : List Str} {sub : List Value} {ab : Bool} {col : Option Bool} {dd : Option Addr} {k0 k1 k2 k3 k5 : Option Value}
    {oc : Value} {od an : Option Addr} {osl : Array (Option Value)} {kV doc pm cdv ct : Value} (X : K.In h) (G : h.Ns mainGlobals mg)
    (aC : PySem.W.nsIn K mainGlobals cn = some (some (.ref C))) (xL : K.lookup C = some (excClassObj nm q C N bs bm true sn sub ab col dd k0 k1 k2 k3 k5 "ValueError.__new__")) (rv : PySem.HandSPX.refsVE bm = true)
    (sa : PySem.W.findIn K (.ref C) "__setattr__" = some (some (.builtin "object.__setattr__"))) (exC : PySem.W.subIn K (.ref C) (.type "BaseException") = some true) (tyC : PySem.W.typeIn K (.ref C) = some (.type "type")) (kC : PySem.W.keepIn K (.ref C) = true)
    (a1 : PySem.W.findIn K (.ref C) "__init__" = some (some (.ref fI))) (t1 : PySem.W.typeIn K (.ref fI) = some (.type "function")) (no1 : PySem.W.findIn K (.ref C) f1 = some none) (no2 : PySem.W.findIn K (.ref C) f2 = some none)
    (l1 : K.lookup fI = some ⟨oc, od, .func (PySem.W.fnOf "__init__" qual (defArgs st) (defBody st) (defScope st) .none kV doc pm an cdv ct), osl⟩) (c1 : PySem.W.codeIn K cdv qual = true) (k1' : PySem.W.keepIn K (.ref fI) = true)
    (ga : PySem.W.findIn K (.ref C) "__getattribute__" = some (some (.builtin "BaseException.__getattribute__"))) (gg : PySem.W.findIn K (.ref C) "__getattr__" = some none) (hd : PySem.W.hasDictIn K C = true)
    (S : FnScope ["self", f1, f2] ["self", f1, f2] (defScope st))
    (hb : ∀ (P : Program) (w : World) (base : Heap) (fI : Addr) (cdv : Value) (A : Around) (outer : List Env) (s : Shared) (H : Hp) (E : XK), ∃ p1 p2 p3 p4 q1 q2 q3 q4, defBody st = [.Assign [.Attribute (.Name "self" p1) f1 p2] (.Name f1 p3) p4, .Assign [.Attribute (.Name "self" q1) f2 q2] (.Name f2 q3) q4] ∧
      PE (cxOf (L2.CX P w) P w K mg base ["self", f1, f2] qual (defScope st) fI cdv A outer s H E) (.Name "self" p1) (tVar 0) ∧ PE (cxOf (L2.CX P w) P w K mg base ["self", f1, f2] qual (defScope st) fI cdv A outer s H E) (.Name f1 p3) (tVar 1) ∧
      swapsWith (.Name f1 p3) (some (.Attribute (.Name "self" p1) f1 p2)) p4.line (cxOf (L2.CX P w) P w K mg base ["self", f1, f2] qual (defScope st) fI cdv A outer s H E).env = pure false ∧
      PE (cxOf (L2.CX P w) P w K mg base ["self", f1, f2] qual (defScope st) fI cdv A outer s H E) (.Name "self" q1) (tVar 0) ∧ PE (cxOf (L2.CX P w) P w K mg base ["self", f1, f2] qual (defScope st) fI cdv A outer s H E) (.Name f2 q3) (tVar 2) ∧
      swapsWith (.Name f2 q3) (some (.Attribute (.Name "self" q1) f2 q2)) q4.line (cxOf (L2.CX P w) P w K mg base ["self", f1, f2] qual (defScope st) fI cdv A outer s H E).env = pure false)
    (bi : ∀ (kV doc pmv : Value) (an : Option Addr) (cdv ct : Value) (us : List Value), us.length = 3 → bindArgs (PySem.W.fnOf "__init__" qual (defArgs st) (defBody st) (defScope st) .none kV doc pmv an cdv ct) ⟨us, []⟩ = pure ([("self" : Str), f1, f2].zip us))
    (bk : ∀ (kV doc pmv : Value) (an : Option Addr) (cdv ct : Value) (us ws : List Value), us.length = 1 → ws.length = ([f2, f1] : List Str).length → bindArgs (PySem.W.fnOf "__init__" qual (defArgs st) (defBody st) (defScope st) .none kV doc pmv an cdv ct) ⟨us, ([f2, f1] : List Str).zip ws⟩ = pure ([("self" : Str), f1, f2].zip (gP [0, 2, 1] us ws)))
    (cont : ∀ C' I' : Addr, C' = C → (∀ (P : Program) (w : World) (base : Heap), ErrK2 P w K mg base 1 cn f1 f2 C' I') → XfC K C' → R) : R :=
  cont C fI rfl (fun P w base =>
    letI : TabT := { lam := fun _ => ⟨"", default, default, default⟩, tabs := [], fns := [] }
    have Fu := fun_mk (x := "__init__") (qual := qual) (st := st) l1 c1 k1'
    { oex := ⟨⟨nm, q, N, bs, bm, sn, sub, ab, col, dd, k0, k1, k2, k3, k5, xL, rv⟩, sa, exC, tyC, kC⟩, gC := PySem.W.mg_of X G aC, iC := a1, tI := t1, no1 := no1, no2 := no2,
      ini := ⟨_, ["self", f1, f2], ok_init2 Fu S (hb P w base fI), Fu.binds fun kV doc pm an cdv ct us hl => bi kV doc pm an cdv ct us hl, B.Fun.kbn Fu 1 [f2, f1] [0, 2, 1] bk⟩ }) ⟨ga, gg, exC, hd⟩
end
end B
set_option Elab.async false
set_option linter.all false
set_option maxRecDepth 100000
namespace B
open PySem PySem.Spec PyProof.Rows L2 LamX
/-- a class of errors without an __init__ of its own -/
structure Err0 (K : PySem.W.Frag) (mg : Str → Option Value) (cn : Str) (C : Addr) : Prop where
  q : PySem.W.excIn K C [.type "ValueError", .type "Exception", .type "BaseException", .type "object"] "ValueError.__new__" = true
  gC : mg cn = some (.ref C)
  kC : PySem.W.keepIn K (.ref C) = true
variable [TabT]
section
variable {X : Cx} {F F1 F' H H1 H' : Hp} {σ σ1 : L2.St} {ρ ρ' : Ev} {S S1 S' T T' : List Addr} {W : WX} {pos p : Pos} {pins : List (Addr × Obj)} {s : Shared}
/-- {k: v, ..}, texts to ints -/
def trsS (l : List (Str × Int)) : List (TE × TE) := l.map fun p => (tC (.str p.1), tC (.int p.2))
theorem tPairs_S : ∀ (l : List (Str × Int)) (σ : L2.St) (H : Hp) (Q : List (V × V) → Hp → Prop), Q (l.map fun p => (V.str p.1, V.int p.2)) H → tPairs (trsS l) σ H Q
  | [], σ, H, Q, h => h
  | p :: l, σ, H, Q, h => tPairs_S l σ H _ h
theorem OwL.strs {P : Program} {w : World} {K : PySem.W.Frag} : ∀ (l : List Str), OwL P w K F H (l.map Dat.str) (l.map V.str) []
  | [] => .nil
  | i :: l => .cons (S := []) (T := []) (.str i) (OwL.strs l)
theorem pd_dispS {keys : List (Option Expr)} {values : List Expr} (l : List (Str × Int)) (h : PPs X pos keys values (trsS l)) (hnd : (l.map (·.1)).Nodup) (h15 : l.length ≤ 15) (hall : keys.all (·.isSome) = true := by rfl) (hl : keys.length = values.length := by rfl) (h0 : keys ≠ [] := by intro z; cases z) (hk : keys.length ≤ 15 := by decide) :
    PD X W (.Dict keys values pos) (eC (.od false (l.map fun p => .str p.1) (l.map fun p => .int p.2))) := PE.imp (pe_disp h hall hl h0 hk) fun σ H Q q p hp => by
  obtain ⟨F, ρ, S, o, ρ', g, hd, ho⟩ := q
  unfold eC at hd
  simp only [Option.some.injEq, Prod.mk.injEq] at hd
  obtain ⟨rfl, rfl⟩ := hd
  refine tPairs_S l σ _ _ ⟨upd_same, l.map fun p => (Sum.inr p.1, V.int p.2), by rw [List.map_map]; rfl, by simpa using h15, ?_⟩
  have e : mergeK [] (l.map fun p => ((Sum.inr p.1 : Key), V.int p.2)) = l.map fun p => ((Sum.inr p.1 : Key), V.int p.2) := by
    refine mergeK_nd (kvs := []) ?_
    rw [List.nil_append, List.map_map]
    have : (fun x => x.1) ∘ (fun p : Str × Int => ((Sum.inr p.1 : Key), V.int p.2)) = (fun i : Str => (Sum.inr i : Key)) ∘ (fun p : Str × Int => p.1) := rfl
    rw [this, ← List.map_map]
    exact List.pairwise_map.mpr (List.Pairwise.imp (fun h e => h (Sum.inr.inj e)) hnd)
  rw [e, upd_upd]
  refine ok_new g p hp (.odK (S := []) upd_same ?_ ?_) ho
  · rw [List.map_map]
    have := OwL.strs (P := X.prog) (w := X.w) (K := X.K) (F := F) (H := upd H p (.dK (l.map fun p => ((Sum.inr p.1 : Key), V.int p.2)))) (l.map (·.1))
    rw [List.map_map, List.map_map] at this
    exact this
  · rw [List.map_map]
    have := OwL.ints (P := X.prog) (w := X.w) (K := X.K) (F := F) (H := upd H p (.dK (l.map fun p => ((Sum.inr p.1 : Key), V.int p.2)))) (l.map (·.2))
    rw [List.map_map, List.map_map] at this
    exact this
end
end B
set_option Elab.async false
set_option linter.all false
set_option maxRecDepth 100000
namespace B
open PySem PySem.Spec PyProof.Rows L2 LamX
def tOne (j : Nat) : Nat → Option Bool := fun c => if c < 64 then some (c == j) else none
def tAll : Nat → Option Bool := fun c => if c < 64 then some true else none
def tNo : Nat → Option Bool := fun c => if c < 64 then some false else none
section
variable {K : PySem.W.Frag} {h : Heap} {mg : Str → Option Value} {R : Prop} {obL : List (Addr × List Str)}
theorem all_of_map {α β : Type} {f : α → β} {x : β} {n : Nat} {l : List α} (e : l.map f = List.replicate n x) : ∀ a ∈ l, f a = x := fun a ha => by
  have : f a ∈ List.replicate n x := by rw [← e]; exact List.mem_map_of_mem ha
  exact List.eq_of_mem_replicate this
theorem kitE_mk {n : Nat} (h1 : obL.map (fun p => (PySem.W.clsIn K p.1).isSome) = List.replicate n true)
    (h2 : obL.map (fun p => PySem.W.findIn K (.ref p.1) "__getattribute__") = List.replicate n (some (some (.builtin "BaseException.__getattribute__"))))
    (h3 : obL.map (fun p => PySem.W.findIn K (.ref p.1) "__getattr__") = List.replicate n (some none))
    (h4 : obL.map (fun p => PySem.W.subIn K (.ref p.1) (.type "BaseException")) = List.replicate n (some true))
    (h5 : obL.map (fun p => PySem.W.findIn K (.ref p.1) "__class__") = List.replicate n (some (some (.builtin "object.__class__"))))
    (h6 : obL.map (fun p => PySem.W.mroIn K p.1 (.type "object")) = List.replicate n (some true))
    (sg : PySem.W.specialIn K (.builtin "object.__class__") "__get__" = some (some (.builtin "getset_descriptor.__get__"))) (tk : PySem.W.takesIn K (.builtin "object.__class__") = some true) : ∀ p ∈ obL, KitE K p.1 := fun p hp =>
  ⟨all_of_map h1 p hp, all_of_map h2 p hp, all_of_map h3 p hp, all_of_map h4 p hp, all_of_map h5 p hp, sg, tk, all_of_map h6 p hp⟩
theorem isC_mk [TabT] {v : V} {u : Value} {g : Nat → Bool} (hob : ∀ c, LamT.ob c = obL.getD c (0, [])) (hl : obL.length = 64) (kit : ∀ p ∈ obL, KitE K p.1) (hu : clsU v = some u)
    (hk : obL.map (fun p => PySem.W.kitOne K (.ref p.1) u) = (List.range 64).map fun c => some (g c)) : IsC K v fun c => if c < 64 then some (g c) else none := by
  intro c b e
  dsimp only at e
  split at e
  · rename_i hc
    have e := Option.some.inj e
    have hc' : c < obL.length := by rw [hl]; exact hc
    have eg : LamT.ob c = obL[c] := by rw [hob, List.getD_eq_getElem?_getD, List.getElem?_eq_getElem hc']; rfl
    refine ⟨by rw [eg]; exact kit _ (List.getElem_mem hc'), u, hu, ?_⟩
    have q := congrArg (fun l => l[c]?) hk
    simp only [List.getElem?_map, List.getElem?_eq_getElem hc', List.getElem?_range hc, Option.map_some] at q
    rw [eg, Option.some.inj q, e]
  · cases e
theorem obOk_mk [TabT] (hob : ∀ c, LamT.ob c = obL.getD c (0, [])) (H : ∀ p ∈ obL, p.2 ≠ [] → XfC K p.1 ∧ ∀ f ∈ p.2, PySem.W.findIn K (.ref p.1) f = some none) : ∀ c, (LamT.ob c).2 ≠ [] → ObOk K c := fun c hn => by
  rw [hob] at hn
  have key : obL.getD c (0, []) ∈ obL := by
    rw [List.getD_eq_getElem?_getD] at hn ⊢
    cases q : obL[c]? with
    | none => rw [q] at hn; exact absurd rfl hn
    | some p => exact List.mem_of_getElem? q
  obtain ⟨a, b⟩ := H _ key hn
  exact ⟨by rw [hob]; exact a, by rw [hob]; exact b⟩
theorem use_cls0 {cn : Str} {C : Addr} (X : K.In h) (G : h.Ns mainGlobals mg) (aC : PySem.W.nsIn K mainGlobals cn = some (some (.ref C))) (q : PySem.W.excIn K C [.type "ValueError", .type "Exception", .type "BaseException", .type "object"] "ValueError.__new__" = true) (kC : PySem.W.keepIn K (.ref C) = true)
    (cont : ∀ C' : Addr, C' = C → Err0 K mg cn C' → R) : R := cont C rfl ⟨q, PySem.W.mg_of X G aC, kC⟩
end
end B
set_option Elab.async false
set_option linter.all false
set_option maxRecDepth 100000
namespace B
open PySem PySem.Spec PyProof.Rows L2
variable [TabT]
section
variable {X : Cx} {fix : Nat → Bool} {pos : Pos}
/-- x, y = a list -/
def gUnpL (n : Nat) (r : DGs) : DG := fun d ρ => match d with
  | .lst ds => if ds.length = n then r ds ρ else none
  | _ => none
theorem pdg_lst {es : List Expr} {k : Nat} {r : DGs} {n : Nat} (hc : X.calm = true) (h : PDGs X fix es r) (hn : (assignEach es X.env).length = n := by rfl) (hst : (assignEach es X.env).findIdx? (·.1) = none := by rfl) : PDG X fix (.Tuple es k pos) (gUnpL n r) := PG.imp (L2.pg_unl hc h hn hst) fun v σ H Q hh => by
  obtain ⟨F, ρ, S, d, ρ', g, o, hg, q⟩ := hh
  unfold gUnpL at hg
  split at hg
  · rename_i ds
    split at hg
    · rename_i hl
      obtain ⟨a, vs, rfl, hT, l, _⟩ := o.lst_inv
      exact ⟨a, vs, rfl, SqL.up g.sub (.inl hT), by rw [← l.length]; exact hl, F, ρ, S, ds, ρ', g, l, hg, q⟩
    · cases hg
  · cases hg
end
end B
set_option Elab.async false
set_option linter.all false
set_option maxRecDepth 100000
namespace B
open PySem PySem.Spec PyProof.Rows L2 LamX
section
variable {K : PySem.W.Frag} {obL : List (Addr × List Str)}
theorem is_at [TabT] (hob : ∀ c, LamT.ob c = obL.getD c (0, [])) (hl : obL.length = 64) (kit : ∀ p ∈ obL, KitE K p.1)
    (hk : (obL.map fun q => obL.map fun p => PySem.W.kitOne K (.ref p.1) (.ref q.1)) = (List.range 64).map fun j => (List.range 64).map fun c => some (c == j || j == 63)) {j : Nat} (hj : j < 64) {a : Addr} {l : List Str} (ha : obL[j]? = some (a, l)) :
    IsC K (.ref a) fun c => if c < 64 then some (c == j || j == 63) else none := by
  refine isC_mk (u := .ref a) (g := fun c => c == j || j == 63) hob hl kit rfl ?_
  have q := congrArg (fun m => m[j]?) hk
  simp only [List.getElem?_map, ha, List.getElem?_range hj, Option.map_some] at q
  exact Option.some.inj q
theorem is_one [TabT] (hob : ∀ c, LamT.ob c = obL.getD c (0, [])) (hl : obL.length = 64) (kit : ∀ p ∈ obL, KitE K p.1)
    (hk : (obL.map fun q => obL.map fun p => PySem.W.kitOne K (.ref p.1) (.ref q.1)) = (List.range 64).map fun j => (List.range 64).map fun c => some (c == j || j == 63)) {j : Nat} (hj : j < 63) {a : Addr} {l : List Str} (ha : obL[j]? = some (a, l)) : IsC K (.ref a) (tOne j) := by
  have h := is_at hob hl kit hk (Nat.lt_succ_of_lt hj) ha
  have e : (fun c => if c < 64 then some (c == j || j == 63) else none) = tOne j := by
    funext c
    have : (j == 63) = false := by simpa using Nat.ne_of_lt hj
    unfold tOne
    rw [this, Bool.or_false]
  rwa [e] at h
theorem is_base [TabT] (hob : ∀ c, LamT.ob c = obL.getD c (0, [])) (hl : obL.length = 64) (kit : ∀ p ∈ obL, KitE K p.1)
    (hk : (obL.map fun q => obL.map fun p => PySem.W.kitOne K (.ref p.1) (.ref q.1)) = (List.range 64).map fun j => (List.range 64).map fun c => some (c == j || j == 63)) {a : Addr} {l : List Str} (ha : obL[63]? = some (a, l)) : IsC K (.ref a) tAll := by
  have h := is_at hob hl kit hk (by decide : 63 < 64) ha
  have e : (fun c => if c < 64 then some (c == 63 || (63 : Nat) == 63) else none) = tAll := by
    funext c
    unfold tAll
    rw [show ((63 : Nat) == 63) = true from rfl, Bool.or_true]
  rwa [e] at h
end
end B
set_option Elab.async false
set_option linter.all false
set_option maxRecDepth 100000
namespace B
open PySem PySem.Spec PyProof.Rows L2 LamX
variable [TabT]
structure WE (e : DE) (ρ : Ev) (Q : Dat → Ev → Prop) : Prop where
  ex : ∃ d ρ', e ρ = some (.ok d, ρ') ∧ Q d ρ'
structure WT (c : DT) (ρ : Ev) (Q : Bool → Ev → Prop) : Prop where
  ex : ∃ k ρ', c ρ = some (.ok k, ρ') ∧ Q k ρ'
structure WA (a : DA) (ρ : Ev) (Q : List Arg → Ev → Prop) : Prop where
  ex : ∃ as ρ', a ρ = some (.ok as, ρ') ∧ Q as ρ'
structure WI (a : DI) (ρ : Ev) (Q : List Dat → Ev → Prop) : Prop where
  ex : ∃ as ρ', a ρ = some (.ok as, ρ') ∧ Q as ρ'
structure WS (s : DS) (ρ : Ev) (Q : Fl → Ev → Prop) : Prop where
  ex : ∃ o ρ', s ρ = some (o, ρ') ∧ Q o ρ'
structure WD (f : DF) (ds : List Dat) (Q : Dat → Ev → Prop) : Prop where
  ex : ∃ d ev, f ds = some (.ok d, ev) ∧ Q d ev
def SQ (b : DS) (Q : Fl → Ev → Prop) : Fl → Ev → Prop := fun o ρ1 => match o with
  | .nx => WS b ρ1 Q
  | o => Q o ρ1
section
variable {ρ ρ' : Ev} {Q : Dat → Ev → Prop} {QT : Bool → Ev → Prop} {QA : List Arg → Ev → Prop} {QS : Fl → Ev → Prop} {QI : List Dat → Ev → Prop}
theorem we_ev {e : DE} {d : Dat} (h : e ρ = some (.ok d, ρ')) (q : Q d ρ') : WE e ρ Q := ⟨d, ρ', h, q⟩
theorem we_c {d : Dat} (q : Q d ρ) : WE (eC d) ρ Q := ⟨d, ρ, rfl, q⟩
theorem we_vm {i : Nat} {d : Dat} (h : ρ[i]? = some (some d)) (hi : im d = true) (q : Q d ρ) : WE (eVM i) ρ Q := ⟨d, ρ, by simp only [eVM, h, hi, if_true], q⟩
theorem we_mv {i : Nat} {d : Dat} (h : ρ[i]? = some (some d)) (hi : im d = false) (q : Q d (ρ.set i none)) : WE (eVM i) ρ Q := ⟨d, _, by simp only [eVM, h, hi, if_false, Bool.false_eq_true], q⟩
theorem wa_nil (q : QA [] ρ) : WA aNil ρ QA := ⟨[], ρ, rfl, q⟩
theorem wa_vw {i : Nat} {d : Dat} {r : DA} (h : ρ[i]? = some (some d)) (q : WA r ρ fun as ρ' => QA (.vw i :: as) ρ') : WA (aVw i r) ρ QA := by
  obtain ⟨as, ρ', e, q⟩ := q
  exact ⟨_, ρ', by simp only [aVw, h, e, bnd_ok], q⟩
theorem wa_e {e : DE} {r : DA} (q : WE e ρ fun d ρ1 => WA r ρ1 fun as ρ2 => QA (.dt d :: as) ρ2) : WA (aE e r) ρ QA := by
  obtain ⟨d, ρ1, e1, as, ρ2, e2, q⟩ := q
  exact ⟨_, ρ2, by simp only [aE, e1, e2, bnd_ok], q⟩
theorem wa_i {e : DE} {r : DA} (q : WE e ρ fun d ρ1 => ∃ i, d = .int i ∧ WA r ρ1 fun as ρ2 => QA (.dt (.int i) :: as) ρ2) : WA (aI e r) ρ QA := by
  obtain ⟨d, ρ1, e1, i, rfl, as, ρ2, e2, q⟩ := q
  exact ⟨_, ρ2, by simp only [aI, e1, e2, bnd_ok], q⟩
theorem we_op {f : List Dat → Option Dat} {as : DA} (q : WA as ρ fun a ρ' => ∃ ds, res ρ' a = some ds ∧ ∃ d, f ds = some d ∧ Q d ρ') : WE (eOp f as) ρ Q := by
  obtain ⟨a, ρ', e, ds, h1, d, h2, q⟩ := q
  exact ⟨d, ρ', by simp only [eOp, e, bnd_ok, h1, h2], q⟩
theorem we_tup {as : DA} (q : WA as ρ fun a ρ' => ∃ ds, dtsOf a = some ds ∧ ds.length ≤ 1000 ∧ Q (.tup ds) ρ') : WE (eTup as) ρ Q := by
  obtain ⟨a, ρ', e, ds, h1, h2, q⟩ := q
  exact ⟨_, ρ', by simp only [eTup, e, bnd_ok, h1, h2, if_true], q⟩
theorem we_lst {as : DA} (q : WA as ρ fun a ρ' => ∃ ds, dtsOf a = some ds ∧ ds.length ≤ 1000 ∧ Q (.ol ds) ρ') : WE (eLst as) ρ Q := by
  obtain ⟨a, ρ', e, ds, h1, h2, q⟩ := q
  exact ⟨_, ρ', by simp only [eLst, e, bnd_ok, h1, h2, if_true], q⟩
theorem we_call {f : DF} {as : DA} (q : WA as ρ fun a ρ1 => ∃ ds ρ2, takeA ρ1 a = some (ds, ρ2) ∧ WD f ds fun d ds' => Q d (putA ρ2 a ds')) : WE (eCall f as) ρ Q := by
  obtain ⟨a, ρ1, e, ds, ρ2, h1, d, ev, h2, q⟩ := q
  exact ⟨d, _, by simp only [eCall, e, bnd_ok, h1, h2], q⟩
theorem we_if {c : DT} {a b : DE} (q : WT c ρ fun k ρ1 => (k = true → WE a ρ1 Q) ∧ (k = false → WE b ρ1 Q)) : WE (eIf c a b) ρ Q := by
  obtain ⟨k, ρ1, e, h1, h2⟩ := q
  cases k with
  | true => obtain ⟨d, ρ2, e2, q⟩ := h1 rfl; exact ⟨d, ρ2, by simp only [eIf, e, bnd_ok, if_true, e2], q⟩
  | false => obtain ⟨d, ρ2, e2, q⟩ := h2 rfl; exact ⟨d, ρ2, by simp only [eIf, e, bnd_ok, Bool.false_eq_true, if_false, e2], q⟩
theorem we_bor {e : DE} (q : WE e (frzE ρ) fun d _ => scal d = true ∧ Q d ρ) : WE (eBor e) ρ Q := by
  obtain ⟨d, ρ1, e1, h, q⟩ := q
  exact ⟨d, ρ, by simp only [eBor, e1, h, if_true], q⟩
theorem wt_b {a : DE} (q : WE a ρ fun d ρ1 => ∃ k, d = .bl k ∧ QT k ρ1) : WT (eB a) ρ QT := by
  obtain ⟨d, ρ1, e, k, rfl, q⟩ := q
  exact ⟨k, ρ1, by simp only [eB, e, bnd_ok, onB], q⟩
theorem wt_ev {c : DT} {k : Bool} (h : c ρ = some (.ok k, ρ')) (q : QT k ρ') : WT c ρ QT := ⟨k, ρ', h, q⟩
theorem wt_and {a b : DT} (q : WT a ρ fun k ρ1 => (k = true → WT b ρ1 QT) ∧ (k = false → QT false ρ1)) : WT (cAnd a b) ρ QT := by
  obtain ⟨k, ρ1, e, h1, h2⟩ := q
  cases k with
  | true => obtain ⟨k, ρ2, e2, q⟩ := h1 rfl; exact ⟨k, ρ2, by simp only [cAnd, e, bnd_ok, if_true, e2], q⟩
  | false => exact ⟨false, ρ1, by simp only [cAnd, e, bnd_ok, Bool.false_eq_true, if_false], h2 rfl⟩
theorem wt_or {a b : DT} (q : WT a ρ fun k ρ1 => (k = true → QT true ρ1) ∧ (k = false → WT b ρ1 QT)) : WT (cOr a b) ρ QT := by
  obtain ⟨k, ρ1, e, h1, h2⟩ := q
  cases k with
  | true => exact ⟨true, ρ1, by simp only [cOr, e, bnd_ok, if_true], h1 rfl⟩
  | false => obtain ⟨k, ρ2, e2, q⟩ := h2 rfl; exact ⟨k, ρ2, by simp only [cOr, e, bnd_ok, Bool.false_eq_true, if_false, e2], q⟩
theorem wt_not {a : DT} (q : WT a ρ fun k ρ1 => QT (!k) ρ1) : WT (cNot a) ρ QT := by
  obtain ⟨k, ρ1, e, q⟩ := q
  exact ⟨_, ρ1, by simp only [cNot, e, bnd_ok], q⟩
theorem we_and {a b : DE} (q : WE a ρ fun d ρ1 => ∃ k, d = .bl k ∧ (k = true → WE b ρ1 Q) ∧ (k = false → Q (.bl false) ρ1)) : WE (vAnd a b) ρ Q := by
  obtain ⟨d, ρ1, e, k, rfl, h1, h2⟩ := q
  cases k with
  | true => obtain ⟨d, ρ2, e2, q⟩ := h1 rfl; exact ⟨d, ρ2, by simp only [vAnd, e, bnd_ok, onB, if_true, e2], q⟩
  | false => exact ⟨_, ρ1, by simp only [vAnd, e, bnd_ok, onB, Bool.false_eq_true, if_false], h2 rfl⟩
theorem ws_ev {s : DS} {o : Fl} (h : s ρ = some (o, ρ')) (q : QS o ρ') : WS s ρ QS := ⟨o, ρ', h, q⟩
theorem ws_seq {a b : DS} (q : WS a ρ (SQ b QS)) : WS (sSeq a b) ρ QS := by
  obtain ⟨o, ρ1, e, q⟩ := q
  cases o with
  | nx => obtain ⟨o, ρ2, e2, q⟩ := q; exact ⟨o, ρ2, by simp only [sSeq, e, sThen, e2], q⟩
  | rt d => exact ⟨_, ρ1, by simp only [sSeq, e, sThen], q⟩
  | bk => exact ⟨_, ρ1, by simp only [sSeq, e, sThen], q⟩
  | ct => exact ⟨_, ρ1, by simp only [sSeq, e, sThen], q⟩
  | er x => exact ⟨_, ρ1, by simp only [sSeq, e, sThen], q⟩
theorem ws_nx (q : QS .nx ρ) : WS sNx ρ QS := ⟨_, _, rfl, q⟩
theorem ws_nxs {b : DS} (q : WS b ρ QS) : WS sNx ρ (SQ b QS) := ⟨_, _, rfl, q⟩
theorem ws_ret {e : DE} (q : WE e ρ fun d ρ1 => QS (.rt d) ρ1) : WS (sRet e) ρ QS := by
  obtain ⟨d, ρ1, h, q⟩ := q
  exact ⟨_, ρ1, by simp only [sRet, h, bndS], q⟩
theorem ws_retq {e : DE} {b : DS} (q : WE e ρ fun d ρ1 => QS (.rt d) ρ1) : WS (sSeq (sRet e) b) ρ QS := by
  obtain ⟨d, ρ1, h, q⟩ := q
  exact ⟨_, ρ1, by simp only [sSeq, sRet, h, bndS, sThen], q⟩
theorem ws_set {i : Nat} {e : DE} {b : DS} (q : WE e ρ fun d ρ1 => i < ρ1.length ∧ WS b (ρ1.set i (some d)) QS) : WS (sSeq (sSet i e) b) ρ QS := by
  obtain ⟨d, ρ1, h, hl, o, ρ2, h2, q⟩ := q
  exact ⟨o, ρ2, by simp only [sSeq, sSet, setS, h, bndS, hl, if_true, sThen, h2], q⟩
theorem ws_setF {i : Nat} {e : DE} {b : DS} (q : WE e ρ fun d ρ1 => i < ρ1.length ∧ WS b (ρ1.set i (some (frz d))) QS) : WS (sSeq (sSetF i e) b) ρ QS := by
  obtain ⟨d, ρ1, h, hl, o, ρ2, h2, q⟩ := q
  exact ⟨o, ρ2, by simp only [sSeq, sSetF, setS, h, bndS, hl, if_true, sThen, h2], q⟩
theorem ws_drop {e : DE} {b : DS} (q : WE e ρ fun d ρ1 => WS b ρ1 QS) : WS (sSeq (sDrop e) b) ρ QS := by
  obtain ⟨d, ρ1, h, o, ρ2, h2, q⟩ := q
  exact ⟨o, ρ2, by simp only [sSeq, sDrop, h, bndS, sNx, sThen, h2], q⟩
theorem ws_par {fa fb : Bool} {i j : Nat} {as : DA} {b : DS} (q : WA as ρ fun a ρ1 => ∃ d e, a = [.dt d, .dt e] ∧ (i < ρ1.length ∧ j < ρ1.length) ∧ WS b ((ρ1.set i (some (if fa = true then frz d else d))).set j (some (if fb = true then frz e else e))) QS) : WS (sSeq (sPar fa fb i j as) b) ρ QS := by
  obtain ⟨a, ρ1, h, d, e, rfl, hl, o, ρ2, h2, q⟩ := q
  exact ⟨o, ρ2, by simp only [sSeq, sPar, h, bndS, hl, and_self, if_true, sThen, h2], q⟩
theorem ws_if {c : DT} {a b : DS} (q : WT c ρ fun k ρ1 => (k = true → WS a ρ1 QS) ∧ (k = false → WS b ρ1 QS)) : WS (sIf c a b) ρ QS := by
  obtain ⟨k, ρ1, e, h1, h2⟩ := q
  cases k with
  | true => obtain ⟨o, ρ2, e2, q⟩ := h1 rfl; exact ⟨o, ρ2, by simp only [sIf, e, bndS, if_true, e2], q⟩
  | false => obtain ⟨o, ρ2, e2, q⟩ := h2 rfl; exact ⟨o, ρ2, by simp only [sIf, e, bndS, Bool.false_eq_true, if_false, e2], q⟩
theorem ws_asg {g : DG} {e : DE} {b : DS} (q : WE e ρ fun d ρ1 => ∃ ρ2, g (frz d) ρ1 = some ρ2 ∧ WS b ρ2 QS) : WS (sSeq (sAsg g e) b) ρ QS := by
  obtain ⟨d, ρ1, h, ρ2, hg, o, ρ3, h2, q⟩ := q
  exact ⟨o, ρ3, by simp only [sSeq, sAsg, h, bndS, hg, sThen, h2], q⟩
theorem ws_for {di : DI} {g : DG} {bd b : DS} (q : WI di ρ fun ds ρ1 => WS (forD g bd ds) ρ1 (SQ b QS)) : WS (sSeq (sFor di g bd) b) ρ QS := by
  obtain ⟨ds, ρ1, h, q⟩ := q
  refine ws_seq ?_
  obtain ⟨o, ρ2, h2, q⟩ := q
  exact ⟨o, ρ2, by simp only [sFor, h, bndS, h2], q⟩
/-- a for by an invariant that holds ahead of each item -/
theorem ws_forI {g : DG} {bd : DS} {ds : List Dat} (I : Nat → Ev → Prop) (h0 : I 0 ρ) (hs : ∀ k d ρ, ds[k]? = some d → I k ρ → ∃ ρ1, g d ρ = some ρ1 ∧ WS bd ρ1 fun o ρ2 => (o = .nx ∨ o = .ct) ∧ I (k + 1) ρ2) (hq : ∀ ρ, I ds.length ρ → QS .nx ρ) : WS (forD g bd ds) ρ QS := by
  induction ds generalizing ρ I with
  | nil => exact ⟨.nx, ρ, rfl, hq ρ h0⟩
  | cons d ds ih =>
    obtain ⟨ρ1, e1, o, ρ2, e2, ho, hI⟩ := hs 0 d ρ rfl h0
    obtain ⟨o3, ρ3, e3, q3⟩ := ih (ρ := ρ2) (fun k => I (k + 1)) hI (fun k d ρ h => hs (k + 1) d ρ (by simpa using h)) (fun ρ h => hq ρ (by simpa using h))
    refine ⟨o3, ρ3, ?_, q3⟩
    rcases ho with rfl | rfl <;> simp only [forD, e1, e2, e3]
theorem wi_seq {e : DE} (q : WE e ρ fun d ρ1 => ∃ ds, sit (frz d) = some ds ∧ QI ds ρ1) : WI (iSeq e) ρ QI := by
  obtain ⟨d, ρ1, h, ds, h1, q⟩ := q
  exact ⟨ds, ρ1, by simp only [iSeq, h, bnd_ok, h1], q⟩
theorem wi_walk {f : List Dat → Option (List Dat)} {as : DA} (q : WA as ρ fun a ρ1 => ∃ ds, dtsOf a = some ds ∧ ∃ l, f (frzs ds) = some l ∧ QI l ρ1) : WI (walkA f as) ρ QI := by
  obtain ⟨a, ρ1, h, ds, h1, l, h2, q⟩ := q
  exact ⟨l, ρ1, by simp only [walkA, h, bnd_ok, h1, h2], q⟩
theorem wi_range {as : DA} (q : WA as ρ fun a ρ1 => ∃ j, res ρ1 a = some [.int j] ∧ (-(2 ^ 62) ≤ j ∧ j < 2 ^ 62) ∧ QI (rngD 0 j.toNat) ρ1) : WI (iRange1 as) ρ QI := by
  obtain ⟨a, ρ1, h, j, h1, h2, q⟩ := q
  exact ⟨_, ρ1, by simp only [iRange1, h, bnd_ok, h1, h2, and_self, if_true], q⟩
/-- a comprehension -/
theorem we_lc {di : DI} {g : DG} {c : DT} {e : DE} {vs : List Nat} (q : WI di ρ fun ds ρ1 => ds.length ≤ 1000000 ∧ ∃ ys ρ2, lcD g c e vs ds (wipeD ρ1 vs) = some (ys, ρ2) ∧ Q (.ol ys) (backD ρ1 ρ2 vs)) : WE (eLc di g c e vs) ρ Q := by
  obtain ⟨ds, ρ1, h, hl, ys, ρ2, h2, q⟩ := q
  exact ⟨_, _, by simp only [eLc, h, bnd_ok, hl, if_true, h2], q⟩
theorem wd_fn {n np : Nat} {fix : Nat → Bool} {bd : DS} {ds : List Dat} (hl : ds.length = np) (q : WS bd (ds.map some ++ List.replicate (n - np) none) fun o ρ => match o with | .rt d => Q d (keepAt fix 0 np ρ) | .nx => Q .non (keepAt fix 0 np ρ) | _ => False) : WD (fnD n np fix bd) ds Q := by
  obtain ⟨o, ρ, h, q⟩ := q
  cases o with
  | rt d => exact ⟨d, _, by simp only [fnD, hl, if_true, h], q⟩
  | nx => exact ⟨.non, _, by simp only [fnD, hl, if_true, h], q⟩
  | bk => exact q.elim
  | ct => exact q.elim
  | er x => exact q.elim
theorem lcI {g : DG} {c : DT} {e : DE} {vs : List Nat} {ds : List Dat} (I : Nat → List Dat → Ev → Prop) {ys0 : List Dat} (h0 : I 0 ys0 ρ) (hs : ∀ k d ρ ys, ds[k]? = some d → I k ys ρ → ∃ ρ1, g d ρ = some ρ1 ∧ WT c ρ1 fun b ρ2 => (b = true → WE e ρ2 fun y ρ3 => I (k + 1) (ys ++ [y]) (wipeD ρ3 vs)) ∧ (b = false → I (k + 1) ys (wipeD ρ2 vs))) :
    ∃ ys ρ', lcD g c e vs ds ρ = some (ys, ρ') ∧ I ds.length (ys0 ++ ys) ρ' := by
  induction ds generalizing ρ I ys0 with
  | nil => exact ⟨[], ρ, rfl, by simpa using h0⟩
  | cons d ds ih =>
    obtain ⟨ρ1, e1, b, ρ2, e2, h1, h2⟩ := hs 0 d ρ ys0 rfl h0
    cases b with
    | true =>
      obtain ⟨y, ρ3, e3, hI⟩ := h1 rfl
      obtain ⟨ys, ρ', e4, h4⟩ := ih (ρ := wipeD ρ3 vs) (fun k => I (k + 1)) hI fun k d ρ ys h => hs (k + 1) d ρ ys (by simpa using h)
      exact ⟨y :: ys, ρ', by simp only [lcD, e1, e2, e3, e4], by simpa using h4⟩
    | false =>
      obtain ⟨ys, ρ', e4, h4⟩ := ih (ρ := wipeD ρ2 vs) (fun k => I (k + 1)) (h2 rfl) fun k d ρ ys h => hs (k + 1) d ρ ys (by simpa using h)
      exact ⟨ys, ρ', by simp only [lcD, e1, e2, e4], by simpa using h4⟩
theorem WD.mono {f : DF} {ds : List Dat} {Q' : Dat → Ev → Prop} (h : WD f ds Q) (i : ∀ d ev, Q d ev → Q' d ev) : WD f ds Q' := by
  obtain ⟨d, ev, e, q⟩ := h
  exact ⟨d, ev, e, i d ev q⟩
end
end B
set_option Elab.async false
set_option linter.all false
set_option maxRecDepth 100000
namespace B
open PySem PySem.Spec PyProof.Rows L2 LamX
variable [TabT]
structure ED (f : DF) (ds : List Dat) (P : Exc → Prop) : Prop where
  ex : ∃ x ev, f ds = some (.error x, ev) ∧ P x
section
variable {ρ ρ' : Ev} {Q : Exc → Ev → Prop} {QS : Fl → Ev → Prop}
theorem ED.mono {f : DF} {ds : List Dat} {P P' : Exc → Prop} (h : ED f ds P) (i : ∀ x, P x → P' x) : ED f ds P' := by
  obtain ⟨x, ev, e, q⟩ := h
  exact ⟨x, ev, e, i x q⟩
end
end B
set_option Elab.async false
set_option linter.all false
set_option maxRecDepth 100000
namespace B
open PySem PySem.Spec PyProof.Rows L2 LamX
end B
set_option Elab.async false
set_option linter.all false
set_option maxRecDepth 100000
namespace B
open PySem PySem.Spec PyProof.Rows L2 LamX
structure Keyed {α : Type} (F : α → Dat) (K : α → NestedKey) : Prop where
  key : ∀ a, tkey (F a) = some (K a)
  inj : ∀ a b, K a = K b → a = b
  im : ∀ a, im (F a) = true
  fz : ∀ a, frz (F a) = F a
section
variable {α : Type} [DecidableEq α] {F : α → Dat} {K : α → NestedKey}
theorem Keyed.ims (hK : Keyed F K) : ∀ l : List α, ims (l.map F) = true
  | [] => rfl
  | a :: l => by rw [List.map_cons, B.ims, hK.im, hK.ims l]; rfl
def setO (F : α → Dat) (l : List α) : Dat := .od true (l.map F) (List.replicate l.length (.bl true))
/-- a list with one more, if it is not there -/
def addU (l : List α) (a : α) : List α := if a ∈ l then l else l ++ [a]
theorem addU_in {l : List α} {a : α} (h : a ∈ l) : addU l a = l := if_pos h
theorem addU_new {l : List α} {a : α} (h : a ∉ l) : addU l a = l ++ [a] := if_neg h
theorem Keyed.put (hK : Keyed F K) (a : α) (v : Dat) : ∀ (l : List α) (vs : List Dat), a ∉ l → vs.length = l.length → dPut (K a) (F a) v (l.map F) vs = ((l ++ [a]).map F, vs ++ [v])
  | [], [], _, _ => rfl
  | [], _ :: _, _, h => by cases h
  | _ :: _, [], _, h => by cases h
  | q :: l, w :: vs, hp, hl => by
    have ih := hK.put a v l vs (fun h => hp (List.mem_cons_of_mem _ h)) (by simpa using hl)
    have ne : ¬ tkey (F q) = some (K a) := by
      rw [hK.key]
      intro h
      exact hp (hK.inj _ _ (Option.some.inj h) ▸ List.mem_cons_self ..)
    rw [List.map_cons, dPut, if_neg ne, ih]
    rfl
theorem Keyed.putT (hK : Keyed F K) (a : α) (l : List α) : dPut (K a) (F a) (.bl true) (l.map F) (List.replicate l.length (.bl true)) = ((addU l a).map F, List.replicate (addU l a).length (.bl true)) := by
  by_cases h : a ∈ l
  · rw [addU_in h]
    induction l with
    | nil => cases h
    | cons b l ih =>
      rw [List.map_cons, List.length_cons, List.replicate_succ, dPut]
      by_cases e : tkey (F b) = some (K a)
      · rw [if_pos e]
      · rw [if_neg e]
        have hl : a ∈ l := by
          rcases List.mem_cons.mp h with rfl | h
          · exact absurd (hK.key a) e
          · exact h
        rw [ih hl]
  · rw [addU_new h, hK.put a _ l _ h (by simp), List.length_append]
    show (_, _) = (_, List.replicate (l.length + 1) _)
    rw [List.replicate_succ']
/-- all of a list, one after another -/
def addUs (l : List α) (as : List α) : List α := as.foldl addU l
/-- dict([(key, True) for ..]) -/
theorem Keyed.pairs (hK : Keyed F K) : ∀ l : List α, dPairs (l.map fun p => Dat.tup [F p, .bl true]) = some (l.map fun p => (K p, F p, Dat.bl true))
  | [] => rfl
  | p :: l => by
    rw [List.map_cons, dPairs, hK.key, hK.pairs l, hK.im]
    rfl
theorem Keyed.fold (hK : Keyed F K) : ∀ (as l : List α), dFold (as.map fun p => (K p, F p, Dat.bl true)) (l.map F) (List.replicate l.length (.bl true)) = ((addUs l as).map F, List.replicate (addUs l as).length (.bl true))
  | [], l => rfl
  | a :: as, l => by
    rw [List.map_cons, dFold]
    dsimp only
    rw [hK.putT]
    dsimp only
    rw [hK.fold as (addU l a)]
    rfl
theorem Keyed.dict (hK : Keyed F K) {as : List α} (hl : as.length ≤ 1000000) {c : Dat} (hc : lit c = some (as.map fun p => Dat.tup [F p, .bl true])) : dDictN [c] = some (setO F (addUs [] as)) := by
  have := hK.fold as []
  rw [List.map_nil, List.length_nil, List.replicate_zero] at this
  unfold dDictN
  simp only [hc, hK.pairs]
  rw [this, if_pos (by rw [List.length_map]; exact hl)]
  rfl
end
end B
set_option Elab.async false
set_option linter.all false
set_option maxRecDepth 100000
namespace B
open PySem PySem.Spec PyProof.Rows L2 LamX
variable [TabT]
section
variable {ρ : Ev} {Q : Dat → Ev → Prop}
/-- what is told of a call, as an equation -/
theorem wd_eq {f : DF} {ds : List Dat} {d : Dat} (h : WD f ds fun x _ => x = d) : ∃ ev, f ds = some (.ok d, ev) := by
  obtain ⟨x, ev, e, rfl⟩ := h
  exact ⟨ev, e⟩
end
end B
set_option Elab.async false
set_option linter.all false
set_option maxRecDepth 100000
set_option maxHeartbeats 4000000
namespace K00
open PySem PySem.Spec PyProof.Rows L2 LamX B
noncomputable section
variable [TabT]
def top (i : Nat) : Stmt := PySem.Challenge.pw_boardturns_k00_errors_made.main.body.getD i (.Pass ⟨0, 0, 0, 0⟩)
structure Ad where
  a_law_start : Addr
  fd_law_start : FuncData
  a_law_draw : Addr
  fd_law_draw : FuncData
  a_law_mixed : Addr
  fd_law_mixed : FuncData
  a_law_made_a : Addr
  fd_law_made_a : FuncData
  a_law_made_b : Addr
  fd_law_made_b : FuncData
  a_law_made_c : Addr
  fd_law_made_c : FuncData
  a_law_made_d : Addr
  fd_law_made_d : FuncData
  a_law_kinds_a : Addr
  fd_law_kinds_a : FuncData
  a_law_kinds_b : Addr
  fd_law_kinds_b : FuncData
  a_law_kinds_c : Addr
  fd_law_kinds_c : FuncData
  a_law_kinds_d : Addr
  fd_law_kinds_d : FuncData
  a_law_kinds : Addr
  fd_law_kinds : FuncData
  a_law_is_own : Addr
  fd_law_is_own : FuncData
  a_law_same : Addr
  fd_law_same : FuncData
  a_law_are_these : Addr
  fd_law_are_these : FuncData
  a_law : Addr
  fd_law : FuncData
  c_BadBarred : Addr
  i_BadBarred : Addr
  c_BadBegins : Addr
  i_BadBegins : Addr
  c_BadBoard : Addr
  i_BadBoard : Addr
  c_BadBox : Addr
  i_BadBox : Addr
  c_BadCell : Addr
  i_BadCell : Addr
  c_BadChange : Addr
  i_BadChange : Addr
  c_BadChoices : Addr
  i_BadChoices : Addr
  c_BadCorner : Addr
  i_BadCorner : Addr
  c_BadCosts : Addr
  i_BadCosts : Addr
  c_BadCovering : Addr
  i_BadCovering : Addr
  c_BadDeed : Addr
  i_BadDeed : Addr
  c_BadEnds : Addr
  i_BadEnds : Addr
  c_BadFloor : Addr
  i_BadFloor : Addr
  c_BadForm : Addr
  i_BadForm : Addr
  c_BadGoal : Addr
  i_BadGoal : Addr
  c_BadGone : Addr
  i_BadGone : Addr
  c_BadGreat : Addr
  i_BadGreat : Addr
  c_BadGround : Addr
  i_BadGround : Addr
  c_BadHeap : Addr
  i_BadHeap : Addr
  c_BadHeights : Addr
  i_BadHeights : Addr
  c_BadHigh : Addr
  i_BadHigh : Addr
  c_BadKind : Addr
  i_BadKind : Addr
  c_BadLaying : Addr
  i_BadLaying : Addr
  c_BadLine : Addr
  i_BadLine : Addr
  c_BadMost : Addr
  i_BadMost : Addr
  c_BadNumber : Addr
  i_BadNumber : Addr
  c_BadOne : Addr
  i_BadOne : Addr
  c_BadOrder : Addr
  i_BadOrder : Addr
  c_BadOther : Addr
  i_BadOther : Addr
  c_BadOut : Addr
  i_BadOut : Addr
  c_BadPath : Addr
  i_BadPath : Addr
  c_BadPoint : Addr
  i_BadPoint : Addr
  c_BadPoints : Addr
  i_BadPoints : Addr
  c_BadPrices : Addr
  i_BadPrices : Addr
  c_BadQuestion : Addr
  i_BadQuestion : Addr
  c_BadRing : Addr
  i_BadRing : Addr
  c_BadRoom : Addr
  i_BadRoom : Addr
  c_BadRoutes : Addr
  i_BadRoutes : Addr
  c_BadTable : Addr
  i_BadTable : Addr
  c_BadText : Addr
  i_BadText : Addr
  c_BadTie : Addr
  i_BadTie : Addr
  c_BadTies : Addr
  i_BadTies : Addr
  c_BadTold : Addr
  i_BadTold : Addr
  c_BadTree : Addr
  i_BadTree : Addr
  c_BadTriangle : Addr
  i_BadTriangle : Addr
  c_BadTurn : Addr
  i_BadTurn : Addr
  c_BadTurns : Addr
  i_BadTurns : Addr
  c_BadWalk : Addr
  i_BadWalk : Addr
  c_BadWay : Addr
  i_BadWay : Addr
  c_BadWide : Addr
  i_BadWide : Addr
  c_CommonCell : Addr
  i_CommonCell : Addr
  c_InUse : Addr
  i_InUse : Addr
  c_IsWatched : Addr
  i_IsWatched : Addr
  c_NoCount : Addr
  i_NoCount : Addr
  c_NoFlip : Addr
  i_NoFlip : Addr
  c_NoLaying : Addr
  i_NoLaying : Addr
  c_NoTree : Addr
  i_NoTree : Addr
  c_NotByTurns : Addr
  i_NotByTurns : Addr
  c_NotCheapest : Addr
  i_NotCheapest : Addr
  c_NotNow : Addr
  i_NotNow : Addr
  c_NotPlain : Addr
  i_NotPlain : Addr
  c_NotWatched : Addr
  i_NotWatched : Addr
  c_WouldChange : Addr
  i_WouldChange : Addr
  c_BoardError : Addr
  i_BoardError : Addr
  k_law_made_a : Addr
  t_law_made_a : Addr
  k_law_made_b : Addr
  t_law_made_b : Addr
  k_law_made_c : Addr
  t_law_made_c : Addr
  k_law_made_d : Addr
  t_law_made_d : Addr
def lamE : Expr → Str → LamI
  | .Lambda ps b sc _, q => ⟨q, ps, b, sc⟩
  | e, q => ⟨q, ⟨[], [], none, [], [], none, []⟩, e, ⟨default, [], false, false, []⟩⟩
def stOf (i j : Nat) : Stmt := (defBody (top i)).getD j (.Pass ⟨0, 0, 0, 0⟩)
def exT (k : Nat) : Expr → Expr
  | .Tuple es _ _ => es.getD k (.Name "" ⟨0, 0, 0, 0⟩)
  | e => e
def callE : Stmt → Expr
  | .Expr (.Call _ (e :: _) _ _) _ => e
  | _ => .Name "" ⟨0, 0, 0, 0⟩
def lamI_0 : LamI := lamE (exT 2 (callE (stOf 69 1))) "_law_made_a.<locals>.<lambda>"
def lamI_1 : LamI := lamE (exT 2 (callE (stOf 69 2))) "_law_made_a.<locals>.<lambda>"
def lamI_2 : LamI := lamE (exT 2 (callE (stOf 69 3))) "_law_made_a.<locals>.<lambda>"
def lamI_3 : LamI := lamE (exT 2 (callE (stOf 69 4))) "_law_made_a.<locals>.<lambda>"
def lamI_4 : LamI := lamE (exT 2 (callE (stOf 69 5))) "_law_made_a.<locals>.<lambda>"
def lamI_5 : LamI := lamE (exT 2 (callE (stOf 69 6))) "_law_made_a.<locals>.<lambda>"
def lamI_6 : LamI := lamE (exT 2 (callE (stOf 69 7))) "_law_made_a.<locals>.<lambda>"
def lamI_7 : LamI := lamE (exT 2 (callE (stOf 69 8))) "_law_made_a.<locals>.<lambda>"
def lamI_8 : LamI := lamE (exT 2 (callE (stOf 69 9))) "_law_made_a.<locals>.<lambda>"
def lamI_9 : LamI := lamE (exT 2 (callE (stOf 69 10))) "_law_made_a.<locals>.<lambda>"
def lamI_10 : LamI := lamE (exT 2 (callE (stOf 69 11))) "_law_made_a.<locals>.<lambda>"
def lamI_11 : LamI := lamE (exT 2 (callE (stOf 69 12))) "_law_made_a.<locals>.<lambda>"
def lamI_12 : LamI := lamE (exT 2 (callE (stOf 69 13))) "_law_made_a.<locals>.<lambda>"
def lamI_13 : LamI := lamE (exT 2 (callE (stOf 69 14))) "_law_made_a.<locals>.<lambda>"
def lamI_14 : LamI := lamE (exT 2 (callE (stOf 69 15))) "_law_made_a.<locals>.<lambda>"
def lamI_15 : LamI := lamE (exT 2 (callE (stOf 69 16))) "_law_made_a.<locals>.<lambda>"
def lamI_16 : LamI := lamE (exT 2 (callE (stOf 69 17))) "_law_made_a.<locals>.<lambda>"
def lamI_17 : LamI := lamE (exT 2 (callE (stOf 69 18))) "_law_made_a.<locals>.<lambda>"
def lamI_18 : LamI := lamE (exT 2 (callE (stOf 70 1))) "_law_made_b.<locals>.<lambda>"
def lamI_19 : LamI := lamE (exT 2 (callE (stOf 70 2))) "_law_made_b.<locals>.<lambda>"
def lamI_20 : LamI := lamE (exT 2 (callE (stOf 70 3))) "_law_made_b.<locals>.<lambda>"
def lamI_21 : LamI := lamE (exT 2 (callE (stOf 70 4))) "_law_made_b.<locals>.<lambda>"
def lamI_22 : LamI := lamE (exT 2 (callE (stOf 70 5))) "_law_made_b.<locals>.<lambda>"
def lamI_23 : LamI := lamE (exT 2 (callE (stOf 70 6))) "_law_made_b.<locals>.<lambda>"
def lamI_24 : LamI := lamE (exT 2 (callE (stOf 70 7))) "_law_made_b.<locals>.<lambda>"
def lamI_25 : LamI := lamE (exT 2 (callE (stOf 70 8))) "_law_made_b.<locals>.<lambda>"
def lamI_26 : LamI := lamE (exT 2 (callE (stOf 70 9))) "_law_made_b.<locals>.<lambda>"
def lamI_27 : LamI := lamE (exT 2 (callE (stOf 70 10))) "_law_made_b.<locals>.<lambda>"
def lamI_28 : LamI := lamE (exT 2 (callE (stOf 70 11))) "_law_made_b.<locals>.<lambda>"
def lamI_29 : LamI := lamE (exT 2 (callE (stOf 70 12))) "_law_made_b.<locals>.<lambda>"
def lamI_30 : LamI := lamE (exT 2 (callE (stOf 70 13))) "_law_made_b.<locals>.<lambda>"
def lamI_31 : LamI := lamE (exT 2 (callE (stOf 70 14))) "_law_made_b.<locals>.<lambda>"
def lamI_32 : LamI := lamE (exT 2 (callE (stOf 70 15))) "_law_made_b.<locals>.<lambda>"
def lamI_33 : LamI := lamE (exT 2 (callE (stOf 70 16))) "_law_made_b.<locals>.<lambda>"
def lamI_34 : LamI := lamE (exT 2 (callE (stOf 70 17))) "_law_made_b.<locals>.<lambda>"
def lamI_35 : LamI := lamE (exT 2 (callE (stOf 70 18))) "_law_made_b.<locals>.<lambda>"
def lamI_36 : LamI := lamE (exT 2 (callE (stOf 71 1))) "_law_made_c.<locals>.<lambda>"
def lamI_37 : LamI := lamE (exT 2 (callE (stOf 71 2))) "_law_made_c.<locals>.<lambda>"
def lamI_38 : LamI := lamE (exT 2 (callE (stOf 71 3))) "_law_made_c.<locals>.<lambda>"
def lamI_39 : LamI := lamE (exT 2 (callE (stOf 71 4))) "_law_made_c.<locals>.<lambda>"
def lamI_40 : LamI := lamE (exT 2 (callE (stOf 71 5))) "_law_made_c.<locals>.<lambda>"
def lamI_41 : LamI := lamE (exT 2 (callE (stOf 71 6))) "_law_made_c.<locals>.<lambda>"
def lamI_42 : LamI := lamE (exT 2 (callE (stOf 71 7))) "_law_made_c.<locals>.<lambda>"
def lamI_43 : LamI := lamE (exT 2 (callE (stOf 71 8))) "_law_made_c.<locals>.<lambda>"
def lamI_44 : LamI := lamE (exT 2 (callE (stOf 71 9))) "_law_made_c.<locals>.<lambda>"
def lamI_45 : LamI := lamE (exT 2 (callE (stOf 71 10))) "_law_made_c.<locals>.<lambda>"
def lamI_46 : LamI := lamE (exT 2 (callE (stOf 71 11))) "_law_made_c.<locals>.<lambda>"
def lamI_47 : LamI := lamE (exT 2 (callE (stOf 71 12))) "_law_made_c.<locals>.<lambda>"
def lamI_48 : LamI := lamE (exT 2 (callE (stOf 71 13))) "_law_made_c.<locals>.<lambda>"
def lamI_49 : LamI := lamE (exT 2 (callE (stOf 71 14))) "_law_made_c.<locals>.<lambda>"
def lamI_50 : LamI := lamE (exT 2 (callE (stOf 71 15))) "_law_made_c.<locals>.<lambda>"
def lamI_51 : LamI := lamE (exT 2 (callE (stOf 71 16))) "_law_made_c.<locals>.<lambda>"
def lamI_52 : LamI := lamE (exT 2 (callE (stOf 71 17))) "_law_made_c.<locals>.<lambda>"
def lamI_53 : LamI := lamE (exT 2 (callE (stOf 71 18))) "_law_made_c.<locals>.<lambda>"
def lamI_54 : LamI := lamE (exT 2 (callE (stOf 72 1))) "_law_made_d.<locals>.<lambda>"
def lamI_55 : LamI := lamE (exT 2 (callE (stOf 72 2))) "_law_made_d.<locals>.<lambda>"
def lamI_56 : LamI := lamE (exT 2 (callE (stOf 72 3))) "_law_made_d.<locals>.<lambda>"
def lamI_57 : LamI := lamE (exT 2 (callE (stOf 72 4))) "_law_made_d.<locals>.<lambda>"
def lamI_58 : LamI := lamE (exT 2 (callE (stOf 72 5))) "_law_made_d.<locals>.<lambda>"
def lamI_59 : LamI := lamE (exT 2 (callE (stOf 72 6))) "_law_made_d.<locals>.<lambda>"
def lamI_60 : LamI := lamE (exT 2 (callE (stOf 72 7))) "_law_made_d.<locals>.<lambda>"
def lamI_61 : LamI := lamE (exT 2 (callE (stOf 72 8))) "_law_made_d.<locals>.<lambda>"
def lamI_62 : LamI := lamE (exT 2 (callE (stOf 72 9))) "_law_made_d.<locals>.<lambda>"
def lamI : Nat → LamI
  | 0 => lamI_0
  | 1 => lamI_1
  | 2 => lamI_2
  | 3 => lamI_3
  | 4 => lamI_4
  | 5 => lamI_5
  | 6 => lamI_6
  | 7 => lamI_7
  | 8 => lamI_8
  | 9 => lamI_9
  | 10 => lamI_10
  | 11 => lamI_11
  | 12 => lamI_12
  | 13 => lamI_13
  | 14 => lamI_14
  | 15 => lamI_15
  | 16 => lamI_16
  | 17 => lamI_17
  | 18 => lamI_18
  | 19 => lamI_19
  | 20 => lamI_20
  | 21 => lamI_21
  | 22 => lamI_22
  | 23 => lamI_23
  | 24 => lamI_24
  | 25 => lamI_25
  | 26 => lamI_26
  | 27 => lamI_27
  | 28 => lamI_28
  | 29 => lamI_29
  | 30 => lamI_30
  | 31 => lamI_31
  | 32 => lamI_32
  | 33 => lamI_33
  | 34 => lamI_34
  | 35 => lamI_35
  | 36 => lamI_36
  | 37 => lamI_37
  | 38 => lamI_38
  | 39 => lamI_39
  | 40 => lamI_40
  | 41 => lamI_41
  | 42 => lamI_42
  | 43 => lamI_43
  | 44 => lamI_44
  | 45 => lamI_45
  | 46 => lamI_46
  | 47 => lamI_47
  | 48 => lamI_48
  | 49 => lamI_49
  | 50 => lamI_50
  | 51 => lamI_51
  | 52 => lamI_52
  | 53 => lamI_53
  | 54 => lamI_54
  | 55 => lamI_55
  | 56 => lamI_56
  | 57 => lamI_57
  | 58 => lamI_58
  | 59 => lamI_59
  | 60 => lamI_60
  | 61 => lamI_61
  | 62 => lamI_62
  | _ => lamI_0
structure Fx (P : Program) (w : World) (K : PySem.W.Frag) (mg : Str → Option Value) (base : Heap) (A : Ad) : Prop where
  blt : Blt mg
  fns : FnsOk K
  f_law_start : Fun K "_law_start" "_law_start" (top 66) A.a_law_start A.fd_law_start
  m_law_start : mg "_law_start" = some (.ref A.a_law_start)
  f_law_draw : Fun K "_law_draw" "_law_draw" (top 67) A.a_law_draw A.fd_law_draw
  m_law_draw : mg "_law_draw" = some (.ref A.a_law_draw)
  f_law_mixed : Fun K "_law_mixed" "_law_mixed" (top 68) A.a_law_mixed A.fd_law_mixed
  m_law_mixed : mg "_law_mixed" = some (.ref A.a_law_mixed)
  f_law_made_a : Fun K "_law_made_a" "_law_made_a" (top 69) A.a_law_made_a A.fd_law_made_a
  m_law_made_a : mg "_law_made_a" = some (.ref A.a_law_made_a)
  f_law_made_b : Fun K "_law_made_b" "_law_made_b" (top 70) A.a_law_made_b A.fd_law_made_b
  m_law_made_b : mg "_law_made_b" = some (.ref A.a_law_made_b)
  f_law_made_c : Fun K "_law_made_c" "_law_made_c" (top 71) A.a_law_made_c A.fd_law_made_c
  m_law_made_c : mg "_law_made_c" = some (.ref A.a_law_made_c)
  f_law_made_d : Fun K "_law_made_d" "_law_made_d" (top 72) A.a_law_made_d A.fd_law_made_d
  m_law_made_d : mg "_law_made_d" = some (.ref A.a_law_made_d)
  f_law_kinds_a : Fun K "_law_kinds_a" "_law_kinds_a" (top 73) A.a_law_kinds_a A.fd_law_kinds_a
  m_law_kinds_a : mg "_law_kinds_a" = some (.ref A.a_law_kinds_a)
  f_law_kinds_b : Fun K "_law_kinds_b" "_law_kinds_b" (top 74) A.a_law_kinds_b A.fd_law_kinds_b
  m_law_kinds_b : mg "_law_kinds_b" = some (.ref A.a_law_kinds_b)
  f_law_kinds_c : Fun K "_law_kinds_c" "_law_kinds_c" (top 75) A.a_law_kinds_c A.fd_law_kinds_c
  m_law_kinds_c : mg "_law_kinds_c" = some (.ref A.a_law_kinds_c)
  f_law_kinds_d : Fun K "_law_kinds_d" "_law_kinds_d" (top 76) A.a_law_kinds_d A.fd_law_kinds_d
  m_law_kinds_d : mg "_law_kinds_d" = some (.ref A.a_law_kinds_d)
  f_law_kinds : Fun K "_law_kinds" "_law_kinds" (top 77) A.a_law_kinds A.fd_law_kinds
  m_law_kinds : mg "_law_kinds" = some (.ref A.a_law_kinds)
  f_law_is_own : Fun K "_law_is_own" "_law_is_own" (top 78) A.a_law_is_own A.fd_law_is_own
  m_law_is_own : mg "_law_is_own" = some (.ref A.a_law_is_own)
  f_law_same : Fun K "_law_same" "_law_same" (top 79) A.a_law_same A.fd_law_same
  m_law_same : mg "_law_same" = some (.ref A.a_law_same)
  f_law_are_these : Fun K "_law_are_these" "_law_are_these" (top 80) A.a_law_are_these A.fd_law_are_these
  m_law_are_these : mg "_law_are_these" = some (.ref A.a_law_are_these)
  f_law : Fun K "law" "law" (top 81) A.a_law A.fd_law
  m_law : mg "law" = some (.ref A.a_law)
  ek_BadBarred : ErrK P w K mg base 1 "BadBarred" "index" A.c_BadBarred A.i_BadBarred
  ob_BadBarred : LamT.ob 0 = (A.c_BadBarred, (["index"] : List Str))
  is_BadBarred : IsC K (.ref A.c_BadBarred) (tOne 0)
  ek_BadBegins : ErrK P w K mg base 1 "BadBegins" "index" A.c_BadBegins A.i_BadBegins
  ob_BadBegins : LamT.ob 1 = (A.c_BadBegins, (["index"] : List Str))
  is_BadBegins : IsC K (.ref A.c_BadBegins) (tOne 1)
  ek_BadBoard : ErrK P w K mg base 1 "BadBoard" "thing" A.c_BadBoard A.i_BadBoard
  ob_BadBoard : LamT.ob 2 = (A.c_BadBoard, (["thing"] : List Str))
  is_BadBoard : IsC K (.ref A.c_BadBoard) (tOne 2)
  ek_BadBox : ErrK P w K mg base 1 "BadBox" "thing" A.c_BadBox A.i_BadBox
  ob_BadBox : LamT.ob 3 = (A.c_BadBox, (["thing"] : List Str))
  is_BadBox : IsC K (.ref A.c_BadBox) (tOne 3)
  ek_BadCell : ErrK P w K mg base 1 "BadCell" "thing" A.c_BadCell A.i_BadCell
  ob_BadCell : LamT.ob 4 = (A.c_BadCell, (["thing"] : List Str))
  is_BadCell : IsC K (.ref A.c_BadCell) (tOne 4)
  ek_BadChange : ErrK P w K mg base 1 "BadChange" "thing" A.c_BadChange A.i_BadChange
  ob_BadChange : LamT.ob 5 = (A.c_BadChange, (["thing"] : List Str))
  is_BadChange : IsC K (.ref A.c_BadChange) (tOne 5)
  ek_BadChoices : ErrK P w K mg base 1 "BadChoices" "index" A.c_BadChoices A.i_BadChoices
  ob_BadChoices : LamT.ob 6 = (A.c_BadChoices, (["index"] : List Str))
  is_BadChoices : IsC K (.ref A.c_BadChoices) (tOne 6)
  ek_BadCorner : ErrK P w K mg base 1 "BadCorner" "thing" A.c_BadCorner A.i_BadCorner
  ob_BadCorner : LamT.ob 7 = (A.c_BadCorner, (["thing"] : List Str))
  is_BadCorner : IsC K (.ref A.c_BadCorner) (tOne 7)
  ek_BadCosts : ErrK P w K mg base 1 "BadCosts" "thing" A.c_BadCosts A.i_BadCosts
  ob_BadCosts : LamT.ob 8 = (A.c_BadCosts, (["thing"] : List Str))
  is_BadCosts : IsC K (.ref A.c_BadCosts) (tOne 8)
  ek_BadCovering : ErrK P w K mg base 1 "BadCovering" "thing" A.c_BadCovering A.i_BadCovering
  ob_BadCovering : LamT.ob 9 = (A.c_BadCovering, (["thing"] : List Str))
  is_BadCovering : IsC K (.ref A.c_BadCovering) (tOne 9)
  ek_BadDeed : ErrK P w K mg base 1 "BadDeed" "deed" A.c_BadDeed A.i_BadDeed
  ob_BadDeed : LamT.ob 10 = (A.c_BadDeed, (["deed"] : List Str))
  is_BadDeed : IsC K (.ref A.c_BadDeed) (tOne 10)
  ek_BadEnds : ErrK P w K mg base 1 "BadEnds" "index" A.c_BadEnds A.i_BadEnds
  ob_BadEnds : LamT.ob 11 = (A.c_BadEnds, (["index"] : List Str))
  is_BadEnds : IsC K (.ref A.c_BadEnds) (tOne 11)
  ek_BadFloor : ErrK P w K mg base 1 "BadFloor" "index" A.c_BadFloor A.i_BadFloor
  ob_BadFloor : LamT.ob 12 = (A.c_BadFloor, (["index"] : List Str))
  is_BadFloor : IsC K (.ref A.c_BadFloor) (tOne 12)
  ek_BadForm : ErrK P w K mg base 1 "BadForm" "thing" A.c_BadForm A.i_BadForm
  ob_BadForm : LamT.ob 13 = (A.c_BadForm, (["thing"] : List Str))
  is_BadForm : IsC K (.ref A.c_BadForm) (tOne 13)
  ek_BadGoal : ErrK P w K mg base 1 "BadGoal" "thing" A.c_BadGoal A.i_BadGoal
  ob_BadGoal : LamT.ob 14 = (A.c_BadGoal, (["thing"] : List Str))
  is_BadGoal : IsC K (.ref A.c_BadGoal) (tOne 14)
  ek_BadGone : ErrK P w K mg base 1 "BadGone" "index" A.c_BadGone A.i_BadGone
  ob_BadGone : LamT.ob 15 = (A.c_BadGone, (["index"] : List Str))
  is_BadGone : IsC K (.ref A.c_BadGone) (tOne 15)
  ek_BadGreat : ErrK P w K mg base 1 "BadGreat" "thing" A.c_BadGreat A.i_BadGreat
  ob_BadGreat : LamT.ob 16 = (A.c_BadGreat, (["thing"] : List Str))
  is_BadGreat : IsC K (.ref A.c_BadGreat) (tOne 16)
  ek_BadGround : ErrK P w K mg base 1 "BadGround" "index" A.c_BadGround A.i_BadGround
  ob_BadGround : LamT.ob 17 = (A.c_BadGround, (["index"] : List Str))
  is_BadGround : IsC K (.ref A.c_BadGround) (tOne 17)
  ek_BadHeap : ErrK P w K mg base 1 "BadHeap" "thing" A.c_BadHeap A.i_BadHeap
  ob_BadHeap : LamT.ob 18 = (A.c_BadHeap, (["thing"] : List Str))
  is_BadHeap : IsC K (.ref A.c_BadHeap) (tOne 18)
  ek_BadHeights : ErrK P w K mg base 1 "BadHeights" "fault" A.c_BadHeights A.i_BadHeights
  ob_BadHeights : LamT.ob 19 = (A.c_BadHeights, (["fault"] : List Str))
  is_BadHeights : IsC K (.ref A.c_BadHeights) (tOne 19)
  ek_BadHigh : ErrK P w K mg base 1 "BadHigh" "thing" A.c_BadHigh A.i_BadHigh
  ob_BadHigh : LamT.ob 20 = (A.c_BadHigh, (["thing"] : List Str))
  is_BadHigh : IsC K (.ref A.c_BadHigh) (tOne 20)
  ek_BadKind : ErrK P w K mg base 1 "BadKind" "thing" A.c_BadKind A.i_BadKind
  ob_BadKind : LamT.ob 21 = (A.c_BadKind, (["thing"] : List Str))
  is_BadKind : IsC K (.ref A.c_BadKind) (tOne 21)
  ek_BadLaying : ErrK P w K mg base 1 "BadLaying" "thing" A.c_BadLaying A.i_BadLaying
  ob_BadLaying : LamT.ob 22 = (A.c_BadLaying, (["thing"] : List Str))
  is_BadLaying : IsC K (.ref A.c_BadLaying) (tOne 22)
  ek_BadLine : ErrK P w K mg base 1 "BadLine" "thing" A.c_BadLine A.i_BadLine
  ob_BadLine : LamT.ob 23 = (A.c_BadLine, (["thing"] : List Str))
  is_BadLine : IsC K (.ref A.c_BadLine) (tOne 23)
  ek_BadMost : ErrK P w K mg base 1 "BadMost" "thing" A.c_BadMost A.i_BadMost
  ob_BadMost : LamT.ob 24 = (A.c_BadMost, (["thing"] : List Str))
  is_BadMost : IsC K (.ref A.c_BadMost) (tOne 24)
  ek_BadNumber : ErrK P w K mg base 1 "BadNumber" "thing" A.c_BadNumber A.i_BadNumber
  ob_BadNumber : LamT.ob 25 = (A.c_BadNumber, (["thing"] : List Str))
  is_BadNumber : IsC K (.ref A.c_BadNumber) (tOne 25)
  ek_BadOne : ErrK P w K mg base 1 "BadOne" "thing" A.c_BadOne A.i_BadOne
  ob_BadOne : LamT.ob 26 = (A.c_BadOne, (["thing"] : List Str))
  is_BadOne : IsC K (.ref A.c_BadOne) (tOne 26)
  ek_BadOrder : ErrK P w K mg base 1 "BadOrder" "thing" A.c_BadOrder A.i_BadOrder
  ob_BadOrder : LamT.ob 27 = (A.c_BadOrder, (["thing"] : List Str))
  is_BadOrder : IsC K (.ref A.c_BadOrder) (tOne 27)
  ek_BadOther : ErrK P w K mg base 1 "BadOther" "thing" A.c_BadOther A.i_BadOther
  ob_BadOther : LamT.ob 28 = (A.c_BadOther, (["thing"] : List Str))
  is_BadOther : IsC K (.ref A.c_BadOther) (tOne 28)
  ek_BadOut : ErrK P w K mg base 1 "BadOut" "thing" A.c_BadOut A.i_BadOut
  ob_BadOut : LamT.ob 29 = (A.c_BadOut, (["thing"] : List Str))
  is_BadOut : IsC K (.ref A.c_BadOut) (tOne 29)
  ek_BadPath : ErrK P w K mg base 1 "BadPath" "thing" A.c_BadPath A.i_BadPath
  ob_BadPath : LamT.ob 30 = (A.c_BadPath, (["thing"] : List Str))
  is_BadPath : IsC K (.ref A.c_BadPath) (tOne 30)
  ek_BadPoint : ErrK P w K mg base 1 "BadPoint" "thing" A.c_BadPoint A.i_BadPoint
  ob_BadPoint : LamT.ob 31 = (A.c_BadPoint, (["thing"] : List Str))
  is_BadPoint : IsC K (.ref A.c_BadPoint) (tOne 31)
  ek_BadPoints : ErrK P w K mg base 1 "BadPoints" "index" A.c_BadPoints A.i_BadPoints
  ob_BadPoints : LamT.ob 32 = (A.c_BadPoints, (["index"] : List Str))
  is_BadPoints : IsC K (.ref A.c_BadPoints) (tOne 32)
  ek_BadPrices : ErrK P w K mg base 1 "BadPrices" "thing" A.c_BadPrices A.i_BadPrices
  ob_BadPrices : LamT.ob 33 = (A.c_BadPrices, (["thing"] : List Str))
  is_BadPrices : IsC K (.ref A.c_BadPrices) (tOne 33)
  ek_BadQuestion : ErrK P w K mg base 1 "BadQuestion" "thing" A.c_BadQuestion A.i_BadQuestion
  ob_BadQuestion : LamT.ob 34 = (A.c_BadQuestion, (["thing"] : List Str))
  is_BadQuestion : IsC K (.ref A.c_BadQuestion) (tOne 34)
  ek_BadRing : ErrK P w K mg base 1 "BadRing" "thing" A.c_BadRing A.i_BadRing
  ob_BadRing : LamT.ob 35 = (A.c_BadRing, (["thing"] : List Str))
  is_BadRing : IsC K (.ref A.c_BadRing) (tOne 35)
  ek_BadRoom : ErrK P w K mg base 1 "BadRoom" "thing" A.c_BadRoom A.i_BadRoom
  ob_BadRoom : LamT.ob 36 = (A.c_BadRoom, (["thing"] : List Str))
  is_BadRoom : IsC K (.ref A.c_BadRoom) (tOne 36)
  ek_BadRoutes : ErrK P w K mg base 1 "BadRoutes" "index" A.c_BadRoutes A.i_BadRoutes
  ob_BadRoutes : LamT.ob 37 = (A.c_BadRoutes, (["index"] : List Str))
  is_BadRoutes : IsC K (.ref A.c_BadRoutes) (tOne 37)
  ek_BadTable : ErrK P w K mg base 1 "BadTable" "index" A.c_BadTable A.i_BadTable
  ob_BadTable : LamT.ob 38 = (A.c_BadTable, (["index"] : List Str))
  is_BadTable : IsC K (.ref A.c_BadTable) (tOne 38)
  ek_BadText : ErrK2 P w K mg base 1 "BadText" "line" "sign" A.c_BadText A.i_BadText
  ob_BadText : LamT.ob 39 = (A.c_BadText, (["sign", "line"] : List Str))
  is_BadText : IsC K (.ref A.c_BadText) (tOne 39)
  ek_BadTie : ErrK P w K mg base 1 "BadTie" "thing" A.c_BadTie A.i_BadTie
  ob_BadTie : LamT.ob 40 = (A.c_BadTie, (["thing"] : List Str))
  is_BadTie : IsC K (.ref A.c_BadTie) (tOne 40)
  ek_BadTies : ErrK P w K mg base 1 "BadTies" "index" A.c_BadTies A.i_BadTies
  ob_BadTies : LamT.ob 41 = (A.c_BadTies, (["index"] : List Str))
  is_BadTies : IsC K (.ref A.c_BadTies) (tOne 41)
  ek_BadTold : ErrK P w K mg base 1 "BadTold" "index" A.c_BadTold A.i_BadTold
  ob_BadTold : LamT.ob 42 = (A.c_BadTold, (["index"] : List Str))
  is_BadTold : IsC K (.ref A.c_BadTold) (tOne 42)
  ek_BadTree : ErrK P w K mg base 1 "BadTree" "thing" A.c_BadTree A.i_BadTree
  ob_BadTree : LamT.ob 43 = (A.c_BadTree, (["thing"] : List Str))
  is_BadTree : IsC K (.ref A.c_BadTree) (tOne 43)
  ek_BadTriangle : ErrK P w K mg base 1 "BadTriangle" "thing" A.c_BadTriangle A.i_BadTriangle
  ob_BadTriangle : LamT.ob 44 = (A.c_BadTriangle, (["thing"] : List Str))
  is_BadTriangle : IsC K (.ref A.c_BadTriangle) (tOne 44)
  ek_BadTurn : ErrK P w K mg base 1 "BadTurn" "thing" A.c_BadTurn A.i_BadTurn
  ob_BadTurn : LamT.ob 45 = (A.c_BadTurn, (["thing"] : List Str))
  is_BadTurn : IsC K (.ref A.c_BadTurn) (tOne 45)
  ek_BadTurns : ErrK P w K mg base 1 "BadTurns" "index" A.c_BadTurns A.i_BadTurns
  ob_BadTurns : LamT.ob 46 = (A.c_BadTurns, (["index"] : List Str))
  is_BadTurns : IsC K (.ref A.c_BadTurns) (tOne 46)
  ek_BadWalk : ErrK P w K mg base 1 "BadWalk" "thing" A.c_BadWalk A.i_BadWalk
  ob_BadWalk : LamT.ob 47 = (A.c_BadWalk, (["thing"] : List Str))
  is_BadWalk : IsC K (.ref A.c_BadWalk) (tOne 47)
  ek_BadWay : ErrK P w K mg base 1 "BadWay" "fault" A.c_BadWay A.i_BadWay
  ob_BadWay : LamT.ob 48 = (A.c_BadWay, (["fault"] : List Str))
  is_BadWay : IsC K (.ref A.c_BadWay) (tOne 48)
  ek_BadWide : ErrK P w K mg base 1 "BadWide" "thing" A.c_BadWide A.i_BadWide
  ob_BadWide : LamT.ob 49 = (A.c_BadWide, (["thing"] : List Str))
  is_BadWide : IsC K (.ref A.c_BadWide) (tOne 49)
  ek_CommonCell : ErrK P w K mg base 1 "CommonCell" "cell" A.c_CommonCell A.i_CommonCell
  ob_CommonCell : LamT.ob 50 = (A.c_CommonCell, (["cell"] : List Str))
  is_CommonCell : IsC K (.ref A.c_CommonCell) (tOne 50)
  ek_InUse : ErrK P w K mg base 1 "InUse" "question" A.c_InUse A.i_InUse
  ob_InUse : LamT.ob 51 = (A.c_InUse, (["question"] : List Str))
  is_InUse : IsC K (.ref A.c_InUse) (tOne 51)
  ek_IsWatched : ErrK P w K mg base 1 "IsWatched" "question" A.c_IsWatched A.i_IsWatched
  ob_IsWatched : LamT.ob 52 = (A.c_IsWatched, (["question"] : List Str))
  is_IsWatched : IsC K (.ref A.c_IsWatched) (tOne 52)
  ek_NoCount : ErrK P w K mg base 1 "NoCount" "thing" A.c_NoCount A.i_NoCount
  ob_NoCount : LamT.ob 53 = (A.c_NoCount, (["thing"] : List Str))
  is_NoCount : IsC K (.ref A.c_NoCount) (tOne 53)
  ez_NoFlip : Err0 K mg "NoFlip" A.c_NoFlip
  ob_NoFlip : LamT.ob 54 = (A.c_NoFlip, ([] : List Str))
  is_NoFlip : IsC K (.ref A.c_NoFlip) (tOne 54)
  ez_NoLaying : Err0 K mg "NoLaying" A.c_NoLaying
  ob_NoLaying : LamT.ob 55 = (A.c_NoLaying, ([] : List Str))
  is_NoLaying : IsC K (.ref A.c_NoLaying) (tOne 55)
  ez_NoTree : Err0 K mg "NoTree" A.c_NoTree
  ob_NoTree : LamT.ob 56 = (A.c_NoTree, ([] : List Str))
  is_NoTree : IsC K (.ref A.c_NoTree) (tOne 56)
  ek_NotByTurns : ErrK2 P w K mg base 1 "NotByTurns" "cell" "other" A.c_NotByTurns A.i_NotByTurns
  ob_NotByTurns : LamT.ob 57 = (A.c_NotByTurns, (["other", "cell"] : List Str))
  is_NotByTurns : IsC K (.ref A.c_NotByTurns) (tOne 57)
  ez_NotCheapest : Err0 K mg "NotCheapest" A.c_NotCheapest
  ob_NotCheapest : LamT.ob 58 = (A.c_NotCheapest, ([] : List Str))
  is_NotCheapest : IsC K (.ref A.c_NotCheapest) (tOne 58)
  ek_NotNow : ErrK P w K mg base 1 "NotNow" "why" A.c_NotNow A.i_NotNow
  ob_NotNow : LamT.ob 59 = (A.c_NotNow, (["why"] : List Str))
  is_NotNow : IsC K (.ref A.c_NotNow) (tOne 59)
  ez_NotPlain : Err0 K mg "NotPlain" A.c_NotPlain
  ob_NotPlain : LamT.ob 60 = (A.c_NotPlain, ([] : List Str))
  is_NotPlain : IsC K (.ref A.c_NotPlain) (tOne 60)
  ek_NotWatched : ErrK P w K mg base 1 "NotWatched" "question" A.c_NotWatched A.i_NotWatched
  ob_NotWatched : LamT.ob 61 = (A.c_NotWatched, (["question"] : List Str))
  is_NotWatched : IsC K (.ref A.c_NotWatched) (tOne 61)
  ek_WouldChange : ErrK P w K mg base 1 "WouldChange" "question" A.c_WouldChange A.i_WouldChange
  ob_WouldChange : LamT.ob 62 = (A.c_WouldChange, (["question"] : List Str))
  is_WouldChange : IsC K (.ref A.c_WouldChange) (tOne 62)
  ez_BoardError : Err0 K mg "BoardError" A.c_BoardError
  ob_BoardError : LamT.ob 63 = (A.c_BoardError, ([] : List Str))
  is_BoardError : IsC K (.ref A.c_BoardError) tAll
  hob : ∀ c, (LamT.ob c).2 ≠ [] → ObOk K c
  bv_ValueError : mg "ValueError" = none
  is_ValueError : IsC K (.ty "ValueError") tAll
  bv_LookupError : mg "LookupError" = none
  is_LookupError : IsC K (.ty "LookupError") tNo
  bv_ArithmeticError : mg "ArithmeticError" = none
  is_ArithmeticError : IsC K (.ty "ArithmeticError") tNo
  bv_TypeError : mg "TypeError" = none
  is_TypeError : IsC K (.ty "TypeError") tNo
  lam : ∀ k, LamT.lam k = lamI k
  TB_law_made_a : TabB base mg A.k_law_made_a A.t_law_made_a
  tm_law_made_a : (A.t_law_made_a, (envOfC "_law_made_a" (defScope (top 69)) 0 A.a_law_made_a (.ref A.k_law_made_a)).qual ++ "<lambda>") ∈ TabT.tabs
  tu_law_made_a : ∀ p ∈ TabT.tabs, p.1 = A.t_law_made_a → p.2 = (envOfC "_law_made_a" (defScope (top 69)) 0 A.a_law_made_a (.ref A.k_law_made_a)).qual ++ "<lambda>"
  cd_law_made_a : A.fd_law_made_a.code = .ref A.k_law_made_a
  TB_law_made_b : TabB base mg A.k_law_made_b A.t_law_made_b
  tm_law_made_b : (A.t_law_made_b, (envOfC "_law_made_b" (defScope (top 70)) 0 A.a_law_made_b (.ref A.k_law_made_b)).qual ++ "<lambda>") ∈ TabT.tabs
  tu_law_made_b : ∀ p ∈ TabT.tabs, p.1 = A.t_law_made_b → p.2 = (envOfC "_law_made_b" (defScope (top 70)) 0 A.a_law_made_b (.ref A.k_law_made_b)).qual ++ "<lambda>"
  cd_law_made_b : A.fd_law_made_b.code = .ref A.k_law_made_b
  TB_law_made_c : TabB base mg A.k_law_made_c A.t_law_made_c
  tm_law_made_c : (A.t_law_made_c, (envOfC "_law_made_c" (defScope (top 71)) 0 A.a_law_made_c (.ref A.k_law_made_c)).qual ++ "<lambda>") ∈ TabT.tabs
  tu_law_made_c : ∀ p ∈ TabT.tabs, p.1 = A.t_law_made_c → p.2 = (envOfC "_law_made_c" (defScope (top 71)) 0 A.a_law_made_c (.ref A.k_law_made_c)).qual ++ "<lambda>"
  cd_law_made_c : A.fd_law_made_c.code = .ref A.k_law_made_c
  TB_law_made_d : TabB base mg A.k_law_made_d A.t_law_made_d
  tm_law_made_d : (A.t_law_made_d, (envOfC "_law_made_d" (defScope (top 72)) 0 A.a_law_made_d (.ref A.k_law_made_d)).qual ++ "<lambda>") ∈ TabT.tabs
  tu_law_made_d : ∀ p ∈ TabT.tabs, p.1 = A.t_law_made_d → p.2 = (envOfC "_law_made_d" (defScope (top 72)) 0 A.a_law_made_d (.ref A.k_law_made_d)).qual ++ "<lambda>"
  cd_law_made_d : A.fd_law_made_d.code = .ref A.k_law_made_d
variable {P : Program} {w : World} {K : PySem.W.Frag} {mg : Str → Option Value} {base : Heap}
theorem sc_law_start : FnScope ["script"] ["script"] (defScope (top 66)) := ⟨rfl, rfl, rfl, by decide +kernel, rfl, by decide +kernel, by decide +kernel⟩
theorem bn_law_start {A : Ad} (M : Fx P w K mg base A) : Binds K A.fd_law_start ["script"] [] := M.f_law_start.binds fun _ _ _ _ _ _ us hl => match us, hl with | [_], _ => rfl
def D_law_start (A : Ad) : DF := fnD 1 1 (fun i => [0].contains i) (sSeq (sRet (eLst (aE (eOp dList (aVw 0 aNil)) (aE (eC (.int 0)) (aE (eC (.int 0)) (aE (eC (.int 37)) aNil)))))) (sNx))
theorem ok_law_start {A : Ad} (M : Fx P w K mg base A) : FnOk P w K mg base (L2.CX P w) 3 A.a_law_start A.fd_law_start ["script"] (spD P w K mg (D_law_start A)) := ok_def (k := 2) M.f_law_start sc_law_start fun cdv A_ outer s H E hr =>
  (pdss_cons (pds_ret (pd_lst (pda_cons (p1_e (b_list M.blt (pda_cons (p1_vw (pv 0)) pda_nil))) (pda_cons (p1_e pd_int) (pda_cons (p1_e pd_int) (pda_cons (p1_e pd_int) pda_nil)))))) pdss_nil)
theorem sc_law_draw : FnScope ["stream", "many", "cell", "digit", "mixed"] ["stream", "many"] (defScope (top 67)) := ⟨rfl, rfl, rfl, by decide +kernel, rfl, by decide +kernel, by decide +kernel⟩
theorem bn_law_draw {A : Ad} (M : Fx P w K mg base A) : Binds K A.fd_law_draw ["stream", "many"] [] := M.f_law_draw.binds fun _ _ _ _ _ _ us hl => match us, hl with | [_, _], _ => rfl
def D_law_draw (A : Ad) : DF := fnD 5 2 (fun i => [0, 1].contains i) (sSeq (sStore 0 fSetL (aE (eC (.int 2)) aNil) (eOp dAdd (aE (eOp dIx (aVw 0 (aE (eC (.int 2)) aNil))) (aE (eC (.int 1)) aNil)))) (sSeq (sWhile (fun _ => 100000) (cBor (cAnd (eB (eOp (dEqA) (aE (eOp dIx (aVw 0 (aE (eC (.int 1)) aNil))) (aE (eC (.int 0)) aNil)))) (eB (eOp (dEq true) (aE (eOp dIx (aVw 0 (aE (eC (.int 0)) aNil))) (aE (eLst aNil) aNil)))))) (sSeq (sSetF 2 (eMut 0 (isOlAt 0) (fAt 0 fPopAt) (aE (eC (.int 0)) aNil))) (sSeq (sStore 0 fSetL (aE (eC (.int 3)) aNil) (eOp dMod (aE (eOp dToInt (aE (eOp dAdd (aE (eOp dAdd (aE (eOp dMul (aE (eOp dIx (aVw 0 (aE (eC (.int 3)) aNil))) (aE (eC (.int 60913)) aNil))) (aVw 2 aNil))) (aE (eC (.int 23)) aNil))) aNil)) (aE (eC (.int 2147483647)) aNil)))) (sSeq (sStore 0 fSetL (aE (eC (.int 1)) aNil) (eIf (eB (eOp (dGe) (aVw 2 (aE (eOp dPow (aE (eC (.int 10)) (aE (eC (.int 18)) aNil))) aNil)))) (eVM 2) (eC (.int 0)))) (sNx))))) (sSeq (sIf (eB (eOp (dGt) (aE (eOp dIx (aVw 0 (aE (eC (.int 1)) aNil))) (aE (eC (.int 0)) aNil)))) (sSeq (sSetF 3 (eOp dMod (aE (eOp dToInt (aE (eOp dIx (aVw 0 (aE (eC (.int 1)) aNil))) aNil)) (aVw 1 aNil)))) (sSeq (sStore 0 fSetL (aE (eC (.int 1)) aNil) (eOp dFdiv (aE (eOp dIx (aVw 0 (aE (eC (.int 1)) aNil))) (aVw 1 aNil)))) (sSeq (sRet (eVM 3)) (sNx)))) (sNx)) (sSeq (sSetF 4 (eOp dMod (aE (eOp dToInt (aE (eOp dPow (aE (eOp dAdd (aE (eOp dAdd (aE (eOp dIx (aVw 0 (aE (eC (.int 3)) aNil))) (aE (eOp dMul (aE (eC (.int 8191)) (aE (eOp dIx (aVw 0 (aE (eC (.int 2)) aNil))) aNil))) aNil))) (aE (eC (.int 150067)) aNil))) (aE (eC (.int 5)) aNil))) aNil)) (aE (eC (.int 2147483629)) aNil)))) (sSeq (sRet (eOp dMod (aE (eOp dMod (aE (eOp dToInt (aE (eOp dPow (aE (eOp dAdd (aE (eOp dAdd (aE (eOp dMul (aVw 4 (aE (eC (.int 47017)) aNil))) (aE (eOp dMul (aE (eC (.int 60029)) (aE (eOp dIx (aVw 0 (aE (eC (.int 2)) aNil))) aNil))) aNil))) (aE (eC (.int 59)) aNil))) (aE (eC (.int 3)) aNil))) aNil)) (aE (eC (.int 1000000007)) aNil))) (aVw 1 aNil)))) (sNx))))))
theorem ok_law_draw {A : Ad} (M : Fx P w K mg base A) : FnOk P w K mg base (L2.CX P w) 3 A.a_law_draw A.fd_law_draw ["stream", "many"] (spD P w K mg (D_law_draw A)) := ok_def (k := 2) M.f_law_draw sc_law_draw fun cdv A_ outer s H E hr =>
  (pdss_cons (pds_store (pv 0) (p1_e pd_int) (o_add (p1_e (pd_ix hr (p1_vw (pv 0)) (p1_e pd_int) (fun _ _ => rfl))) (p1_e pd_int)) set_list so_list) (pdss_cons (pds_while (fun _ => 100000) (passes_of rfl) (pdt_bor (PW.pt (pdw_and (t_eq M.fns hr (p1_e (pd_ix hr (p1_vw (pv 0)) (p1_e pd_int) (fun _ _ => rfl))) (p1_e pd_int)) (pdw_and1 (t_ne hr (p1_e (pd_ix hr (p1_vw (pv 0)) (p1_e pd_int) (fun _ _ => rfl))) (p1_e (pd_lst pda_nil))))))) (pdss_cons (pds_setF sc_law_draw.nd rfl (.inl rfl) (by rfl) (pd_lmethAt (kn := 0) rfl ⟨_, hr⟩ PySem.F.slot_list_pop PySem.F.type_list_pop mt_popAt mo_popAt (pv 0) (fun _ _ => rfl))) (pdss_cons (pds_store (pv 0) (p1_e pd_int) (o_mod (p1_e (b_int M.blt (pda_cons (p1_e (o_add (p1_e (o_add (p1_e (o_mul (p1_e (pd_ix hr (p1_vw (pv 0)) (p1_e pd_int) (fun _ _ => rfl))) (p1_e pd_int))) (p1_vw (pv 2)))) (p1_e pd_int))) pda_nil))) (p1_e pd_int)) set_list so_list) (pdss_cons (pds_store (pv 0) (p1_e pd_int) (pd_if (t_ge (p1_vw (pv 2)) (p1_e (o_pow (p1_e pd_int) (p1_e pd_int)))) (pd_vm (pv 2)) pd_int) set_list so_list) pdss_nil)))) (pdss_cons (pds_if (t_gt (p1_e (pd_ix hr (p1_vw (pv 0)) (p1_e pd_int) (fun _ _ => rfl))) (p1_e pd_int)) (pdss_cons (pds_setF sc_law_draw.nd rfl (.inl rfl) (by rfl) (o_mod (p1_e (b_int M.blt (pda_cons (p1_e (pd_ix hr (p1_vw (pv 0)) (p1_e pd_int) (fun _ _ => rfl))) pda_nil))) (p1_vw (pv 1)))) (pdss_cons (pds_store (pv 0) (p1_e pd_int) (o_fdiv (p1_e (pd_ix hr (p1_vw (pv 0)) (p1_e pd_int) (fun _ _ => rfl))) (p1_vw (pv 1))) set_list so_list) (pdss_cons (pds_ret (pd_vm (pv 3))) pdss_nil))) pdss_nil) (pdss_cons (pds_setF sc_law_draw.nd rfl (.inl rfl) (by rfl) (o_mod (p1_e (b_int M.blt (pda_cons (p1_e (o_pow (p1_e (o_add (p1_e (o_add (p1_e (pd_ix hr (p1_vw (pv 0)) (p1_e pd_int) (fun _ _ => rfl))) (p1_e (o_mul (p1_e pd_int) (p1_e (pd_ix hr (p1_vw (pv 0)) (p1_e pd_int) (fun _ _ => rfl))))))) (p1_e pd_int))) (p1_e pd_int))) pda_nil))) (p1_e pd_int))) (pdss_cons (pds_ret (o_mod (p1_e (o_mod (p1_e (b_int M.blt (pda_cons (p1_e (o_pow (p1_e (o_add (p1_e (o_add (p1_e (o_mul (p1_vw (pv 4)) (p1_e pd_int))) (p1_e (o_mul (p1_e pd_int) (p1_e (pd_ix hr (p1_vw (pv 0)) (p1_e pd_int) (fun _ _ => rfl))))))) (p1_e pd_int))) (p1_e pd_int))) pda_nil))) (p1_e pd_int))) (p1_vw (pv 1)))) pdss_nil)))))
theorem sc_law_mixed : FnScope ["stream", "some", "left", "k"] ["stream", "some"] (defScope (top 68)) := ⟨rfl, rfl, rfl, by decide +kernel, rfl, by decide +kernel, by decide +kernel⟩
theorem bn_law_mixed {A : Ad} (M : Fx P w K mg base A) : Binds K A.fd_law_mixed ["stream", "some"] [] := M.f_law_mixed.binds fun _ _ _ _ _ _ us hl => match us, hl with | [_, _], _ => rfl
def D_law_mixed (A : Ad) : DF := fnD 4 2 (fun i => [0, 1].contains i) (sSeq (sSet 2 (eOp dList (aVw 1 aNil))) (sSeq (sRet (eLc (iRange1 (aE (eOp dLen (aVw 2 aNil)) aNil)) (gSet 3) (fun ρ => some (.ok true, ρ)) (eMut 2 isOl fPopAt (aE (eCall (D_law_draw A) (aVw 0 (aE (eOp dLen (aVw 2 aNil)) aNil))) aNil)) [3])) (sNx)))
theorem ok_law_mixed {A : Ad} (M : Fx P w K mg base A) : FnOk P w K mg base (L2.CX P w) 4 A.a_law_mixed A.fd_law_mixed ["stream", "some"] (spD P w K mg (D_law_mixed A)) := ok_def (k := 3) M.f_law_mixed sc_law_mixed fun cdv A_ outer s H E hr =>
  (pdss_cons (pds_set sc_law_mixed.nd rfl (by first | exact Or.inl rfl | exact Or.inr rfl) (by rfl) (b_list M.blt (pda_cons (p1_vw (pv 1)) pda_nil))) (pdss_cons (pds_ret (pd_lc (own := [("k", 3)]) rfl sc_law_mixed.nd (pdi_range1 rfl M.blt.range (pda_cons (p1_e (b_len M.blt (pda_cons (p1_vw (pv 2)) pda_nil))) pda_nil)) (blk_by (own := [("k", 3)]) (by rfl)) (fun _ _ _ _ _ => (pdg_name sc_law_mixed.nd rfl (.inl rfl) (by rfl))) (fun _ _ _ _ _ => pts_none) (fun _ _ _ _ _ => (m_popAt (pv 2) (pda_cons (p1_e (pd_call (ok_law_draw M) (hr.mono (by omega)) rfl M.m_law_draw M.f_law_draw.kp (bn_law_draw M) LamX.takes0 (pda_cons (p1_vw (pv 0)) (pda_cons (p1_e (b_len M.blt (pda_cons (p1_vw (pv 2)) pda_nil))) pda_nil)))) pda_nil))))) pdss_nil))
end
end K00
set_option Elab.async false
set_option linter.all false
set_option maxRecDepth 100000
set_option maxHeartbeats 4000000
namespace K00
open PySem PySem.Spec PyProof.Rows L2 LamX B
noncomputable section
variable [TabT]
variable {P : Program} {w : World} {K : PySem.W.Frag} {mg : Str → Option Value} {base : Heap}
theorem sc_law_made_a : FnScope ["x", "y", "z", "found"] ["x", "y", "z"] (defScope (top 69)) := ⟨rfl, rfl, rfl, by decide +kernel, rfl, by decide +kernel, by decide +kernel⟩
theorem bn_law_made_a {A : Ad} (M : Fx P w K mg base A) : Binds K A.fd_law_made_a ["x", "y", "z"] [] := M.f_law_made_a.binds fun _ _ _ _ _ _ us hl => match us, hl with | [_, _, _], _ => rfl
def D_law_made_a (A : Ad) : DF := fnD 4 3 (fun i => [0, 1, 2].contains i) (sSeq (sSet 3 (eLst aNil)) (sSeq (sDrop (eMut 3 isOl fAppend (aE (eTup (aE (eOp (dMk 0) (aVw 0 aNil)) (aE (eOp (dMk 0) (aVw 0 aNil)) (aE (eC (.fn 0)) (aE (eLst (aE (eVM 0) aNil)) aNil))))) aNil))) (sSeq (sDrop (eMut 3 isOl fAppend (aE (eTup (aE (eOp (dMk 1) (aVw 0 aNil)) (aE (eOp (dMk 1) (aVw 0 aNil)) (aE (eC (.fn 1)) (aE (eLst (aE (eVM 0) aNil)) aNil))))) aNil))) (sSeq (sDrop (eMut 3 isOl fAppend (aE (eTup (aE (eOp (dMk 2) (aVw 0 aNil)) (aE (eOp (dMk 2) (aVw 0 aNil)) (aE (eC (.fn 2)) (aE (eLst (aE (eVM 0) aNil)) aNil))))) aNil))) (sSeq (sDrop (eMut 3 isOl fAppend (aE (eTup (aE (eOp (dMk 3) (aVw 0 aNil)) (aE (eOp (dMk 3) (aVw 0 aNil)) (aE (eC (.fn 3)) (aE (eLst (aE (eVM 0) aNil)) aNil))))) aNil))) (sSeq (sDrop (eMut 3 isOl fAppend (aE (eTup (aE (eOp (dMk 4) (aVw 0 aNil)) (aE (eOp (dMk 4) (aVw 0 aNil)) (aE (eC (.fn 4)) (aE (eLst (aE (eVM 0) aNil)) aNil))))) aNil))) (sSeq (sDrop (eMut 3 isOl fAppend (aE (eTup (aE (eOp (dMk 5) (aVw 0 aNil)) (aE (eOp (dMk 5) (aVw 0 aNil)) (aE (eC (.fn 5)) (aE (eLst (aE (eVM 0) aNil)) aNil))))) aNil))) (sSeq (sDrop (eMut 3 isOl fAppend (aE (eTup (aE (eOp (dMk 6) (aVw 0 aNil)) (aE (eOp (dMk 6) (aVw 0 aNil)) (aE (eC (.fn 6)) (aE (eLst (aE (eVM 0) aNil)) aNil))))) aNil))) (sSeq (sDrop (eMut 3 isOl fAppend (aE (eTup (aE (eOp (dMk 7) (aVw 0 aNil)) (aE (eOp (dMk 7) (aVw 0 aNil)) (aE (eC (.fn 7)) (aE (eLst (aE (eVM 0) aNil)) aNil))))) aNil))) (sSeq (sDrop (eMut 3 isOl fAppend (aE (eTup (aE (eOp (dMk 8) (aVw 0 aNil)) (aE (eOp (dMk 8) (aVw 0 aNil)) (aE (eC (.fn 8)) (aE (eLst (aE (eVM 0) aNil)) aNil))))) aNil))) (sSeq (sDrop (eMut 3 isOl fAppend (aE (eTup (aE (eOp (dMk 9) (aVw 0 aNil)) (aE (eOp (dMk 9) (aVw 0 aNil)) (aE (eC (.fn 9)) (aE (eLst (aE (eVM 0) aNil)) aNil))))) aNil))) (sSeq (sDrop (eMut 3 isOl fAppend (aE (eTup (aE (eOp (dMk 10) (aVw 0 aNil)) (aE (eOp (dMk 10) (aVw 0 aNil)) (aE (eC (.fn 10)) (aE (eLst (aE (eVM 0) aNil)) aNil))))) aNil))) (sSeq (sDrop (eMut 3 isOl fAppend (aE (eTup (aE (eOp (dMk 11) (aVw 0 aNil)) (aE (eOp (dMk 11) (aVw 0 aNil)) (aE (eC (.fn 11)) (aE (eLst (aE (eVM 0) aNil)) aNil))))) aNil))) (sSeq (sDrop (eMut 3 isOl fAppend (aE (eTup (aE (eOp (dMk 12) (aVw 0 aNil)) (aE (eOp (dMk 12) (aVw 0 aNil)) (aE (eC (.fn 12)) (aE (eLst (aE (eVM 0) aNil)) aNil))))) aNil))) (sSeq (sDrop (eMut 3 isOl fAppend (aE (eTup (aE (eOp (dMk 13) (aVw 0 aNil)) (aE (eOp (dMk 13) (aVw 0 aNil)) (aE (eC (.fn 13)) (aE (eLst (aE (eVM 0) aNil)) aNil))))) aNil))) (sSeq (sDrop (eMut 3 isOl fAppend (aE (eTup (aE (eOp (dMk 14) (aVw 0 aNil)) (aE (eOp (dMk 14) (aVw 0 aNil)) (aE (eC (.fn 14)) (aE (eLst (aE (eVM 0) aNil)) aNil))))) aNil))) (sSeq (sDrop (eMut 3 isOl fAppend (aE (eTup (aE (eOp (dMk 15) (aVw 0 aNil)) (aE (eOp (dMk 15) (aVw 0 aNil)) (aE (eC (.fn 15)) (aE (eLst (aE (eVM 0) aNil)) aNil))))) aNil))) (sSeq (sDrop (eMut 3 isOl fAppend (aE (eTup (aE (eOp (dMk 16) (aVw 0 aNil)) (aE (eOp (dMk 16) (aVw 0 aNil)) (aE (eC (.fn 16)) (aE (eLst (aE (eVM 0) aNil)) aNil))))) aNil))) (sSeq (sDrop (eMut 3 isOl fAppend (aE (eTup (aE (eOp (dMk 17) (aVw 0 aNil)) (aE (eOp (dMk 17) (aVw 0 aNil)) (aE (eC (.fn 17)) (aE (eLst (aE (eVM 0) aNil)) aNil))))) aNil))) (sSeq (sRet (eVM 3)) (sNx)))))))))))))))))))))
theorem ok_law_made_a {A : Ad} (M : Fx P w K mg base A) : FnOk P w K mg base (L2.CX P w) 3 A.a_law_made_a A.fd_law_made_a ["x", "y", "z"] (spD P w K mg (D_law_made_a A)) := ok_defC (k := 2) M.cd_law_made_a M.f_law_made_a sc_law_made_a fun A_ outer s H E hr =>
  (pdss_cons (pds_set sc_law_made_a.nd rfl (.inl rfl) (by rfl) (pd_lst pda_nil)) (pdss_cons (pds_expr (m_append (pv 3) (pda_cons (p1_e (pd_tup (pda_cons (p1_e (pd_mkO M.ek_BadBarred.c M.ob_BadBarred (hr.mono (by decide)) takes_def rfl (pda_cons (p1_vw (pv 0)) pda_nil))) (pda_cons (p1_e (pd_mkOK (ck := fun r => (aVw 0 r)) M.ek_BadBarred M.ob_BadBarred (hr.mono (by decide)) rfl (p1k_cons (p1_vw (pv 0)) p1k_nil))) (pda_cons (p1_e (pd_lamV (k := 0) (M.lam 0) M.TB_law_made_a rfl M.tm_law_made_a M.tu_law_made_a rfl (by rfl) (by rfl))) (pda_cons (p1_e (pd_lst (pda_cons (p1_e (pd_vm (pv 0))) pda_nil))) pda_nil)))))) pda_nil))) (pdss_cons (pds_expr (m_append (pv 3) (pda_cons (p1_e (pd_tup (pda_cons (p1_e (pd_mkO M.ek_BadBegins.c M.ob_BadBegins (hr.mono (by decide)) takes_def rfl (pda_cons (p1_vw (pv 0)) pda_nil))) (pda_cons (p1_e (pd_mkOK (ck := fun r => (aVw 0 r)) M.ek_BadBegins M.ob_BadBegins (hr.mono (by decide)) rfl (p1k_cons (p1_vw (pv 0)) p1k_nil))) (pda_cons (p1_e (pd_lamV (k := 1) (M.lam 1) M.TB_law_made_a rfl M.tm_law_made_a M.tu_law_made_a rfl (by rfl) (by rfl))) (pda_cons (p1_e (pd_lst (pda_cons (p1_e (pd_vm (pv 0))) pda_nil))) pda_nil)))))) pda_nil))) (pdss_cons (pds_expr (m_append (pv 3) (pda_cons (p1_e (pd_tup (pda_cons (p1_e (pd_mkO M.ek_BadBoard.c M.ob_BadBoard (hr.mono (by decide)) takes_def rfl (pda_cons (p1_vw (pv 0)) pda_nil))) (pda_cons (p1_e (pd_mkOK (ck := fun r => (aVw 0 r)) M.ek_BadBoard M.ob_BadBoard (hr.mono (by decide)) rfl (p1k_cons (p1_vw (pv 0)) p1k_nil))) (pda_cons (p1_e (pd_lamV (k := 2) (M.lam 2) M.TB_law_made_a rfl M.tm_law_made_a M.tu_law_made_a rfl (by rfl) (by rfl))) (pda_cons (p1_e (pd_lst (pda_cons (p1_e (pd_vm (pv 0))) pda_nil))) pda_nil)))))) pda_nil))) (pdss_cons (pds_expr (m_append (pv 3) (pda_cons (p1_e (pd_tup (pda_cons (p1_e (pd_mkO M.ek_BadBox.c M.ob_BadBox (hr.mono (by decide)) takes_def rfl (pda_cons (p1_vw (pv 0)) pda_nil))) (pda_cons (p1_e (pd_mkOK (ck := fun r => (aVw 0 r)) M.ek_BadBox M.ob_BadBox (hr.mono (by decide)) rfl (p1k_cons (p1_vw (pv 0)) p1k_nil))) (pda_cons (p1_e (pd_lamV (k := 3) (M.lam 3) M.TB_law_made_a rfl M.tm_law_made_a M.tu_law_made_a rfl (by rfl) (by rfl))) (pda_cons (p1_e (pd_lst (pda_cons (p1_e (pd_vm (pv 0))) pda_nil))) pda_nil)))))) pda_nil))) (pdss_cons (pds_expr (m_append (pv 3) (pda_cons (p1_e (pd_tup (pda_cons (p1_e (pd_mkO M.ek_BadCell.c M.ob_BadCell (hr.mono (by decide)) takes_def rfl (pda_cons (p1_vw (pv 0)) pda_nil))) (pda_cons (p1_e (pd_mkOK (ck := fun r => (aVw 0 r)) M.ek_BadCell M.ob_BadCell (hr.mono (by decide)) rfl (p1k_cons (p1_vw (pv 0)) p1k_nil))) (pda_cons (p1_e (pd_lamV (k := 4) (M.lam 4) M.TB_law_made_a rfl M.tm_law_made_a M.tu_law_made_a rfl (by rfl) (by rfl))) (pda_cons (p1_e (pd_lst (pda_cons (p1_e (pd_vm (pv 0))) pda_nil))) pda_nil)))))) pda_nil))) (pdss_cons (pds_expr (m_append (pv 3) (pda_cons (p1_e (pd_tup (pda_cons (p1_e (pd_mkO M.ek_BadChange.c M.ob_BadChange (hr.mono (by decide)) takes_def rfl (pda_cons (p1_vw (pv 0)) pda_nil))) (pda_cons (p1_e (pd_mkOK (ck := fun r => (aVw 0 r)) M.ek_BadChange M.ob_BadChange (hr.mono (by decide)) rfl (p1k_cons (p1_vw (pv 0)) p1k_nil))) (pda_cons (p1_e (pd_lamV (k := 5) (M.lam 5) M.TB_law_made_a rfl M.tm_law_made_a M.tu_law_made_a rfl (by rfl) (by rfl))) (pda_cons (p1_e (pd_lst (pda_cons (p1_e (pd_vm (pv 0))) pda_nil))) pda_nil)))))) pda_nil))) (pdss_cons (pds_expr (m_append (pv 3) (pda_cons (p1_e (pd_tup (pda_cons (p1_e (pd_mkO M.ek_BadChoices.c M.ob_BadChoices (hr.mono (by decide)) takes_def rfl (pda_cons (p1_vw (pv 0)) pda_nil))) (pda_cons (p1_e (pd_mkOK (ck := fun r => (aVw 0 r)) M.ek_BadChoices M.ob_BadChoices (hr.mono (by decide)) rfl (p1k_cons (p1_vw (pv 0)) p1k_nil))) (pda_cons (p1_e (pd_lamV (k := 6) (M.lam 6) M.TB_law_made_a rfl M.tm_law_made_a M.tu_law_made_a rfl (by rfl) (by rfl))) (pda_cons (p1_e (pd_lst (pda_cons (p1_e (pd_vm (pv 0))) pda_nil))) pda_nil)))))) pda_nil))) (pdss_cons (pds_expr (m_append (pv 3) (pda_cons (p1_e (pd_tup (pda_cons (p1_e (pd_mkO M.ek_BadCorner.c M.ob_BadCorner (hr.mono (by decide)) takes_def rfl (pda_cons (p1_vw (pv 0)) pda_nil))) (pda_cons (p1_e (pd_mkOK (ck := fun r => (aVw 0 r)) M.ek_BadCorner M.ob_BadCorner (hr.mono (by decide)) rfl (p1k_cons (p1_vw (pv 0)) p1k_nil))) (pda_cons (p1_e (pd_lamV (k := 7) (M.lam 7) M.TB_law_made_a rfl M.tm_law_made_a M.tu_law_made_a rfl (by rfl) (by rfl))) (pda_cons (p1_e (pd_lst (pda_cons (p1_e (pd_vm (pv 0))) pda_nil))) pda_nil)))))) pda_nil))) (pdss_cons (pds_expr (m_append (pv 3) (pda_cons (p1_e (pd_tup (pda_cons (p1_e (pd_mkO M.ek_BadCosts.c M.ob_BadCosts (hr.mono (by decide)) takes_def rfl (pda_cons (p1_vw (pv 0)) pda_nil))) (pda_cons (p1_e (pd_mkOK (ck := fun r => (aVw 0 r)) M.ek_BadCosts M.ob_BadCosts (hr.mono (by decide)) rfl (p1k_cons (p1_vw (pv 0)) p1k_nil))) (pda_cons (p1_e (pd_lamV (k := 8) (M.lam 8) M.TB_law_made_a rfl M.tm_law_made_a M.tu_law_made_a rfl (by rfl) (by rfl))) (pda_cons (p1_e (pd_lst (pda_cons (p1_e (pd_vm (pv 0))) pda_nil))) pda_nil)))))) pda_nil))) (pdss_cons (pds_expr (m_append (pv 3) (pda_cons (p1_e (pd_tup (pda_cons (p1_e (pd_mkO M.ek_BadCovering.c M.ob_BadCovering (hr.mono (by decide)) takes_def rfl (pda_cons (p1_vw (pv 0)) pda_nil))) (pda_cons (p1_e (pd_mkOK (ck := fun r => (aVw 0 r)) M.ek_BadCovering M.ob_BadCovering (hr.mono (by decide)) rfl (p1k_cons (p1_vw (pv 0)) p1k_nil))) (pda_cons (p1_e (pd_lamV (k := 9) (M.lam 9) M.TB_law_made_a rfl M.tm_law_made_a M.tu_law_made_a rfl (by rfl) (by rfl))) (pda_cons (p1_e (pd_lst (pda_cons (p1_e (pd_vm (pv 0))) pda_nil))) pda_nil)))))) pda_nil))) (pdss_cons (pds_expr (m_append (pv 3) (pda_cons (p1_e (pd_tup (pda_cons (p1_e (pd_mkO M.ek_BadDeed.c M.ob_BadDeed (hr.mono (by decide)) takes_def rfl (pda_cons (p1_vw (pv 0)) pda_nil))) (pda_cons (p1_e (pd_mkOK (ck := fun r => (aVw 0 r)) M.ek_BadDeed M.ob_BadDeed (hr.mono (by decide)) rfl (p1k_cons (p1_vw (pv 0)) p1k_nil))) (pda_cons (p1_e (pd_lamV (k := 10) (M.lam 10) M.TB_law_made_a rfl M.tm_law_made_a M.tu_law_made_a rfl (by rfl) (by rfl))) (pda_cons (p1_e (pd_lst (pda_cons (p1_e (pd_vm (pv 0))) pda_nil))) pda_nil)))))) pda_nil))) (pdss_cons (pds_expr (m_append (pv 3) (pda_cons (p1_e (pd_tup (pda_cons (p1_e (pd_mkO M.ek_BadEnds.c M.ob_BadEnds (hr.mono (by decide)) takes_def rfl (pda_cons (p1_vw (pv 0)) pda_nil))) (pda_cons (p1_e (pd_mkOK (ck := fun r => (aVw 0 r)) M.ek_BadEnds M.ob_BadEnds (hr.mono (by decide)) rfl (p1k_cons (p1_vw (pv 0)) p1k_nil))) (pda_cons (p1_e (pd_lamV (k := 11) (M.lam 11) M.TB_law_made_a rfl M.tm_law_made_a M.tu_law_made_a rfl (by rfl) (by rfl))) (pda_cons (p1_e (pd_lst (pda_cons (p1_e (pd_vm (pv 0))) pda_nil))) pda_nil)))))) pda_nil))) (pdss_cons (pds_expr (m_append (pv 3) (pda_cons (p1_e (pd_tup (pda_cons (p1_e (pd_mkO M.ek_BadFloor.c M.ob_BadFloor (hr.mono (by decide)) takes_def rfl (pda_cons (p1_vw (pv 0)) pda_nil))) (pda_cons (p1_e (pd_mkOK (ck := fun r => (aVw 0 r)) M.ek_BadFloor M.ob_BadFloor (hr.mono (by decide)) rfl (p1k_cons (p1_vw (pv 0)) p1k_nil))) (pda_cons (p1_e (pd_lamV (k := 12) (M.lam 12) M.TB_law_made_a rfl M.tm_law_made_a M.tu_law_made_a rfl (by rfl) (by rfl))) (pda_cons (p1_e (pd_lst (pda_cons (p1_e (pd_vm (pv 0))) pda_nil))) pda_nil)))))) pda_nil))) (pdss_cons (pds_expr (m_append (pv 3) (pda_cons (p1_e (pd_tup (pda_cons (p1_e (pd_mkO M.ek_BadForm.c M.ob_BadForm (hr.mono (by decide)) takes_def rfl (pda_cons (p1_vw (pv 0)) pda_nil))) (pda_cons (p1_e (pd_mkOK (ck := fun r => (aVw 0 r)) M.ek_BadForm M.ob_BadForm (hr.mono (by decide)) rfl (p1k_cons (p1_vw (pv 0)) p1k_nil))) (pda_cons (p1_e (pd_lamV (k := 13) (M.lam 13) M.TB_law_made_a rfl M.tm_law_made_a M.tu_law_made_a rfl (by rfl) (by rfl))) (pda_cons (p1_e (pd_lst (pda_cons (p1_e (pd_vm (pv 0))) pda_nil))) pda_nil)))))) pda_nil))) (pdss_cons (pds_expr (m_append (pv 3) (pda_cons (p1_e (pd_tup (pda_cons (p1_e (pd_mkO M.ek_BadGoal.c M.ob_BadGoal (hr.mono (by decide)) takes_def rfl (pda_cons (p1_vw (pv 0)) pda_nil))) (pda_cons (p1_e (pd_mkOK (ck := fun r => (aVw 0 r)) M.ek_BadGoal M.ob_BadGoal (hr.mono (by decide)) rfl (p1k_cons (p1_vw (pv 0)) p1k_nil))) (pda_cons (p1_e (pd_lamV (k := 14) (M.lam 14) M.TB_law_made_a rfl M.tm_law_made_a M.tu_law_made_a rfl (by rfl) (by rfl))) (pda_cons (p1_e (pd_lst (pda_cons (p1_e (pd_vm (pv 0))) pda_nil))) pda_nil)))))) pda_nil))) (pdss_cons (pds_expr (m_append (pv 3) (pda_cons (p1_e (pd_tup (pda_cons (p1_e (pd_mkO M.ek_BadGone.c M.ob_BadGone (hr.mono (by decide)) takes_def rfl (pda_cons (p1_vw (pv 0)) pda_nil))) (pda_cons (p1_e (pd_mkOK (ck := fun r => (aVw 0 r)) M.ek_BadGone M.ob_BadGone (hr.mono (by decide)) rfl (p1k_cons (p1_vw (pv 0)) p1k_nil))) (pda_cons (p1_e (pd_lamV (k := 15) (M.lam 15) M.TB_law_made_a rfl M.tm_law_made_a M.tu_law_made_a rfl (by rfl) (by rfl))) (pda_cons (p1_e (pd_lst (pda_cons (p1_e (pd_vm (pv 0))) pda_nil))) pda_nil)))))) pda_nil))) (pdss_cons (pds_expr (m_append (pv 3) (pda_cons (p1_e (pd_tup (pda_cons (p1_e (pd_mkO M.ek_BadGreat.c M.ob_BadGreat (hr.mono (by decide)) takes_def rfl (pda_cons (p1_vw (pv 0)) pda_nil))) (pda_cons (p1_e (pd_mkOK (ck := fun r => (aVw 0 r)) M.ek_BadGreat M.ob_BadGreat (hr.mono (by decide)) rfl (p1k_cons (p1_vw (pv 0)) p1k_nil))) (pda_cons (p1_e (pd_lamV (k := 16) (M.lam 16) M.TB_law_made_a rfl M.tm_law_made_a M.tu_law_made_a rfl (by rfl) (by rfl))) (pda_cons (p1_e (pd_lst (pda_cons (p1_e (pd_vm (pv 0))) pda_nil))) pda_nil)))))) pda_nil))) (pdss_cons (pds_expr (m_append (pv 3) (pda_cons (p1_e (pd_tup (pda_cons (p1_e (pd_mkO M.ek_BadGround.c M.ob_BadGround (hr.mono (by decide)) takes_def rfl (pda_cons (p1_vw (pv 0)) pda_nil))) (pda_cons (p1_e (pd_mkOK (ck := fun r => (aVw 0 r)) M.ek_BadGround M.ob_BadGround (hr.mono (by decide)) rfl (p1k_cons (p1_vw (pv 0)) p1k_nil))) (pda_cons (p1_e (pd_lamV (k := 17) (M.lam 17) M.TB_law_made_a rfl M.tm_law_made_a M.tu_law_made_a rfl (by rfl) (by rfl))) (pda_cons (p1_e (pd_lst (pda_cons (p1_e (pd_vm (pv 0))) pda_nil))) pda_nil)))))) pda_nil))) (pdss_cons (pds_ret (pd_vm (pv 3))) pdss_nil))))))))))))))))))))
theorem sc_law_made_b : FnScope ["x", "y", "z", "found"] ["x", "y", "z"] (defScope (top 70)) := ⟨rfl, rfl, rfl, by decide +kernel, rfl, by decide +kernel, by decide +kernel⟩
theorem bn_law_made_b {A : Ad} (M : Fx P w K mg base A) : Binds K A.fd_law_made_b ["x", "y", "z"] [] := M.f_law_made_b.binds fun _ _ _ _ _ _ us hl => match us, hl with | [_, _, _], _ => rfl
def D_law_made_b (A : Ad) : DF := fnD 4 3 (fun i => [0, 1, 2].contains i) (sSeq (sSet 3 (eLst aNil)) (sSeq (sDrop (eMut 3 isOl fAppend (aE (eTup (aE (eOp (dMk 18) (aVw 0 aNil)) (aE (eOp (dMk 18) (aVw 0 aNil)) (aE (eC (.fn 18)) (aE (eLst (aE (eVM 0) aNil)) aNil))))) aNil))) (sSeq (sDrop (eMut 3 isOl fAppend (aE (eTup (aE (eOp (dMk 19) (aVw 0 aNil)) (aE (eOp (dMk 19) (aVw 0 aNil)) (aE (eC (.fn 19)) (aE (eLst (aE (eVM 0) aNil)) aNil))))) aNil))) (sSeq (sDrop (eMut 3 isOl fAppend (aE (eTup (aE (eOp (dMk 20) (aVw 0 aNil)) (aE (eOp (dMk 20) (aVw 0 aNil)) (aE (eC (.fn 20)) (aE (eLst (aE (eVM 0) aNil)) aNil))))) aNil))) (sSeq (sDrop (eMut 3 isOl fAppend (aE (eTup (aE (eOp (dMk 21) (aVw 0 aNil)) (aE (eOp (dMk 21) (aVw 0 aNil)) (aE (eC (.fn 21)) (aE (eLst (aE (eVM 0) aNil)) aNil))))) aNil))) (sSeq (sDrop (eMut 3 isOl fAppend (aE (eTup (aE (eOp (dMk 22) (aVw 0 aNil)) (aE (eOp (dMk 22) (aVw 0 aNil)) (aE (eC (.fn 22)) (aE (eLst (aE (eVM 0) aNil)) aNil))))) aNil))) (sSeq (sDrop (eMut 3 isOl fAppend (aE (eTup (aE (eOp (dMk 23) (aVw 0 aNil)) (aE (eOp (dMk 23) (aVw 0 aNil)) (aE (eC (.fn 23)) (aE (eLst (aE (eVM 0) aNil)) aNil))))) aNil))) (sSeq (sDrop (eMut 3 isOl fAppend (aE (eTup (aE (eOp (dMk 24) (aVw 0 aNil)) (aE (eOp (dMk 24) (aVw 0 aNil)) (aE (eC (.fn 24)) (aE (eLst (aE (eVM 0) aNil)) aNil))))) aNil))) (sSeq (sDrop (eMut 3 isOl fAppend (aE (eTup (aE (eOp (dMk 25) (aVw 0 aNil)) (aE (eOp (dMk 25) (aVw 0 aNil)) (aE (eC (.fn 25)) (aE (eLst (aE (eVM 0) aNil)) aNil))))) aNil))) (sSeq (sDrop (eMut 3 isOl fAppend (aE (eTup (aE (eOp (dMk 26) (aVw 0 aNil)) (aE (eOp (dMk 26) (aVw 0 aNil)) (aE (eC (.fn 26)) (aE (eLst (aE (eVM 0) aNil)) aNil))))) aNil))) (sSeq (sDrop (eMut 3 isOl fAppend (aE (eTup (aE (eOp (dMk 27) (aVw 0 aNil)) (aE (eOp (dMk 27) (aVw 0 aNil)) (aE (eC (.fn 27)) (aE (eLst (aE (eVM 0) aNil)) aNil))))) aNil))) (sSeq (sDrop (eMut 3 isOl fAppend (aE (eTup (aE (eOp (dMk 28) (aVw 0 aNil)) (aE (eOp (dMk 28) (aVw 0 aNil)) (aE (eC (.fn 28)) (aE (eLst (aE (eVM 0) aNil)) aNil))))) aNil))) (sSeq (sDrop (eMut 3 isOl fAppend (aE (eTup (aE (eOp (dMk 29) (aVw 0 aNil)) (aE (eOp (dMk 29) (aVw 0 aNil)) (aE (eC (.fn 29)) (aE (eLst (aE (eVM 0) aNil)) aNil))))) aNil))) (sSeq (sDrop (eMut 3 isOl fAppend (aE (eTup (aE (eOp (dMk 30) (aVw 0 aNil)) (aE (eOp (dMk 30) (aVw 0 aNil)) (aE (eC (.fn 30)) (aE (eLst (aE (eVM 0) aNil)) aNil))))) aNil))) (sSeq (sDrop (eMut 3 isOl fAppend (aE (eTup (aE (eOp (dMk 31) (aVw 0 aNil)) (aE (eOp (dMk 31) (aVw 0 aNil)) (aE (eC (.fn 31)) (aE (eLst (aE (eVM 0) aNil)) aNil))))) aNil))) (sSeq (sDrop (eMut 3 isOl fAppend (aE (eTup (aE (eOp (dMk 32) (aVw 0 aNil)) (aE (eOp (dMk 32) (aVw 0 aNil)) (aE (eC (.fn 32)) (aE (eLst (aE (eVM 0) aNil)) aNil))))) aNil))) (sSeq (sDrop (eMut 3 isOl fAppend (aE (eTup (aE (eOp (dMk 33) (aVw 0 aNil)) (aE (eOp (dMk 33) (aVw 0 aNil)) (aE (eC (.fn 33)) (aE (eLst (aE (eVM 0) aNil)) aNil))))) aNil))) (sSeq (sDrop (eMut 3 isOl fAppend (aE (eTup (aE (eOp (dMk 34) (aVw 0 aNil)) (aE (eOp (dMk 34) (aVw 0 aNil)) (aE (eC (.fn 34)) (aE (eLst (aE (eVM 0) aNil)) aNil))))) aNil))) (sSeq (sDrop (eMut 3 isOl fAppend (aE (eTup (aE (eOp (dMk 35) (aVw 0 aNil)) (aE (eOp (dMk 35) (aVw 0 aNil)) (aE (eC (.fn 35)) (aE (eLst (aE (eVM 0) aNil)) aNil))))) aNil))) (sSeq (sRet (eVM 3)) (sNx)))))))))))))))))))))
theorem ok_law_made_b {A : Ad} (M : Fx P w K mg base A) : FnOk P w K mg base (L2.CX P w) 3 A.a_law_made_b A.fd_law_made_b ["x", "y", "z"] (spD P w K mg (D_law_made_b A)) := ok_defC (k := 2) M.cd_law_made_b M.f_law_made_b sc_law_made_b fun A_ outer s H E hr =>
  (pdss_cons (pds_set sc_law_made_b.nd rfl (.inl rfl) (by rfl) (pd_lst pda_nil)) (pdss_cons (pds_expr (m_append (pv 3) (pda_cons (p1_e (pd_tup (pda_cons (p1_e (pd_mkO M.ek_BadHeap.c M.ob_BadHeap (hr.mono (by decide)) takes_def rfl (pda_cons (p1_vw (pv 0)) pda_nil))) (pda_cons (p1_e (pd_mkOK (ck := fun r => (aVw 0 r)) M.ek_BadHeap M.ob_BadHeap (hr.mono (by decide)) rfl (p1k_cons (p1_vw (pv 0)) p1k_nil))) (pda_cons (p1_e (pd_lamV (k := 18) (M.lam 18) M.TB_law_made_b rfl M.tm_law_made_b M.tu_law_made_b rfl (by rfl) (by rfl))) (pda_cons (p1_e (pd_lst (pda_cons (p1_e (pd_vm (pv 0))) pda_nil))) pda_nil)))))) pda_nil))) (pdss_cons (pds_expr (m_append (pv 3) (pda_cons (p1_e (pd_tup (pda_cons (p1_e (pd_mkO M.ek_BadHeights.c M.ob_BadHeights (hr.mono (by decide)) takes_def rfl (pda_cons (p1_vw (pv 0)) pda_nil))) (pda_cons (p1_e (pd_mkOK (ck := fun r => (aVw 0 r)) M.ek_BadHeights M.ob_BadHeights (hr.mono (by decide)) rfl (p1k_cons (p1_vw (pv 0)) p1k_nil))) (pda_cons (p1_e (pd_lamV (k := 19) (M.lam 19) M.TB_law_made_b rfl M.tm_law_made_b M.tu_law_made_b rfl (by rfl) (by rfl))) (pda_cons (p1_e (pd_lst (pda_cons (p1_e (pd_vm (pv 0))) pda_nil))) pda_nil)))))) pda_nil))) (pdss_cons (pds_expr (m_append (pv 3) (pda_cons (p1_e (pd_tup (pda_cons (p1_e (pd_mkO M.ek_BadHigh.c M.ob_BadHigh (hr.mono (by decide)) takes_def rfl (pda_cons (p1_vw (pv 0)) pda_nil))) (pda_cons (p1_e (pd_mkOK (ck := fun r => (aVw 0 r)) M.ek_BadHigh M.ob_BadHigh (hr.mono (by decide)) rfl (p1k_cons (p1_vw (pv 0)) p1k_nil))) (pda_cons (p1_e (pd_lamV (k := 20) (M.lam 20) M.TB_law_made_b rfl M.tm_law_made_b M.tu_law_made_b rfl (by rfl) (by rfl))) (pda_cons (p1_e (pd_lst (pda_cons (p1_e (pd_vm (pv 0))) pda_nil))) pda_nil)))))) pda_nil))) (pdss_cons (pds_expr (m_append (pv 3) (pda_cons (p1_e (pd_tup (pda_cons (p1_e (pd_mkO M.ek_BadKind.c M.ob_BadKind (hr.mono (by decide)) takes_def rfl (pda_cons (p1_vw (pv 0)) pda_nil))) (pda_cons (p1_e (pd_mkOK (ck := fun r => (aVw 0 r)) M.ek_BadKind M.ob_BadKind (hr.mono (by decide)) rfl (p1k_cons (p1_vw (pv 0)) p1k_nil))) (pda_cons (p1_e (pd_lamV (k := 21) (M.lam 21) M.TB_law_made_b rfl M.tm_law_made_b M.tu_law_made_b rfl (by rfl) (by rfl))) (pda_cons (p1_e (pd_lst (pda_cons (p1_e (pd_vm (pv 0))) pda_nil))) pda_nil)))))) pda_nil))) (pdss_cons (pds_expr (m_append (pv 3) (pda_cons (p1_e (pd_tup (pda_cons (p1_e (pd_mkO M.ek_BadLaying.c M.ob_BadLaying (hr.mono (by decide)) takes_def rfl (pda_cons (p1_vw (pv 0)) pda_nil))) (pda_cons (p1_e (pd_mkOK (ck := fun r => (aVw 0 r)) M.ek_BadLaying M.ob_BadLaying (hr.mono (by decide)) rfl (p1k_cons (p1_vw (pv 0)) p1k_nil))) (pda_cons (p1_e (pd_lamV (k := 22) (M.lam 22) M.TB_law_made_b rfl M.tm_law_made_b M.tu_law_made_b rfl (by rfl) (by rfl))) (pda_cons (p1_e (pd_lst (pda_cons (p1_e (pd_vm (pv 0))) pda_nil))) pda_nil)))))) pda_nil))) (pdss_cons (pds_expr (m_append (pv 3) (pda_cons (p1_e (pd_tup (pda_cons (p1_e (pd_mkO M.ek_BadLine.c M.ob_BadLine (hr.mono (by decide)) takes_def rfl (pda_cons (p1_vw (pv 0)) pda_nil))) (pda_cons (p1_e (pd_mkOK (ck := fun r => (aVw 0 r)) M.ek_BadLine M.ob_BadLine (hr.mono (by decide)) rfl (p1k_cons (p1_vw (pv 0)) p1k_nil))) (pda_cons (p1_e (pd_lamV (k := 23) (M.lam 23) M.TB_law_made_b rfl M.tm_law_made_b M.tu_law_made_b rfl (by rfl) (by rfl))) (pda_cons (p1_e (pd_lst (pda_cons (p1_e (pd_vm (pv 0))) pda_nil))) pda_nil)))))) pda_nil))) (pdss_cons (pds_expr (m_append (pv 3) (pda_cons (p1_e (pd_tup (pda_cons (p1_e (pd_mkO M.ek_BadMost.c M.ob_BadMost (hr.mono (by decide)) takes_def rfl (pda_cons (p1_vw (pv 0)) pda_nil))) (pda_cons (p1_e (pd_mkOK (ck := fun r => (aVw 0 r)) M.ek_BadMost M.ob_BadMost (hr.mono (by decide)) rfl (p1k_cons (p1_vw (pv 0)) p1k_nil))) (pda_cons (p1_e (pd_lamV (k := 24) (M.lam 24) M.TB_law_made_b rfl M.tm_law_made_b M.tu_law_made_b rfl (by rfl) (by rfl))) (pda_cons (p1_e (pd_lst (pda_cons (p1_e (pd_vm (pv 0))) pda_nil))) pda_nil)))))) pda_nil))) (pdss_cons (pds_expr (m_append (pv 3) (pda_cons (p1_e (pd_tup (pda_cons (p1_e (pd_mkO M.ek_BadNumber.c M.ob_BadNumber (hr.mono (by decide)) takes_def rfl (pda_cons (p1_vw (pv 0)) pda_nil))) (pda_cons (p1_e (pd_mkOK (ck := fun r => (aVw 0 r)) M.ek_BadNumber M.ob_BadNumber (hr.mono (by decide)) rfl (p1k_cons (p1_vw (pv 0)) p1k_nil))) (pda_cons (p1_e (pd_lamV (k := 25) (M.lam 25) M.TB_law_made_b rfl M.tm_law_made_b M.tu_law_made_b rfl (by rfl) (by rfl))) (pda_cons (p1_e (pd_lst (pda_cons (p1_e (pd_vm (pv 0))) pda_nil))) pda_nil)))))) pda_nil))) (pdss_cons (pds_expr (m_append (pv 3) (pda_cons (p1_e (pd_tup (pda_cons (p1_e (pd_mkO M.ek_BadOne.c M.ob_BadOne (hr.mono (by decide)) takes_def rfl (pda_cons (p1_vw (pv 0)) pda_nil))) (pda_cons (p1_e (pd_mkOK (ck := fun r => (aVw 0 r)) M.ek_BadOne M.ob_BadOne (hr.mono (by decide)) rfl (p1k_cons (p1_vw (pv 0)) p1k_nil))) (pda_cons (p1_e (pd_lamV (k := 26) (M.lam 26) M.TB_law_made_b rfl M.tm_law_made_b M.tu_law_made_b rfl (by rfl) (by rfl))) (pda_cons (p1_e (pd_lst (pda_cons (p1_e (pd_vm (pv 0))) pda_nil))) pda_nil)))))) pda_nil))) (pdss_cons (pds_expr (m_append (pv 3) (pda_cons (p1_e (pd_tup (pda_cons (p1_e (pd_mkO M.ek_BadOrder.c M.ob_BadOrder (hr.mono (by decide)) takes_def rfl (pda_cons (p1_vw (pv 0)) pda_nil))) (pda_cons (p1_e (pd_mkOK (ck := fun r => (aVw 0 r)) M.ek_BadOrder M.ob_BadOrder (hr.mono (by decide)) rfl (p1k_cons (p1_vw (pv 0)) p1k_nil))) (pda_cons (p1_e (pd_lamV (k := 27) (M.lam 27) M.TB_law_made_b rfl M.tm_law_made_b M.tu_law_made_b rfl (by rfl) (by rfl))) (pda_cons (p1_e (pd_lst (pda_cons (p1_e (pd_vm (pv 0))) pda_nil))) pda_nil)))))) pda_nil))) (pdss_cons (pds_expr (m_append (pv 3) (pda_cons (p1_e (pd_tup (pda_cons (p1_e (pd_mkO M.ek_BadOther.c M.ob_BadOther (hr.mono (by decide)) takes_def rfl (pda_cons (p1_vw (pv 0)) pda_nil))) (pda_cons (p1_e (pd_mkOK (ck := fun r => (aVw 0 r)) M.ek_BadOther M.ob_BadOther (hr.mono (by decide)) rfl (p1k_cons (p1_vw (pv 0)) p1k_nil))) (pda_cons (p1_e (pd_lamV (k := 28) (M.lam 28) M.TB_law_made_b rfl M.tm_law_made_b M.tu_law_made_b rfl (by rfl) (by rfl))) (pda_cons (p1_e (pd_lst (pda_cons (p1_e (pd_vm (pv 0))) pda_nil))) pda_nil)))))) pda_nil))) (pdss_cons (pds_expr (m_append (pv 3) (pda_cons (p1_e (pd_tup (pda_cons (p1_e (pd_mkO M.ek_BadOut.c M.ob_BadOut (hr.mono (by decide)) takes_def rfl (pda_cons (p1_vw (pv 0)) pda_nil))) (pda_cons (p1_e (pd_mkOK (ck := fun r => (aVw 0 r)) M.ek_BadOut M.ob_BadOut (hr.mono (by decide)) rfl (p1k_cons (p1_vw (pv 0)) p1k_nil))) (pda_cons (p1_e (pd_lamV (k := 29) (M.lam 29) M.TB_law_made_b rfl M.tm_law_made_b M.tu_law_made_b rfl (by rfl) (by rfl))) (pda_cons (p1_e (pd_lst (pda_cons (p1_e (pd_vm (pv 0))) pda_nil))) pda_nil)))))) pda_nil))) (pdss_cons (pds_expr (m_append (pv 3) (pda_cons (p1_e (pd_tup (pda_cons (p1_e (pd_mkO M.ek_BadPath.c M.ob_BadPath (hr.mono (by decide)) takes_def rfl (pda_cons (p1_vw (pv 0)) pda_nil))) (pda_cons (p1_e (pd_mkOK (ck := fun r => (aVw 0 r)) M.ek_BadPath M.ob_BadPath (hr.mono (by decide)) rfl (p1k_cons (p1_vw (pv 0)) p1k_nil))) (pda_cons (p1_e (pd_lamV (k := 30) (M.lam 30) M.TB_law_made_b rfl M.tm_law_made_b M.tu_law_made_b rfl (by rfl) (by rfl))) (pda_cons (p1_e (pd_lst (pda_cons (p1_e (pd_vm (pv 0))) pda_nil))) pda_nil)))))) pda_nil))) (pdss_cons (pds_expr (m_append (pv 3) (pda_cons (p1_e (pd_tup (pda_cons (p1_e (pd_mkO M.ek_BadPoint.c M.ob_BadPoint (hr.mono (by decide)) takes_def rfl (pda_cons (p1_vw (pv 0)) pda_nil))) (pda_cons (p1_e (pd_mkOK (ck := fun r => (aVw 0 r)) M.ek_BadPoint M.ob_BadPoint (hr.mono (by decide)) rfl (p1k_cons (p1_vw (pv 0)) p1k_nil))) (pda_cons (p1_e (pd_lamV (k := 31) (M.lam 31) M.TB_law_made_b rfl M.tm_law_made_b M.tu_law_made_b rfl (by rfl) (by rfl))) (pda_cons (p1_e (pd_lst (pda_cons (p1_e (pd_vm (pv 0))) pda_nil))) pda_nil)))))) pda_nil))) (pdss_cons (pds_expr (m_append (pv 3) (pda_cons (p1_e (pd_tup (pda_cons (p1_e (pd_mkO M.ek_BadPoints.c M.ob_BadPoints (hr.mono (by decide)) takes_def rfl (pda_cons (p1_vw (pv 0)) pda_nil))) (pda_cons (p1_e (pd_mkOK (ck := fun r => (aVw 0 r)) M.ek_BadPoints M.ob_BadPoints (hr.mono (by decide)) rfl (p1k_cons (p1_vw (pv 0)) p1k_nil))) (pda_cons (p1_e (pd_lamV (k := 32) (M.lam 32) M.TB_law_made_b rfl M.tm_law_made_b M.tu_law_made_b rfl (by rfl) (by rfl))) (pda_cons (p1_e (pd_lst (pda_cons (p1_e (pd_vm (pv 0))) pda_nil))) pda_nil)))))) pda_nil))) (pdss_cons (pds_expr (m_append (pv 3) (pda_cons (p1_e (pd_tup (pda_cons (p1_e (pd_mkO M.ek_BadPrices.c M.ob_BadPrices (hr.mono (by decide)) takes_def rfl (pda_cons (p1_vw (pv 0)) pda_nil))) (pda_cons (p1_e (pd_mkOK (ck := fun r => (aVw 0 r)) M.ek_BadPrices M.ob_BadPrices (hr.mono (by decide)) rfl (p1k_cons (p1_vw (pv 0)) p1k_nil))) (pda_cons (p1_e (pd_lamV (k := 33) (M.lam 33) M.TB_law_made_b rfl M.tm_law_made_b M.tu_law_made_b rfl (by rfl) (by rfl))) (pda_cons (p1_e (pd_lst (pda_cons (p1_e (pd_vm (pv 0))) pda_nil))) pda_nil)))))) pda_nil))) (pdss_cons (pds_expr (m_append (pv 3) (pda_cons (p1_e (pd_tup (pda_cons (p1_e (pd_mkO M.ek_BadQuestion.c M.ob_BadQuestion (hr.mono (by decide)) takes_def rfl (pda_cons (p1_vw (pv 0)) pda_nil))) (pda_cons (p1_e (pd_mkOK (ck := fun r => (aVw 0 r)) M.ek_BadQuestion M.ob_BadQuestion (hr.mono (by decide)) rfl (p1k_cons (p1_vw (pv 0)) p1k_nil))) (pda_cons (p1_e (pd_lamV (k := 34) (M.lam 34) M.TB_law_made_b rfl M.tm_law_made_b M.tu_law_made_b rfl (by rfl) (by rfl))) (pda_cons (p1_e (pd_lst (pda_cons (p1_e (pd_vm (pv 0))) pda_nil))) pda_nil)))))) pda_nil))) (pdss_cons (pds_expr (m_append (pv 3) (pda_cons (p1_e (pd_tup (pda_cons (p1_e (pd_mkO M.ek_BadRing.c M.ob_BadRing (hr.mono (by decide)) takes_def rfl (pda_cons (p1_vw (pv 0)) pda_nil))) (pda_cons (p1_e (pd_mkOK (ck := fun r => (aVw 0 r)) M.ek_BadRing M.ob_BadRing (hr.mono (by decide)) rfl (p1k_cons (p1_vw (pv 0)) p1k_nil))) (pda_cons (p1_e (pd_lamV (k := 35) (M.lam 35) M.TB_law_made_b rfl M.tm_law_made_b M.tu_law_made_b rfl (by rfl) (by rfl))) (pda_cons (p1_e (pd_lst (pda_cons (p1_e (pd_vm (pv 0))) pda_nil))) pda_nil)))))) pda_nil))) (pdss_cons (pds_ret (pd_vm (pv 3))) pdss_nil))))))))))))))))))))
end
end K00
set_option Elab.async false
set_option linter.all false
set_option maxRecDepth 100000
set_option maxHeartbeats 4000000
namespace K00
open PySem PySem.Spec PyProof.Rows L2 LamX B
noncomputable section
variable [TabT]
variable {P : Program} {w : World} {K : PySem.W.Frag} {mg : Str → Option Value} {base : Heap}
theorem sc_law_made_c : FnScope ["x", "y", "z", "found"] ["x", "y", "z"] (defScope (top 71)) := ⟨rfl, rfl, rfl, by decide +kernel, rfl, by decide +kernel, by decide +kernel⟩
theorem bn_law_made_c {A : Ad} (M : Fx P w K mg base A) : Binds K A.fd_law_made_c ["x", "y", "z"] [] := M.f_law_made_c.binds fun _ _ _ _ _ _ us hl => match us, hl with | [_, _, _], _ => rfl
def D_law_made_c (A : Ad) : DF := fnD 4 3 (fun i => [0, 1, 2].contains i) (sSeq (sSet 3 (eLst aNil)) (sSeq (sDrop (eMut 3 isOl fAppend (aE (eTup (aE (eOp (dMk 36) (aVw 0 aNil)) (aE (eOp (dMk 36) (aVw 0 aNil)) (aE (eC (.fn 36)) (aE (eLst (aE (eVM 0) aNil)) aNil))))) aNil))) (sSeq (sDrop (eMut 3 isOl fAppend (aE (eTup (aE (eOp (dMk 37) (aVw 0 aNil)) (aE (eOp (dMk 37) (aVw 0 aNil)) (aE (eC (.fn 37)) (aE (eLst (aE (eVM 0) aNil)) aNil))))) aNil))) (sSeq (sDrop (eMut 3 isOl fAppend (aE (eTup (aE (eOp (dMk 38) (aVw 0 aNil)) (aE (eOp (dMk 38) (aVw 0 aNil)) (aE (eC (.fn 38)) (aE (eLst (aE (eVM 0) aNil)) aNil))))) aNil))) (sSeq (sDrop (eMut 3 isOl fAppend (aE (eTup (aE (eOp (dMk2 39) (aVw 0 (aVw 1 aNil))) (aE (eOp (dMk2K 39) (aVw 1 (aVw 0 aNil))) (aE (eC (.fn 39)) (aE (eLst (aE (eVM 0) (aE (eVM 1) aNil))) aNil))))) aNil))) (sSeq (sDrop (eMut 3 isOl fAppend (aE (eTup (aE (eOp (dMk 40) (aVw 0 aNil)) (aE (eOp (dMk 40) (aVw 0 aNil)) (aE (eC (.fn 40)) (aE (eLst (aE (eVM 0) aNil)) aNil))))) aNil))) (sSeq (sDrop (eMut 3 isOl fAppend (aE (eTup (aE (eOp (dMk 41) (aVw 0 aNil)) (aE (eOp (dMk 41) (aVw 0 aNil)) (aE (eC (.fn 41)) (aE (eLst (aE (eVM 0) aNil)) aNil))))) aNil))) (sSeq (sDrop (eMut 3 isOl fAppend (aE (eTup (aE (eOp (dMk 42) (aVw 0 aNil)) (aE (eOp (dMk 42) (aVw 0 aNil)) (aE (eC (.fn 42)) (aE (eLst (aE (eVM 0) aNil)) aNil))))) aNil))) (sSeq (sDrop (eMut 3 isOl fAppend (aE (eTup (aE (eOp (dMk 43) (aVw 0 aNil)) (aE (eOp (dMk 43) (aVw 0 aNil)) (aE (eC (.fn 43)) (aE (eLst (aE (eVM 0) aNil)) aNil))))) aNil))) (sSeq (sDrop (eMut 3 isOl fAppend (aE (eTup (aE (eOp (dMk 44) (aVw 0 aNil)) (aE (eOp (dMk 44) (aVw 0 aNil)) (aE (eC (.fn 44)) (aE (eLst (aE (eVM 0) aNil)) aNil))))) aNil))) (sSeq (sDrop (eMut 3 isOl fAppend (aE (eTup (aE (eOp (dMk 45) (aVw 0 aNil)) (aE (eOp (dMk 45) (aVw 0 aNil)) (aE (eC (.fn 45)) (aE (eLst (aE (eVM 0) aNil)) aNil))))) aNil))) (sSeq (sDrop (eMut 3 isOl fAppend (aE (eTup (aE (eOp (dMk 46) (aVw 0 aNil)) (aE (eOp (dMk 46) (aVw 0 aNil)) (aE (eC (.fn 46)) (aE (eLst (aE (eVM 0) aNil)) aNil))))) aNil))) (sSeq (sDrop (eMut 3 isOl fAppend (aE (eTup (aE (eOp (dMk 47) (aVw 0 aNil)) (aE (eOp (dMk 47) (aVw 0 aNil)) (aE (eC (.fn 47)) (aE (eLst (aE (eVM 0) aNil)) aNil))))) aNil))) (sSeq (sDrop (eMut 3 isOl fAppend (aE (eTup (aE (eOp (dMk 48) (aVw 0 aNil)) (aE (eOp (dMk 48) (aVw 0 aNil)) (aE (eC (.fn 48)) (aE (eLst (aE (eVM 0) aNil)) aNil))))) aNil))) (sSeq (sDrop (eMut 3 isOl fAppend (aE (eTup (aE (eOp (dMk 49) (aVw 0 aNil)) (aE (eOp (dMk 49) (aVw 0 aNil)) (aE (eC (.fn 49)) (aE (eLst (aE (eVM 0) aNil)) aNil))))) aNil))) (sSeq (sDrop (eMut 3 isOl fAppend (aE (eTup (aE (eOp (dMk 50) (aVw 0 aNil)) (aE (eOp (dMk 50) (aVw 0 aNil)) (aE (eC (.fn 50)) (aE (eLst (aE (eVM 0) aNil)) aNil))))) aNil))) (sSeq (sDrop (eMut 3 isOl fAppend (aE (eTup (aE (eOp (dMk 51) (aVw 0 aNil)) (aE (eOp (dMk 51) (aVw 0 aNil)) (aE (eC (.fn 51)) (aE (eLst (aE (eVM 0) aNil)) aNil))))) aNil))) (sSeq (sDrop (eMut 3 isOl fAppend (aE (eTup (aE (eOp (dMk 52) (aVw 0 aNil)) (aE (eOp (dMk 52) (aVw 0 aNil)) (aE (eC (.fn 52)) (aE (eLst (aE (eVM 0) aNil)) aNil))))) aNil))) (sSeq (sDrop (eMut 3 isOl fAppend (aE (eTup (aE (eOp (dMk 53) (aVw 0 aNil)) (aE (eOp (dMk 53) (aVw 0 aNil)) (aE (eC (.fn 53)) (aE (eLst (aE (eVM 0) aNil)) aNil))))) aNil))) (sSeq (sRet (eVM 3)) (sNx)))))))))))))))))))))
theorem ok_law_made_c {A : Ad} (M : Fx P w K mg base A) : FnOk P w K mg base (L2.CX P w) 3 A.a_law_made_c A.fd_law_made_c ["x", "y", "z"] (spD P w K mg (D_law_made_c A)) := ok_defC (k := 2) M.cd_law_made_c M.f_law_made_c sc_law_made_c fun A_ outer s H E hr =>
  (pdss_cons (pds_set sc_law_made_c.nd rfl (.inl rfl) (by rfl) (pd_lst pda_nil)) (pdss_cons (pds_expr (m_append (pv 3) (pda_cons (p1_e (pd_tup (pda_cons (p1_e (pd_mkO M.ek_BadRoom.c M.ob_BadRoom (hr.mono (by decide)) takes_def rfl (pda_cons (p1_vw (pv 0)) pda_nil))) (pda_cons (p1_e (pd_mkOK (ck := fun r => (aVw 0 r)) M.ek_BadRoom M.ob_BadRoom (hr.mono (by decide)) rfl (p1k_cons (p1_vw (pv 0)) p1k_nil))) (pda_cons (p1_e (pd_lamV (k := 36) (M.lam 36) M.TB_law_made_c rfl M.tm_law_made_c M.tu_law_made_c rfl (by rfl) (by rfl))) (pda_cons (p1_e (pd_lst (pda_cons (p1_e (pd_vm (pv 0))) pda_nil))) pda_nil)))))) pda_nil))) (pdss_cons (pds_expr (m_append (pv 3) (pda_cons (p1_e (pd_tup (pda_cons (p1_e (pd_mkO M.ek_BadRoutes.c M.ob_BadRoutes (hr.mono (by decide)) takes_def rfl (pda_cons (p1_vw (pv 0)) pda_nil))) (pda_cons (p1_e (pd_mkOK (ck := fun r => (aVw 0 r)) M.ek_BadRoutes M.ob_BadRoutes (hr.mono (by decide)) rfl (p1k_cons (p1_vw (pv 0)) p1k_nil))) (pda_cons (p1_e (pd_lamV (k := 37) (M.lam 37) M.TB_law_made_c rfl M.tm_law_made_c M.tu_law_made_c rfl (by rfl) (by rfl))) (pda_cons (p1_e (pd_lst (pda_cons (p1_e (pd_vm (pv 0))) pda_nil))) pda_nil)))))) pda_nil))) (pdss_cons (pds_expr (m_append (pv 3) (pda_cons (p1_e (pd_tup (pda_cons (p1_e (pd_mkO M.ek_BadTable.c M.ob_BadTable (hr.mono (by decide)) takes_def rfl (pda_cons (p1_vw (pv 0)) pda_nil))) (pda_cons (p1_e (pd_mkOK (ck := fun r => (aVw 0 r)) M.ek_BadTable M.ob_BadTable (hr.mono (by decide)) rfl (p1k_cons (p1_vw (pv 0)) p1k_nil))) (pda_cons (p1_e (pd_lamV (k := 38) (M.lam 38) M.TB_law_made_c rfl M.tm_law_made_c M.tu_law_made_c rfl (by rfl) (by rfl))) (pda_cons (p1_e (pd_lst (pda_cons (p1_e (pd_vm (pv 0))) pda_nil))) pda_nil)))))) pda_nil))) (pdss_cons (pds_expr (m_append (pv 3) (pda_cons (p1_e (pd_tup (pda_cons (p1_e (pd_mk2 M.ek_BadText M.ob_BadText (hr.mono (by decide)) rfl (pda_cons (p1_vw (pv 0)) (pda_cons (p1_vw (pv 1)) pda_nil)))) (pda_cons (p1_e (pd_mk2K (ck := fun r => (aVw 1 (aVw 0 r))) M.ek_BadText M.ob_BadText (hr.mono (by decide)) rfl (p1k_cons (p1_vw (pv 1)) (p1k_cons (p1_vw (pv 0)) p1k_nil)))) (pda_cons (p1_e (pd_lamV (k := 39) (M.lam 39) M.TB_law_made_c rfl M.tm_law_made_c M.tu_law_made_c rfl (by rfl) (by rfl))) (pda_cons (p1_e (pd_lst (pda_cons (p1_e (pd_vm (pv 0))) (pda_cons (p1_e (pd_vm (pv 1))) pda_nil)))) pda_nil)))))) pda_nil))) (pdss_cons (pds_expr (m_append (pv 3) (pda_cons (p1_e (pd_tup (pda_cons (p1_e (pd_mkO M.ek_BadTie.c M.ob_BadTie (hr.mono (by decide)) takes_def rfl (pda_cons (p1_vw (pv 0)) pda_nil))) (pda_cons (p1_e (pd_mkOK (ck := fun r => (aVw 0 r)) M.ek_BadTie M.ob_BadTie (hr.mono (by decide)) rfl (p1k_cons (p1_vw (pv 0)) p1k_nil))) (pda_cons (p1_e (pd_lamV (k := 40) (M.lam 40) M.TB_law_made_c rfl M.tm_law_made_c M.tu_law_made_c rfl (by rfl) (by rfl))) (pda_cons (p1_e (pd_lst (pda_cons (p1_e (pd_vm (pv 0))) pda_nil))) pda_nil)))))) pda_nil))) (pdss_cons (pds_expr (m_append (pv 3) (pda_cons (p1_e (pd_tup (pda_cons (p1_e (pd_mkO M.ek_BadTies.c M.ob_BadTies (hr.mono (by decide)) takes_def rfl (pda_cons (p1_vw (pv 0)) pda_nil))) (pda_cons (p1_e (pd_mkOK (ck := fun r => (aVw 0 r)) M.ek_BadTies M.ob_BadTies (hr.mono (by decide)) rfl (p1k_cons (p1_vw (pv 0)) p1k_nil))) (pda_cons (p1_e (pd_lamV (k := 41) (M.lam 41) M.TB_law_made_c rfl M.tm_law_made_c M.tu_law_made_c rfl (by rfl) (by rfl))) (pda_cons (p1_e (pd_lst (pda_cons (p1_e (pd_vm (pv 0))) pda_nil))) pda_nil)))))) pda_nil))) (pdss_cons (pds_expr (m_append (pv 3) (pda_cons (p1_e (pd_tup (pda_cons (p1_e (pd_mkO M.ek_BadTold.c M.ob_BadTold (hr.mono (by decide)) takes_def rfl (pda_cons (p1_vw (pv 0)) pda_nil))) (pda_cons (p1_e (pd_mkOK (ck := fun r => (aVw 0 r)) M.ek_BadTold M.ob_BadTold (hr.mono (by decide)) rfl (p1k_cons (p1_vw (pv 0)) p1k_nil))) (pda_cons (p1_e (pd_lamV (k := 42) (M.lam 42) M.TB_law_made_c rfl M.tm_law_made_c M.tu_law_made_c rfl (by rfl) (by rfl))) (pda_cons (p1_e (pd_lst (pda_cons (p1_e (pd_vm (pv 0))) pda_nil))) pda_nil)))))) pda_nil))) (pdss_cons (pds_expr (m_append (pv 3) (pda_cons (p1_e (pd_tup (pda_cons (p1_e (pd_mkO M.ek_BadTree.c M.ob_BadTree (hr.mono (by decide)) takes_def rfl (pda_cons (p1_vw (pv 0)) pda_nil))) (pda_cons (p1_e (pd_mkOK (ck := fun r => (aVw 0 r)) M.ek_BadTree M.ob_BadTree (hr.mono (by decide)) rfl (p1k_cons (p1_vw (pv 0)) p1k_nil))) (pda_cons (p1_e (pd_lamV (k := 43) (M.lam 43) M.TB_law_made_c rfl M.tm_law_made_c M.tu_law_made_c rfl (by rfl) (by rfl))) (pda_cons (p1_e (pd_lst (pda_cons (p1_e (pd_vm (pv 0))) pda_nil))) pda_nil)))))) pda_nil))) (pdss_cons (pds_expr (m_append (pv 3) (pda_cons (p1_e (pd_tup (pda_cons (p1_e (pd_mkO M.ek_BadTriangle.c M.ob_BadTriangle (hr.mono (by decide)) takes_def rfl (pda_cons (p1_vw (pv 0)) pda_nil))) (pda_cons (p1_e (pd_mkOK (ck := fun r => (aVw 0 r)) M.ek_BadTriangle M.ob_BadTriangle (hr.mono (by decide)) rfl (p1k_cons (p1_vw (pv 0)) p1k_nil))) (pda_cons (p1_e (pd_lamV (k := 44) (M.lam 44) M.TB_law_made_c rfl M.tm_law_made_c M.tu_law_made_c rfl (by rfl) (by rfl))) (pda_cons (p1_e (pd_lst (pda_cons (p1_e (pd_vm (pv 0))) pda_nil))) pda_nil)))))) pda_nil))) (pdss_cons (pds_expr (m_append (pv 3) (pda_cons (p1_e (pd_tup (pda_cons (p1_e (pd_mkO M.ek_BadTurn.c M.ob_BadTurn (hr.mono (by decide)) takes_def rfl (pda_cons (p1_vw (pv 0)) pda_nil))) (pda_cons (p1_e (pd_mkOK (ck := fun r => (aVw 0 r)) M.ek_BadTurn M.ob_BadTurn (hr.mono (by decide)) rfl (p1k_cons (p1_vw (pv 0)) p1k_nil))) (pda_cons (p1_e (pd_lamV (k := 45) (M.lam 45) M.TB_law_made_c rfl M.tm_law_made_c M.tu_law_made_c rfl (by rfl) (by rfl))) (pda_cons (p1_e (pd_lst (pda_cons (p1_e (pd_vm (pv 0))) pda_nil))) pda_nil)))))) pda_nil))) (pdss_cons (pds_expr (m_append (pv 3) (pda_cons (p1_e (pd_tup (pda_cons (p1_e (pd_mkO M.ek_BadTurns.c M.ob_BadTurns (hr.mono (by decide)) takes_def rfl (pda_cons (p1_vw (pv 0)) pda_nil))) (pda_cons (p1_e (pd_mkOK (ck := fun r => (aVw 0 r)) M.ek_BadTurns M.ob_BadTurns (hr.mono (by decide)) rfl (p1k_cons (p1_vw (pv 0)) p1k_nil))) (pda_cons (p1_e (pd_lamV (k := 46) (M.lam 46) M.TB_law_made_c rfl M.tm_law_made_c M.tu_law_made_c rfl (by rfl) (by rfl))) (pda_cons (p1_e (pd_lst (pda_cons (p1_e (pd_vm (pv 0))) pda_nil))) pda_nil)))))) pda_nil))) (pdss_cons (pds_expr (m_append (pv 3) (pda_cons (p1_e (pd_tup (pda_cons (p1_e (pd_mkO M.ek_BadWalk.c M.ob_BadWalk (hr.mono (by decide)) takes_def rfl (pda_cons (p1_vw (pv 0)) pda_nil))) (pda_cons (p1_e (pd_mkOK (ck := fun r => (aVw 0 r)) M.ek_BadWalk M.ob_BadWalk (hr.mono (by decide)) rfl (p1k_cons (p1_vw (pv 0)) p1k_nil))) (pda_cons (p1_e (pd_lamV (k := 47) (M.lam 47) M.TB_law_made_c rfl M.tm_law_made_c M.tu_law_made_c rfl (by rfl) (by rfl))) (pda_cons (p1_e (pd_lst (pda_cons (p1_e (pd_vm (pv 0))) pda_nil))) pda_nil)))))) pda_nil))) (pdss_cons (pds_expr (m_append (pv 3) (pda_cons (p1_e (pd_tup (pda_cons (p1_e (pd_mkO M.ek_BadWay.c M.ob_BadWay (hr.mono (by decide)) takes_def rfl (pda_cons (p1_vw (pv 0)) pda_nil))) (pda_cons (p1_e (pd_mkOK (ck := fun r => (aVw 0 r)) M.ek_BadWay M.ob_BadWay (hr.mono (by decide)) rfl (p1k_cons (p1_vw (pv 0)) p1k_nil))) (pda_cons (p1_e (pd_lamV (k := 48) (M.lam 48) M.TB_law_made_c rfl M.tm_law_made_c M.tu_law_made_c rfl (by rfl) (by rfl))) (pda_cons (p1_e (pd_lst (pda_cons (p1_e (pd_vm (pv 0))) pda_nil))) pda_nil)))))) pda_nil))) (pdss_cons (pds_expr (m_append (pv 3) (pda_cons (p1_e (pd_tup (pda_cons (p1_e (pd_mkO M.ek_BadWide.c M.ob_BadWide (hr.mono (by decide)) takes_def rfl (pda_cons (p1_vw (pv 0)) pda_nil))) (pda_cons (p1_e (pd_mkOK (ck := fun r => (aVw 0 r)) M.ek_BadWide M.ob_BadWide (hr.mono (by decide)) rfl (p1k_cons (p1_vw (pv 0)) p1k_nil))) (pda_cons (p1_e (pd_lamV (k := 49) (M.lam 49) M.TB_law_made_c rfl M.tm_law_made_c M.tu_law_made_c rfl (by rfl) (by rfl))) (pda_cons (p1_e (pd_lst (pda_cons (p1_e (pd_vm (pv 0))) pda_nil))) pda_nil)))))) pda_nil))) (pdss_cons (pds_expr (m_append (pv 3) (pda_cons (p1_e (pd_tup (pda_cons (p1_e (pd_mkO M.ek_CommonCell.c M.ob_CommonCell (hr.mono (by decide)) takes_def rfl (pda_cons (p1_vw (pv 0)) pda_nil))) (pda_cons (p1_e (pd_mkOK (ck := fun r => (aVw 0 r)) M.ek_CommonCell M.ob_CommonCell (hr.mono (by decide)) rfl (p1k_cons (p1_vw (pv 0)) p1k_nil))) (pda_cons (p1_e (pd_lamV (k := 50) (M.lam 50) M.TB_law_made_c rfl M.tm_law_made_c M.tu_law_made_c rfl (by rfl) (by rfl))) (pda_cons (p1_e (pd_lst (pda_cons (p1_e (pd_vm (pv 0))) pda_nil))) pda_nil)))))) pda_nil))) (pdss_cons (pds_expr (m_append (pv 3) (pda_cons (p1_e (pd_tup (pda_cons (p1_e (pd_mkO M.ek_InUse.c M.ob_InUse (hr.mono (by decide)) takes_def rfl (pda_cons (p1_vw (pv 0)) pda_nil))) (pda_cons (p1_e (pd_mkOK (ck := fun r => (aVw 0 r)) M.ek_InUse M.ob_InUse (hr.mono (by decide)) rfl (p1k_cons (p1_vw (pv 0)) p1k_nil))) (pda_cons (p1_e (pd_lamV (k := 51) (M.lam 51) M.TB_law_made_c rfl M.tm_law_made_c M.tu_law_made_c rfl (by rfl) (by rfl))) (pda_cons (p1_e (pd_lst (pda_cons (p1_e (pd_vm (pv 0))) pda_nil))) pda_nil)))))) pda_nil))) (pdss_cons (pds_expr (m_append (pv 3) (pda_cons (p1_e (pd_tup (pda_cons (p1_e (pd_mkO M.ek_IsWatched.c M.ob_IsWatched (hr.mono (by decide)) takes_def rfl (pda_cons (p1_vw (pv 0)) pda_nil))) (pda_cons (p1_e (pd_mkOK (ck := fun r => (aVw 0 r)) M.ek_IsWatched M.ob_IsWatched (hr.mono (by decide)) rfl (p1k_cons (p1_vw (pv 0)) p1k_nil))) (pda_cons (p1_e (pd_lamV (k := 52) (M.lam 52) M.TB_law_made_c rfl M.tm_law_made_c M.tu_law_made_c rfl (by rfl) (by rfl))) (pda_cons (p1_e (pd_lst (pda_cons (p1_e (pd_vm (pv 0))) pda_nil))) pda_nil)))))) pda_nil))) (pdss_cons (pds_expr (m_append (pv 3) (pda_cons (p1_e (pd_tup (pda_cons (p1_e (pd_mkO M.ek_NoCount.c M.ob_NoCount (hr.mono (by decide)) takes_def rfl (pda_cons (p1_vw (pv 0)) pda_nil))) (pda_cons (p1_e (pd_mkOK (ck := fun r => (aVw 0 r)) M.ek_NoCount M.ob_NoCount (hr.mono (by decide)) rfl (p1k_cons (p1_vw (pv 0)) p1k_nil))) (pda_cons (p1_e (pd_lamV (k := 53) (M.lam 53) M.TB_law_made_c rfl M.tm_law_made_c M.tu_law_made_c rfl (by rfl) (by rfl))) (pda_cons (p1_e (pd_lst (pda_cons (p1_e (pd_vm (pv 0))) pda_nil))) pda_nil)))))) pda_nil))) (pdss_cons (pds_ret (pd_vm (pv 3))) pdss_nil))))))))))))))))))))
theorem sc_law_made_d : FnScope ["x", "y", "z", "found"] ["x", "y", "z"] (defScope (top 72)) := ⟨rfl, rfl, rfl, by decide +kernel, rfl, by decide +kernel, by decide +kernel⟩
theorem bn_law_made_d {A : Ad} (M : Fx P w K mg base A) : Binds K A.fd_law_made_d ["x", "y", "z"] [] := M.f_law_made_d.binds fun _ _ _ _ _ _ us hl => match us, hl with | [_, _, _], _ => rfl
def D_law_made_d (A : Ad) : DF := fnD 4 3 (fun i => [0, 1, 2].contains i) (sSeq (sSet 3 (eLst aNil)) (sSeq (sDrop (eMut 3 isOl fAppend (aE (eTup (aE (eOp (dMk0 54) aNil) (aE (eOp (dMk0 54) aNil) (aE (eC (.fn 54)) (aE (eLst aNil) aNil))))) aNil))) (sSeq (sDrop (eMut 3 isOl fAppend (aE (eTup (aE (eOp (dMk0 55) aNil) (aE (eOp (dMk0 55) aNil) (aE (eC (.fn 55)) (aE (eLst aNil) aNil))))) aNil))) (sSeq (sDrop (eMut 3 isOl fAppend (aE (eTup (aE (eOp (dMk0 56) aNil) (aE (eOp (dMk0 56) aNil) (aE (eC (.fn 56)) (aE (eLst aNil) aNil))))) aNil))) (sSeq (sDrop (eMut 3 isOl fAppend (aE (eTup (aE (eOp (dMk2 57) (aVw 0 (aVw 1 aNil))) (aE (eOp (dMk2K 57) (aVw 1 (aVw 0 aNil))) (aE (eC (.fn 57)) (aE (eLst (aE (eVM 0) (aE (eVM 1) aNil))) aNil))))) aNil))) (sSeq (sDrop (eMut 3 isOl fAppend (aE (eTup (aE (eOp (dMk0 58) aNil) (aE (eOp (dMk0 58) aNil) (aE (eC (.fn 58)) (aE (eLst aNil) aNil))))) aNil))) (sSeq (sDrop (eMut 3 isOl fAppend (aE (eTup (aE (eOp (dMk 59) (aVw 0 aNil)) (aE (eOp (dMk 59) (aVw 0 aNil)) (aE (eC (.fn 59)) (aE (eLst (aE (eVM 0) aNil)) aNil))))) aNil))) (sSeq (sDrop (eMut 3 isOl fAppend (aE (eTup (aE (eOp (dMk0 60) aNil) (aE (eOp (dMk0 60) aNil) (aE (eC (.fn 60)) (aE (eLst aNil) aNil))))) aNil))) (sSeq (sDrop (eMut 3 isOl fAppend (aE (eTup (aE (eOp (dMk 61) (aVw 0 aNil)) (aE (eOp (dMk 61) (aVw 0 aNil)) (aE (eC (.fn 61)) (aE (eLst (aE (eVM 0) aNil)) aNil))))) aNil))) (sSeq (sDrop (eMut 3 isOl fAppend (aE (eTup (aE (eOp (dMk 62) (aVw 0 aNil)) (aE (eOp (dMk 62) (aVw 0 aNil)) (aE (eC (.fn 62)) (aE (eLst (aE (eVM 0) aNil)) aNil))))) aNil))) (sSeq (sRet (eVM 3)) (sNx))))))))))))
theorem ok_law_made_d {A : Ad} (M : Fx P w K mg base A) : FnOk P w K mg base (L2.CX P w) 3 A.a_law_made_d A.fd_law_made_d ["x", "y", "z"] (spD P w K mg (D_law_made_d A)) := ok_defC (k := 2) M.cd_law_made_d M.f_law_made_d sc_law_made_d fun A_ outer s H E hr =>
  (pdss_cons (pds_set sc_law_made_d.nd rfl (.inl rfl) (by rfl) (pd_lst pda_nil)) (pdss_cons (pds_expr (m_append (pv 3) (pda_cons (p1_e (pd_tup (pda_cons (p1_e (pd_mk0 PySem.F.excBase_ValueError M.ez_NoFlip.q M.ob_NoFlip M.ez_NoFlip.gC M.ez_NoFlip.kC rfl)) (pda_cons (p1_e (pd_mk0 PySem.F.excBase_ValueError M.ez_NoFlip.q M.ob_NoFlip M.ez_NoFlip.gC M.ez_NoFlip.kC rfl)) (pda_cons (p1_e (pd_lamV (k := 54) (M.lam 54) M.TB_law_made_d rfl M.tm_law_made_d M.tu_law_made_d rfl (by rfl) (by rfl))) (pda_cons (p1_e (pd_lst pda_nil)) pda_nil)))))) pda_nil))) (pdss_cons (pds_expr (m_append (pv 3) (pda_cons (p1_e (pd_tup (pda_cons (p1_e (pd_mk0 PySem.F.excBase_ValueError M.ez_NoLaying.q M.ob_NoLaying M.ez_NoLaying.gC M.ez_NoLaying.kC rfl)) (pda_cons (p1_e (pd_mk0 PySem.F.excBase_ValueError M.ez_NoLaying.q M.ob_NoLaying M.ez_NoLaying.gC M.ez_NoLaying.kC rfl)) (pda_cons (p1_e (pd_lamV (k := 55) (M.lam 55) M.TB_law_made_d rfl M.tm_law_made_d M.tu_law_made_d rfl (by rfl) (by rfl))) (pda_cons (p1_e (pd_lst pda_nil)) pda_nil)))))) pda_nil))) (pdss_cons (pds_expr (m_append (pv 3) (pda_cons (p1_e (pd_tup (pda_cons (p1_e (pd_mk0 PySem.F.excBase_ValueError M.ez_NoTree.q M.ob_NoTree M.ez_NoTree.gC M.ez_NoTree.kC rfl)) (pda_cons (p1_e (pd_mk0 PySem.F.excBase_ValueError M.ez_NoTree.q M.ob_NoTree M.ez_NoTree.gC M.ez_NoTree.kC rfl)) (pda_cons (p1_e (pd_lamV (k := 56) (M.lam 56) M.TB_law_made_d rfl M.tm_law_made_d M.tu_law_made_d rfl (by rfl) (by rfl))) (pda_cons (p1_e (pd_lst pda_nil)) pda_nil)))))) pda_nil))) (pdss_cons (pds_expr (m_append (pv 3) (pda_cons (p1_e (pd_tup (pda_cons (p1_e (pd_mk2 M.ek_NotByTurns M.ob_NotByTurns (hr.mono (by decide)) rfl (pda_cons (p1_vw (pv 0)) (pda_cons (p1_vw (pv 1)) pda_nil)))) (pda_cons (p1_e (pd_mk2K (ck := fun r => (aVw 1 (aVw 0 r))) M.ek_NotByTurns M.ob_NotByTurns (hr.mono (by decide)) rfl (p1k_cons (p1_vw (pv 1)) (p1k_cons (p1_vw (pv 0)) p1k_nil)))) (pda_cons (p1_e (pd_lamV (k := 57) (M.lam 57) M.TB_law_made_d rfl M.tm_law_made_d M.tu_law_made_d rfl (by rfl) (by rfl))) (pda_cons (p1_e (pd_lst (pda_cons (p1_e (pd_vm (pv 0))) (pda_cons (p1_e (pd_vm (pv 1))) pda_nil)))) pda_nil)))))) pda_nil))) (pdss_cons (pds_expr (m_append (pv 3) (pda_cons (p1_e (pd_tup (pda_cons (p1_e (pd_mk0 PySem.F.excBase_ValueError M.ez_NotCheapest.q M.ob_NotCheapest M.ez_NotCheapest.gC M.ez_NotCheapest.kC rfl)) (pda_cons (p1_e (pd_mk0 PySem.F.excBase_ValueError M.ez_NotCheapest.q M.ob_NotCheapest M.ez_NotCheapest.gC M.ez_NotCheapest.kC rfl)) (pda_cons (p1_e (pd_lamV (k := 58) (M.lam 58) M.TB_law_made_d rfl M.tm_law_made_d M.tu_law_made_d rfl (by rfl) (by rfl))) (pda_cons (p1_e (pd_lst pda_nil)) pda_nil)))))) pda_nil))) (pdss_cons (pds_expr (m_append (pv 3) (pda_cons (p1_e (pd_tup (pda_cons (p1_e (pd_mkO M.ek_NotNow.c M.ob_NotNow (hr.mono (by decide)) takes_def rfl (pda_cons (p1_vw (pv 0)) pda_nil))) (pda_cons (p1_e (pd_mkOK (ck := fun r => (aVw 0 r)) M.ek_NotNow M.ob_NotNow (hr.mono (by decide)) rfl (p1k_cons (p1_vw (pv 0)) p1k_nil))) (pda_cons (p1_e (pd_lamV (k := 59) (M.lam 59) M.TB_law_made_d rfl M.tm_law_made_d M.tu_law_made_d rfl (by rfl) (by rfl))) (pda_cons (p1_e (pd_lst (pda_cons (p1_e (pd_vm (pv 0))) pda_nil))) pda_nil)))))) pda_nil))) (pdss_cons (pds_expr (m_append (pv 3) (pda_cons (p1_e (pd_tup (pda_cons (p1_e (pd_mk0 PySem.F.excBase_ValueError M.ez_NotPlain.q M.ob_NotPlain M.ez_NotPlain.gC M.ez_NotPlain.kC rfl)) (pda_cons (p1_e (pd_mk0 PySem.F.excBase_ValueError M.ez_NotPlain.q M.ob_NotPlain M.ez_NotPlain.gC M.ez_NotPlain.kC rfl)) (pda_cons (p1_e (pd_lamV (k := 60) (M.lam 60) M.TB_law_made_d rfl M.tm_law_made_d M.tu_law_made_d rfl (by rfl) (by rfl))) (pda_cons (p1_e (pd_lst pda_nil)) pda_nil)))))) pda_nil))) (pdss_cons (pds_expr (m_append (pv 3) (pda_cons (p1_e (pd_tup (pda_cons (p1_e (pd_mkO M.ek_NotWatched.c M.ob_NotWatched (hr.mono (by decide)) takes_def rfl (pda_cons (p1_vw (pv 0)) pda_nil))) (pda_cons (p1_e (pd_mkOK (ck := fun r => (aVw 0 r)) M.ek_NotWatched M.ob_NotWatched (hr.mono (by decide)) rfl (p1k_cons (p1_vw (pv 0)) p1k_nil))) (pda_cons (p1_e (pd_lamV (k := 61) (M.lam 61) M.TB_law_made_d rfl M.tm_law_made_d M.tu_law_made_d rfl (by rfl) (by rfl))) (pda_cons (p1_e (pd_lst (pda_cons (p1_e (pd_vm (pv 0))) pda_nil))) pda_nil)))))) pda_nil))) (pdss_cons (pds_expr (m_append (pv 3) (pda_cons (p1_e (pd_tup (pda_cons (p1_e (pd_mkO M.ek_WouldChange.c M.ob_WouldChange (hr.mono (by decide)) takes_def rfl (pda_cons (p1_vw (pv 0)) pda_nil))) (pda_cons (p1_e (pd_mkOK (ck := fun r => (aVw 0 r)) M.ek_WouldChange M.ob_WouldChange (hr.mono (by decide)) rfl (p1k_cons (p1_vw (pv 0)) p1k_nil))) (pda_cons (p1_e (pd_lamV (k := 62) (M.lam 62) M.TB_law_made_d rfl M.tm_law_made_d M.tu_law_made_d rfl (by rfl) (by rfl))) (pda_cons (p1_e (pd_lst (pda_cons (p1_e (pd_vm (pv 0))) pda_nil))) pda_nil)))))) pda_nil))) (pdss_cons (pds_ret (pd_vm (pv 3))) pdss_nil)))))))))))
end
end K00
set_option Elab.async false
set_option linter.all false
set_option maxRecDepth 100000
set_option maxHeartbeats 4000000
namespace K00
open PySem PySem.Spec PyProof.Rows L2 LamX B
noncomputable section
variable [TabT]
variable {P : Program} {w : World} {K : PySem.W.Frag} {mg : Str → Option Value} {base : Heap}
theorem sc_law_kinds_a : FnScope ["e", "found"] ["e"] (defScope (top 73)) := ⟨rfl, rfl, rfl, by decide +kernel, rfl, by decide +kernel, by decide +kernel⟩
theorem bn_law_kinds_a {A : Ad} (M : Fx P w K mg base A) : Binds K A.fd_law_kinds_a ["e"] [] := M.f_law_kinds_a.binds fun _ _ _ _ _ _ us hl => match us, hl with | [_], _ => rfl
def D_law_kinds_a (A : Ad) : DF := fnD 2 1 (fun i => [0].contains i) (sSeq (sSet 1 (eLst aNil)) (sSeq (sDrop (eMut 1 isOl fExtend (aE (eLst (aE (eOp (dIsC (tOne 0)) (aVw 0 aNil)) (aE (eOp (dIsC (tOne 1)) (aVw 0 aNil)) aNil))) aNil))) (sSeq (sDrop (eMut 1 isOl fExtend (aE (eLst (aE (eOp (dIsC (tOne 2)) (aVw 0 aNil)) (aE (eOp (dIsC (tOne 3)) (aVw 0 aNil)) aNil))) aNil))) (sSeq (sDrop (eMut 1 isOl fExtend (aE (eLst (aE (eOp (dIsC (tOne 4)) (aVw 0 aNil)) (aE (eOp (dIsC (tOne 5)) (aVw 0 aNil)) aNil))) aNil))) (sSeq (sDrop (eMut 1 isOl fExtend (aE (eLst (aE (eOp (dIsC (tOne 6)) (aVw 0 aNil)) (aE (eOp (dIsC (tOne 7)) (aVw 0 aNil)) aNil))) aNil))) (sSeq (sDrop (eMut 1 isOl fExtend (aE (eLst (aE (eOp (dIsC (tOne 8)) (aVw 0 aNil)) (aE (eOp (dIsC (tOne 9)) (aVw 0 aNil)) aNil))) aNil))) (sSeq (sDrop (eMut 1 isOl fExtend (aE (eLst (aE (eOp (dIsC (tOne 10)) (aVw 0 aNil)) (aE (eOp (dIsC (tOne 11)) (aVw 0 aNil)) aNil))) aNil))) (sSeq (sDrop (eMut 1 isOl fExtend (aE (eLst (aE (eOp (dIsC (tOne 12)) (aVw 0 aNil)) (aE (eOp (dIsC (tOne 13)) (aVw 0 aNil)) aNil))) aNil))) (sSeq (sDrop (eMut 1 isOl fExtend (aE (eLst (aE (eOp (dIsC (tOne 14)) (aVw 0 aNil)) (aE (eOp (dIsC (tOne 15)) (aVw 0 aNil)) aNil))) aNil))) (sSeq (sDrop (eMut 1 isOl fExtend (aE (eLst (aE (eOp (dIsC (tOne 16)) (aVw 0 aNil)) (aE (eOp (dIsC (tOne 17)) (aVw 0 aNil)) aNil))) aNil))) (sSeq (sRet (eVM 1)) (sNx))))))))))))
theorem ok_law_kinds_a {A : Ad} (M : Fx P w K mg base A) : FnOk P w K mg base (L2.CX P w) 3 A.a_law_kinds_a A.fd_law_kinds_a ["e"] (spD P w K mg (D_law_kinds_a A)) := ok_def (k := 2) M.f_law_kinds_a sc_law_kinds_a fun cdv A_ outer s H E hr =>
  (pdss_cons (pds_set sc_law_kinds_a.nd rfl (.inl rfl) (by rfl) (pd_lst pda_nil)) (pdss_cons (pds_expr (m_extend (pv 1) (pda_cons (p1_e (pd_lst (pda_cons (p1_e (pd_isC M.is_BadBarred M.blt.isinstance (p1_vw (pv 0)) (pe_glob (v := .ref A.c_BadBarred) rfl M.ek_BadBarred.gC rfl))) (pda_cons (p1_e (pd_isC M.is_BadBegins M.blt.isinstance (p1_vw (pv 0)) (pe_glob (v := .ref A.c_BadBegins) rfl M.ek_BadBegins.gC rfl))) pda_nil)))) pda_nil))) (pdss_cons (pds_expr (m_extend (pv 1) (pda_cons (p1_e (pd_lst (pda_cons (p1_e (pd_isC M.is_BadBoard M.blt.isinstance (p1_vw (pv 0)) (pe_glob (v := .ref A.c_BadBoard) rfl M.ek_BadBoard.gC rfl))) (pda_cons (p1_e (pd_isC M.is_BadBox M.blt.isinstance (p1_vw (pv 0)) (pe_glob (v := .ref A.c_BadBox) rfl M.ek_BadBox.gC rfl))) pda_nil)))) pda_nil))) (pdss_cons (pds_expr (m_extend (pv 1) (pda_cons (p1_e (pd_lst (pda_cons (p1_e (pd_isC M.is_BadCell M.blt.isinstance (p1_vw (pv 0)) (pe_glob (v := .ref A.c_BadCell) rfl M.ek_BadCell.gC rfl))) (pda_cons (p1_e (pd_isC M.is_BadChange M.blt.isinstance (p1_vw (pv 0)) (pe_glob (v := .ref A.c_BadChange) rfl M.ek_BadChange.gC rfl))) pda_nil)))) pda_nil))) (pdss_cons (pds_expr (m_extend (pv 1) (pda_cons (p1_e (pd_lst (pda_cons (p1_e (pd_isC M.is_BadChoices M.blt.isinstance (p1_vw (pv 0)) (pe_glob (v := .ref A.c_BadChoices) rfl M.ek_BadChoices.gC rfl))) (pda_cons (p1_e (pd_isC M.is_BadCorner M.blt.isinstance (p1_vw (pv 0)) (pe_glob (v := .ref A.c_BadCorner) rfl M.ek_BadCorner.gC rfl))) pda_nil)))) pda_nil))) (pdss_cons (pds_expr (m_extend (pv 1) (pda_cons (p1_e (pd_lst (pda_cons (p1_e (pd_isC M.is_BadCosts M.blt.isinstance (p1_vw (pv 0)) (pe_glob (v := .ref A.c_BadCosts) rfl M.ek_BadCosts.gC rfl))) (pda_cons (p1_e (pd_isC M.is_BadCovering M.blt.isinstance (p1_vw (pv 0)) (pe_glob (v := .ref A.c_BadCovering) rfl M.ek_BadCovering.gC rfl))) pda_nil)))) pda_nil))) (pdss_cons (pds_expr (m_extend (pv 1) (pda_cons (p1_e (pd_lst (pda_cons (p1_e (pd_isC M.is_BadDeed M.blt.isinstance (p1_vw (pv 0)) (pe_glob (v := .ref A.c_BadDeed) rfl M.ek_BadDeed.gC rfl))) (pda_cons (p1_e (pd_isC M.is_BadEnds M.blt.isinstance (p1_vw (pv 0)) (pe_glob (v := .ref A.c_BadEnds) rfl M.ek_BadEnds.gC rfl))) pda_nil)))) pda_nil))) (pdss_cons (pds_expr (m_extend (pv 1) (pda_cons (p1_e (pd_lst (pda_cons (p1_e (pd_isC M.is_BadFloor M.blt.isinstance (p1_vw (pv 0)) (pe_glob (v := .ref A.c_BadFloor) rfl M.ek_BadFloor.gC rfl))) (pda_cons (p1_e (pd_isC M.is_BadForm M.blt.isinstance (p1_vw (pv 0)) (pe_glob (v := .ref A.c_BadForm) rfl M.ek_BadForm.gC rfl))) pda_nil)))) pda_nil))) (pdss_cons (pds_expr (m_extend (pv 1) (pda_cons (p1_e (pd_lst (pda_cons (p1_e (pd_isC M.is_BadGoal M.blt.isinstance (p1_vw (pv 0)) (pe_glob (v := .ref A.c_BadGoal) rfl M.ek_BadGoal.gC rfl))) (pda_cons (p1_e (pd_isC M.is_BadGone M.blt.isinstance (p1_vw (pv 0)) (pe_glob (v := .ref A.c_BadGone) rfl M.ek_BadGone.gC rfl))) pda_nil)))) pda_nil))) (pdss_cons (pds_expr (m_extend (pv 1) (pda_cons (p1_e (pd_lst (pda_cons (p1_e (pd_isC M.is_BadGreat M.blt.isinstance (p1_vw (pv 0)) (pe_glob (v := .ref A.c_BadGreat) rfl M.ek_BadGreat.gC rfl))) (pda_cons (p1_e (pd_isC M.is_BadGround M.blt.isinstance (p1_vw (pv 0)) (pe_glob (v := .ref A.c_BadGround) rfl M.ek_BadGround.gC rfl))) pda_nil)))) pda_nil))) (pdss_cons (pds_ret (pd_vm (pv 1))) pdss_nil)))))))))))
theorem sc_law_kinds_b : FnScope ["e", "found"] ["e"] (defScope (top 74)) := ⟨rfl, rfl, rfl, by decide +kernel, rfl, by decide +kernel, by decide +kernel⟩
theorem bn_law_kinds_b {A : Ad} (M : Fx P w K mg base A) : Binds K A.fd_law_kinds_b ["e"] [] := M.f_law_kinds_b.binds fun _ _ _ _ _ _ us hl => match us, hl with | [_], _ => rfl
def D_law_kinds_b (A : Ad) : DF := fnD 2 1 (fun i => [0].contains i) (sSeq (sSet 1 (eLst aNil)) (sSeq (sDrop (eMut 1 isOl fExtend (aE (eLst (aE (eOp (dIsC (tOne 18)) (aVw 0 aNil)) (aE (eOp (dIsC (tOne 19)) (aVw 0 aNil)) aNil))) aNil))) (sSeq (sDrop (eMut 1 isOl fExtend (aE (eLst (aE (eOp (dIsC (tOne 20)) (aVw 0 aNil)) (aE (eOp (dIsC (tOne 21)) (aVw 0 aNil)) aNil))) aNil))) (sSeq (sDrop (eMut 1 isOl fExtend (aE (eLst (aE (eOp (dIsC (tOne 22)) (aVw 0 aNil)) (aE (eOp (dIsC (tOne 23)) (aVw 0 aNil)) aNil))) aNil))) (sSeq (sDrop (eMut 1 isOl fExtend (aE (eLst (aE (eOp (dIsC (tOne 24)) (aVw 0 aNil)) (aE (eOp (dIsC (tOne 25)) (aVw 0 aNil)) aNil))) aNil))) (sSeq (sDrop (eMut 1 isOl fExtend (aE (eLst (aE (eOp (dIsC (tOne 26)) (aVw 0 aNil)) (aE (eOp (dIsC (tOne 27)) (aVw 0 aNil)) aNil))) aNil))) (sSeq (sDrop (eMut 1 isOl fExtend (aE (eLst (aE (eOp (dIsC (tOne 28)) (aVw 0 aNil)) (aE (eOp (dIsC (tOne 29)) (aVw 0 aNil)) aNil))) aNil))) (sSeq (sDrop (eMut 1 isOl fExtend (aE (eLst (aE (eOp (dIsC (tOne 30)) (aVw 0 aNil)) (aE (eOp (dIsC (tOne 31)) (aVw 0 aNil)) aNil))) aNil))) (sSeq (sDrop (eMut 1 isOl fExtend (aE (eLst (aE (eOp (dIsC (tOne 32)) (aVw 0 aNil)) (aE (eOp (dIsC (tOne 33)) (aVw 0 aNil)) aNil))) aNil))) (sSeq (sDrop (eMut 1 isOl fExtend (aE (eLst (aE (eOp (dIsC (tOne 34)) (aVw 0 aNil)) (aE (eOp (dIsC (tOne 35)) (aVw 0 aNil)) aNil))) aNil))) (sSeq (sRet (eVM 1)) (sNx))))))))))))
theorem ok_law_kinds_b {A : Ad} (M : Fx P w K mg base A) : FnOk P w K mg base (L2.CX P w) 3 A.a_law_kinds_b A.fd_law_kinds_b ["e"] (spD P w K mg (D_law_kinds_b A)) := ok_def (k := 2) M.f_law_kinds_b sc_law_kinds_b fun cdv A_ outer s H E hr =>
  (pdss_cons (pds_set sc_law_kinds_b.nd rfl (.inl rfl) (by rfl) (pd_lst pda_nil)) (pdss_cons (pds_expr (m_extend (pv 1) (pda_cons (p1_e (pd_lst (pda_cons (p1_e (pd_isC M.is_BadHeap M.blt.isinstance (p1_vw (pv 0)) (pe_glob (v := .ref A.c_BadHeap) rfl M.ek_BadHeap.gC rfl))) (pda_cons (p1_e (pd_isC M.is_BadHeights M.blt.isinstance (p1_vw (pv 0)) (pe_glob (v := .ref A.c_BadHeights) rfl M.ek_BadHeights.gC rfl))) pda_nil)))) pda_nil))) (pdss_cons (pds_expr (m_extend (pv 1) (pda_cons (p1_e (pd_lst (pda_cons (p1_e (pd_isC M.is_BadHigh M.blt.isinstance (p1_vw (pv 0)) (pe_glob (v := .ref A.c_BadHigh) rfl M.ek_BadHigh.gC rfl))) (pda_cons (p1_e (pd_isC M.is_BadKind M.blt.isinstance (p1_vw (pv 0)) (pe_glob (v := .ref A.c_BadKind) rfl M.ek_BadKind.gC rfl))) pda_nil)))) pda_nil))) (pdss_cons (pds_expr (m_extend (pv 1) (pda_cons (p1_e (pd_lst (pda_cons (p1_e (pd_isC M.is_BadLaying M.blt.isinstance (p1_vw (pv 0)) (pe_glob (v := .ref A.c_BadLaying) rfl M.ek_BadLaying.gC rfl))) (pda_cons (p1_e (pd_isC M.is_BadLine M.blt.isinstance (p1_vw (pv 0)) (pe_glob (v := .ref A.c_BadLine) rfl M.ek_BadLine.gC rfl))) pda_nil)))) pda_nil))) (pdss_cons (pds_expr (m_extend (pv 1) (pda_cons (p1_e (pd_lst (pda_cons (p1_e (pd_isC M.is_BadMost M.blt.isinstance (p1_vw (pv 0)) (pe_glob (v := .ref A.c_BadMost) rfl M.ek_BadMost.gC rfl))) (pda_cons (p1_e (pd_isC M.is_BadNumber M.blt.isinstance (p1_vw (pv 0)) (pe_glob (v := .ref A.c_BadNumber) rfl M.ek_BadNumber.gC rfl))) pda_nil)))) pda_nil))) (pdss_cons (pds_expr (m_extend (pv 1) (pda_cons (p1_e (pd_lst (pda_cons (p1_e (pd_isC M.is_BadOne M.blt.isinstance (p1_vw (pv 0)) (pe_glob (v := .ref A.c_BadOne) rfl M.ek_BadOne.gC rfl))) (pda_cons (p1_e (pd_isC M.is_BadOrder M.blt.isinstance (p1_vw (pv 0)) (pe_glob (v := .ref A.c_BadOrder) rfl M.ek_BadOrder.gC rfl))) pda_nil)))) pda_nil))) (pdss_cons (pds_expr (m_extend (pv 1) (pda_cons (p1_e (pd_lst (pda_cons (p1_e (pd_isC M.is_BadOther M.blt.isinstance (p1_vw (pv 0)) (pe_glob (v := .ref A.c_BadOther) rfl M.ek_BadOther.gC rfl))) (pda_cons (p1_e (pd_isC M.is_BadOut M.blt.isinstance (p1_vw (pv 0)) (pe_glob (v := .ref A.c_BadOut) rfl M.ek_BadOut.gC rfl))) pda_nil)))) pda_nil))) (pdss_cons (pds_expr (m_extend (pv 1) (pda_cons (p1_e (pd_lst (pda_cons (p1_e (pd_isC M.is_BadPath M.blt.isinstance (p1_vw (pv 0)) (pe_glob (v := .ref A.c_BadPath) rfl M.ek_BadPath.gC rfl))) (pda_cons (p1_e (pd_isC M.is_BadPoint M.blt.isinstance (p1_vw (pv 0)) (pe_glob (v := .ref A.c_BadPoint) rfl M.ek_BadPoint.gC rfl))) pda_nil)))) pda_nil))) (pdss_cons (pds_expr (m_extend (pv 1) (pda_cons (p1_e (pd_lst (pda_cons (p1_e (pd_isC M.is_BadPoints M.blt.isinstance (p1_vw (pv 0)) (pe_glob (v := .ref A.c_BadPoints) rfl M.ek_BadPoints.gC rfl))) (pda_cons (p1_e (pd_isC M.is_BadPrices M.blt.isinstance (p1_vw (pv 0)) (pe_glob (v := .ref A.c_BadPrices) rfl M.ek_BadPrices.gC rfl))) pda_nil)))) pda_nil))) (pdss_cons (pds_expr (m_extend (pv 1) (pda_cons (p1_e (pd_lst (pda_cons (p1_e (pd_isC M.is_BadQuestion M.blt.isinstance (p1_vw (pv 0)) (pe_glob (v := .ref A.c_BadQuestion) rfl M.ek_BadQuestion.gC rfl))) (pda_cons (p1_e (pd_isC M.is_BadRing M.blt.isinstance (p1_vw (pv 0)) (pe_glob (v := .ref A.c_BadRing) rfl M.ek_BadRing.gC rfl))) pda_nil)))) pda_nil))) (pdss_cons (pds_ret (pd_vm (pv 1))) pdss_nil)))))))))))
theorem sc_law_kinds_c : FnScope ["e", "found"] ["e"] (defScope (top 75)) := ⟨rfl, rfl, rfl, by decide +kernel, rfl, by decide +kernel, by decide +kernel⟩
theorem bn_law_kinds_c {A : Ad} (M : Fx P w K mg base A) : Binds K A.fd_law_kinds_c ["e"] [] := M.f_law_kinds_c.binds fun _ _ _ _ _ _ us hl => match us, hl with | [_], _ => rfl
def D_law_kinds_c (A : Ad) : DF := fnD 2 1 (fun i => [0].contains i) (sSeq (sSet 1 (eLst aNil)) (sSeq (sDrop (eMut 1 isOl fExtend (aE (eLst (aE (eOp (dIsC (tOne 36)) (aVw 0 aNil)) (aE (eOp (dIsC (tOne 37)) (aVw 0 aNil)) aNil))) aNil))) (sSeq (sDrop (eMut 1 isOl fExtend (aE (eLst (aE (eOp (dIsC (tOne 38)) (aVw 0 aNil)) (aE (eOp (dIsC (tOne 39)) (aVw 0 aNil)) aNil))) aNil))) (sSeq (sDrop (eMut 1 isOl fExtend (aE (eLst (aE (eOp (dIsC (tOne 40)) (aVw 0 aNil)) (aE (eOp (dIsC (tOne 41)) (aVw 0 aNil)) aNil))) aNil))) (sSeq (sDrop (eMut 1 isOl fExtend (aE (eLst (aE (eOp (dIsC (tOne 42)) (aVw 0 aNil)) (aE (eOp (dIsC (tOne 43)) (aVw 0 aNil)) aNil))) aNil))) (sSeq (sDrop (eMut 1 isOl fExtend (aE (eLst (aE (eOp (dIsC (tOne 44)) (aVw 0 aNil)) (aE (eOp (dIsC (tOne 45)) (aVw 0 aNil)) aNil))) aNil))) (sSeq (sDrop (eMut 1 isOl fExtend (aE (eLst (aE (eOp (dIsC (tOne 46)) (aVw 0 aNil)) (aE (eOp (dIsC (tOne 47)) (aVw 0 aNil)) aNil))) aNil))) (sSeq (sDrop (eMut 1 isOl fExtend (aE (eLst (aE (eOp (dIsC (tOne 48)) (aVw 0 aNil)) (aE (eOp (dIsC (tOne 49)) (aVw 0 aNil)) aNil))) aNil))) (sSeq (sDrop (eMut 1 isOl fExtend (aE (eLst (aE (eOp (dIsC (tOne 50)) (aVw 0 aNil)) (aE (eOp (dIsC (tOne 51)) (aVw 0 aNil)) aNil))) aNil))) (sSeq (sDrop (eMut 1 isOl fExtend (aE (eLst (aE (eOp (dIsC (tOne 52)) (aVw 0 aNil)) (aE (eOp (dIsC (tOne 53)) (aVw 0 aNil)) aNil))) aNil))) (sSeq (sRet (eVM 1)) (sNx))))))))))))
theorem ok_law_kinds_c {A : Ad} (M : Fx P w K mg base A) : FnOk P w K mg base (L2.CX P w) 3 A.a_law_kinds_c A.fd_law_kinds_c ["e"] (spD P w K mg (D_law_kinds_c A)) := ok_def (k := 2) M.f_law_kinds_c sc_law_kinds_c fun cdv A_ outer s H E hr =>
  (pdss_cons (pds_set sc_law_kinds_c.nd rfl (.inl rfl) (by rfl) (pd_lst pda_nil)) (pdss_cons (pds_expr (m_extend (pv 1) (pda_cons (p1_e (pd_lst (pda_cons (p1_e (pd_isC M.is_BadRoom M.blt.isinstance (p1_vw (pv 0)) (pe_glob (v := .ref A.c_BadRoom) rfl M.ek_BadRoom.gC rfl))) (pda_cons (p1_e (pd_isC M.is_BadRoutes M.blt.isinstance (p1_vw (pv 0)) (pe_glob (v := .ref A.c_BadRoutes) rfl M.ek_BadRoutes.gC rfl))) pda_nil)))) pda_nil))) (pdss_cons (pds_expr (m_extend (pv 1) (pda_cons (p1_e (pd_lst (pda_cons (p1_e (pd_isC M.is_BadTable M.blt.isinstance (p1_vw (pv 0)) (pe_glob (v := .ref A.c_BadTable) rfl M.ek_BadTable.gC rfl))) (pda_cons (p1_e (pd_isC M.is_BadText M.blt.isinstance (p1_vw (pv 0)) (pe_glob (v := .ref A.c_BadText) rfl M.ek_BadText.gC rfl))) pda_nil)))) pda_nil))) (pdss_cons (pds_expr (m_extend (pv 1) (pda_cons (p1_e (pd_lst (pda_cons (p1_e (pd_isC M.is_BadTie M.blt.isinstance (p1_vw (pv 0)) (pe_glob (v := .ref A.c_BadTie) rfl M.ek_BadTie.gC rfl))) (pda_cons (p1_e (pd_isC M.is_BadTies M.blt.isinstance (p1_vw (pv 0)) (pe_glob (v := .ref A.c_BadTies) rfl M.ek_BadTies.gC rfl))) pda_nil)))) pda_nil))) (pdss_cons (pds_expr (m_extend (pv 1) (pda_cons (p1_e (pd_lst (pda_cons (p1_e (pd_isC M.is_BadTold M.blt.isinstance (p1_vw (pv 0)) (pe_glob (v := .ref A.c_BadTold) rfl M.ek_BadTold.gC rfl))) (pda_cons (p1_e (pd_isC M.is_BadTree M.blt.isinstance (p1_vw (pv 0)) (pe_glob (v := .ref A.c_BadTree) rfl M.ek_BadTree.gC rfl))) pda_nil)))) pda_nil))) (pdss_cons (pds_expr (m_extend (pv 1) (pda_cons (p1_e (pd_lst (pda_cons (p1_e (pd_isC M.is_BadTriangle M.blt.isinstance (p1_vw (pv 0)) (pe_glob (v := .ref A.c_BadTriangle) rfl M.ek_BadTriangle.gC rfl))) (pda_cons (p1_e (pd_isC M.is_BadTurn M.blt.isinstance (p1_vw (pv 0)) (pe_glob (v := .ref A.c_BadTurn) rfl M.ek_BadTurn.gC rfl))) pda_nil)))) pda_nil))) (pdss_cons (pds_expr (m_extend (pv 1) (pda_cons (p1_e (pd_lst (pda_cons (p1_e (pd_isC M.is_BadTurns M.blt.isinstance (p1_vw (pv 0)) (pe_glob (v := .ref A.c_BadTurns) rfl M.ek_BadTurns.gC rfl))) (pda_cons (p1_e (pd_isC M.is_BadWalk M.blt.isinstance (p1_vw (pv 0)) (pe_glob (v := .ref A.c_BadWalk) rfl M.ek_BadWalk.gC rfl))) pda_nil)))) pda_nil))) (pdss_cons (pds_expr (m_extend (pv 1) (pda_cons (p1_e (pd_lst (pda_cons (p1_e (pd_isC M.is_BadWay M.blt.isinstance (p1_vw (pv 0)) (pe_glob (v := .ref A.c_BadWay) rfl M.ek_BadWay.gC rfl))) (pda_cons (p1_e (pd_isC M.is_BadWide M.blt.isinstance (p1_vw (pv 0)) (pe_glob (v := .ref A.c_BadWide) rfl M.ek_BadWide.gC rfl))) pda_nil)))) pda_nil))) (pdss_cons (pds_expr (m_extend (pv 1) (pda_cons (p1_e (pd_lst (pda_cons (p1_e (pd_isC M.is_CommonCell M.blt.isinstance (p1_vw (pv 0)) (pe_glob (v := .ref A.c_CommonCell) rfl M.ek_CommonCell.gC rfl))) (pda_cons (p1_e (pd_isC M.is_InUse M.blt.isinstance (p1_vw (pv 0)) (pe_glob (v := .ref A.c_InUse) rfl M.ek_InUse.gC rfl))) pda_nil)))) pda_nil))) (pdss_cons (pds_expr (m_extend (pv 1) (pda_cons (p1_e (pd_lst (pda_cons (p1_e (pd_isC M.is_IsWatched M.blt.isinstance (p1_vw (pv 0)) (pe_glob (v := .ref A.c_IsWatched) rfl M.ek_IsWatched.gC rfl))) (pda_cons (p1_e (pd_isC M.is_NoCount M.blt.isinstance (p1_vw (pv 0)) (pe_glob (v := .ref A.c_NoCount) rfl M.ek_NoCount.gC rfl))) pda_nil)))) pda_nil))) (pdss_cons (pds_ret (pd_vm (pv 1))) pdss_nil)))))))))))
theorem sc_law_kinds_d : FnScope ["e", "found"] ["e"] (defScope (top 76)) := ⟨rfl, rfl, rfl, by decide +kernel, rfl, by decide +kernel, by decide +kernel⟩
theorem bn_law_kinds_d {A : Ad} (M : Fx P w K mg base A) : Binds K A.fd_law_kinds_d ["e"] [] := M.f_law_kinds_d.binds fun _ _ _ _ _ _ us hl => match us, hl with | [_], _ => rfl
def D_law_kinds_d (A : Ad) : DF := fnD 2 1 (fun i => [0].contains i) (sSeq (sSet 1 (eLst aNil)) (sSeq (sDrop (eMut 1 isOl fExtend (aE (eLst (aE (eOp (dIsC (tOne 54)) (aVw 0 aNil)) (aE (eOp (dIsC (tOne 55)) (aVw 0 aNil)) aNil))) aNil))) (sSeq (sDrop (eMut 1 isOl fExtend (aE (eLst (aE (eOp (dIsC (tOne 56)) (aVw 0 aNil)) (aE (eOp (dIsC (tOne 57)) (aVw 0 aNil)) aNil))) aNil))) (sSeq (sDrop (eMut 1 isOl fExtend (aE (eLst (aE (eOp (dIsC (tOne 58)) (aVw 0 aNil)) (aE (eOp (dIsC (tOne 59)) (aVw 0 aNil)) aNil))) aNil))) (sSeq (sDrop (eMut 1 isOl fExtend (aE (eLst (aE (eOp (dIsC (tOne 60)) (aVw 0 aNil)) (aE (eOp (dIsC (tOne 61)) (aVw 0 aNil)) aNil))) aNil))) (sSeq (sDrop (eMut 1 isOl fExtend (aE (eLst (aE (eOp (dIsC (tOne 62)) (aVw 0 aNil)) aNil)) aNil))) (sSeq (sRet (eVM 1)) (sNx))))))))
theorem ok_law_kinds_d {A : Ad} (M : Fx P w K mg base A) : FnOk P w K mg base (L2.CX P w) 3 A.a_law_kinds_d A.fd_law_kinds_d ["e"] (spD P w K mg (D_law_kinds_d A)) := ok_def (k := 2) M.f_law_kinds_d sc_law_kinds_d fun cdv A_ outer s H E hr =>
  (pdss_cons (pds_set sc_law_kinds_d.nd rfl (.inl rfl) (by rfl) (pd_lst pda_nil)) (pdss_cons (pds_expr (m_extend (pv 1) (pda_cons (p1_e (pd_lst (pda_cons (p1_e (pd_isC M.is_NoFlip M.blt.isinstance (p1_vw (pv 0)) (pe_glob (v := .ref A.c_NoFlip) rfl M.ez_NoFlip.gC rfl))) (pda_cons (p1_e (pd_isC M.is_NoLaying M.blt.isinstance (p1_vw (pv 0)) (pe_glob (v := .ref A.c_NoLaying) rfl M.ez_NoLaying.gC rfl))) pda_nil)))) pda_nil))) (pdss_cons (pds_expr (m_extend (pv 1) (pda_cons (p1_e (pd_lst (pda_cons (p1_e (pd_isC M.is_NoTree M.blt.isinstance (p1_vw (pv 0)) (pe_glob (v := .ref A.c_NoTree) rfl M.ez_NoTree.gC rfl))) (pda_cons (p1_e (pd_isC M.is_NotByTurns M.blt.isinstance (p1_vw (pv 0)) (pe_glob (v := .ref A.c_NotByTurns) rfl M.ek_NotByTurns.gC rfl))) pda_nil)))) pda_nil))) (pdss_cons (pds_expr (m_extend (pv 1) (pda_cons (p1_e (pd_lst (pda_cons (p1_e (pd_isC M.is_NotCheapest M.blt.isinstance (p1_vw (pv 0)) (pe_glob (v := .ref A.c_NotCheapest) rfl M.ez_NotCheapest.gC rfl))) (pda_cons (p1_e (pd_isC M.is_NotNow M.blt.isinstance (p1_vw (pv 0)) (pe_glob (v := .ref A.c_NotNow) rfl M.ek_NotNow.gC rfl))) pda_nil)))) pda_nil))) (pdss_cons (pds_expr (m_extend (pv 1) (pda_cons (p1_e (pd_lst (pda_cons (p1_e (pd_isC M.is_NotPlain M.blt.isinstance (p1_vw (pv 0)) (pe_glob (v := .ref A.c_NotPlain) rfl M.ez_NotPlain.gC rfl))) (pda_cons (p1_e (pd_isC M.is_NotWatched M.blt.isinstance (p1_vw (pv 0)) (pe_glob (v := .ref A.c_NotWatched) rfl M.ek_NotWatched.gC rfl))) pda_nil)))) pda_nil))) (pdss_cons (pds_expr (m_extend (pv 1) (pda_cons (p1_e (pd_lst (pda_cons (p1_e (pd_isC M.is_WouldChange M.blt.isinstance (p1_vw (pv 0)) (pe_glob (v := .ref A.c_WouldChange) rfl M.ek_WouldChange.gC rfl))) pda_nil))) pda_nil))) (pdss_cons (pds_ret (pd_vm (pv 1))) pdss_nil)))))))
theorem sc_law_kinds : FnScope ["e"] ["e"] (defScope (top 77)) := ⟨rfl, rfl, rfl, by decide +kernel, rfl, by decide +kernel, by decide +kernel⟩
theorem bn_law_kinds {A : Ad} (M : Fx P w K mg base A) : Binds K A.fd_law_kinds ["e"] [] := M.f_law_kinds.binds fun _ _ _ _ _ _ us hl => match us, hl with | [_], _ => rfl
def D_law_kinds (A : Ad) : DF := fnD 1 1 (fun i => [0].contains i) (sSeq (sRet (eOp dAdd (aE (eOp dAdd (aE (eOp dAdd (aE (eCall (D_law_kinds_a A) (aVw 0 aNil)) (aE (eCall (D_law_kinds_b A) (aVw 0 aNil)) aNil))) (aE (eCall (D_law_kinds_c A) (aVw 0 aNil)) aNil))) (aE (eCall (D_law_kinds_d A) (aVw 0 aNil)) aNil)))) (sNx))
theorem ok_law_kinds {A : Ad} (M : Fx P w K mg base A) : FnOk P w K mg base (L2.CX P w) 4 A.a_law_kinds A.fd_law_kinds ["e"] (spD P w K mg (D_law_kinds A)) := ok_def (k := 3) M.f_law_kinds sc_law_kinds fun cdv A_ outer s H E hr =>
  (pdss_cons (pds_ret (o_add (p1_e (o_add (p1_e (o_add (p1_e (pd_call (ok_law_kinds_a M) (hr.mono (by omega)) rfl M.m_law_kinds_a M.f_law_kinds_a.kp (bn_law_kinds_a M) takes_def (pda_cons (p1_vw (pv 0)) pda_nil))) (p1_e (pd_call (ok_law_kinds_b M) (hr.mono (by omega)) rfl M.m_law_kinds_b M.f_law_kinds_b.kp (bn_law_kinds_b M) takes_def (pda_cons (p1_vw (pv 0)) pda_nil))))) (p1_e (pd_call (ok_law_kinds_c M) (hr.mono (by omega)) rfl M.m_law_kinds_c M.f_law_kinds_c.kp (bn_law_kinds_c M) takes_def (pda_cons (p1_vw (pv 0)) pda_nil))))) (p1_e (pd_call (ok_law_kinds_d M) (hr.mono (by omega)) rfl M.m_law_kinds_d M.f_law_kinds_d.kp (bn_law_kinds_d M) takes_def (pda_cons (p1_vw (pv 0)) pda_nil))))) pdss_nil)
theorem sc_law_is_own : FnScope ["e", "at", "k"] ["e", "at"] (defScope (top 78)) := ⟨rfl, rfl, rfl, by decide +kernel, rfl, by decide +kernel, by decide +kernel⟩
theorem bn_law_is_own {A : Ad} (M : Fx P w K mg base A) : Binds K A.fd_law_is_own ["e", "at"] [] := M.f_law_is_own.binds fun _ _ _ _ _ _ us hl => match us, hl with | [_, _], _ => rfl
def D_law_is_own (A : Ad) : DF := fnD 3 2 (fun i => [0, 1].contains i) (sSeq (sIf (cOr (cNot (eB (eOp (dIsC tAll) (aVw 0 aNil)))) (cNot (eB (eOp (dIsC tAll) (aVw 0 aNil))))) (sSeq (sRet (eC (.bl false))) (sNx)) (sNx)) (sSeq (sIf (cOr (eB (eOp (dIsC tNo) (aVw 0 aNil))) (cOr (eB (eOp (dIsC tNo) (aVw 0 aNil))) (eB (eOp (dIsC tNo) (aVw 0 aNil))))) (sSeq (sRet (eC (.bl false))) (sNx)) (sNx)) (sSeq (sRet (eOp (dEqA) (aE (eCall (D_law_kinds A) (aVw 0 aNil)) (aE (eLc (iRange1 (aE (eC (.int 63)) aNil)) (gSet 2) (fun ρ => some (.ok true, ρ)) (eOp (dEqA) (aVw 2 (aVw 1 aNil))) [2]) aNil)))) (sNx))))
theorem ok_law_is_own {A : Ad} (M : Fx P w K mg base A) : FnOk P w K mg base (L2.CX P w) 5 A.a_law_is_own A.fd_law_is_own ["e", "at"] (spD P w K mg (D_law_is_own A)) := ok_def (k := 4) M.f_law_is_own sc_law_is_own fun cdv A_ outer s H E hr =>
  (pdss_cons (pds_if (PW.pt (pdw_or (pdt_not (pdt_val (pd_isC M.is_BoardError M.blt.isinstance (p1_vw (pv 0)) (pe_glob (v := .ref A.c_BoardError) rfl M.ez_BoardError.gC rfl)))) (pdw_or1 (pdt_not (pdt_val (pd_isC M.is_ValueError M.blt.isinstance (p1_vw (pv 0)) (pe_bltn (v := .ty "ValueError") rfl M.bv_ValueError rfl rfl))))))) (pdss_cons (pds_ret pd_bl) pdss_nil) pdss_nil) (pdss_cons (pds_if (PW.pt (pdw_or (pdt_val (pd_isC M.is_LookupError M.blt.isinstance (p1_vw (pv 0)) (pe_bltn (v := .ty "LookupError") rfl M.bv_LookupError rfl rfl))) (pdw_or (pdt_val (pd_isC M.is_ArithmeticError M.blt.isinstance (p1_vw (pv 0)) (pe_bltn (v := .ty "ArithmeticError") rfl M.bv_ArithmeticError rfl rfl))) (pdw_or1 (pdt_val (pd_isC M.is_TypeError M.blt.isinstance (p1_vw (pv 0)) (pe_bltn (v := .ty "TypeError") rfl M.bv_TypeError rfl rfl))))))) (pdss_cons (pds_ret pd_bl) pdss_nil) pdss_nil) (pdss_cons (pds_ret (c_eq M.fns hr (p1_e (pd_call (ok_law_kinds M) (hr.mono (by omega)) rfl M.m_law_kinds M.f_law_kinds.kp (bn_law_kinds M) takes_def (pda_cons (p1_vw (pv 0)) pda_nil))) (p1_e (pd_lc (own := [("k", 2)]) rfl sc_law_is_own.nd (pdi_range1 rfl M.blt.range (pda_cons (p1_e pd_int) pda_nil)) (blk_by (own := [("k", 2)]) (by rfl)) (fun _ _ _ _ _ => (pdg_name sc_law_is_own.nd rfl (.inl rfl) (by rfl))) (fun _ _ _ _ _ => pts_none) (fun _ _ _ _ _ => (c_eq M.fns hr (p1_vw (pv 2)) (p1_vw (pv 1)))))))) pdss_nil)))
end
end K00
set_option Elab.async false
set_option linter.all false
set_option maxRecDepth 100000
set_option maxHeartbeats 4000000
namespace K00
open PySem PySem.Spec PyProof.Rows L2 LamX B
noncomputable section
variable [TabT]
variable {P : Program} {w : World} {K : PySem.W.Frag} {mg : Str → Option Value} {base : Heap}
theorem sc_law_same : FnScope ["found", "due", "x", "y"] ["found", "due"] (defScope (top 79)) := ⟨rfl, rfl, rfl, by decide +kernel, rfl, by decide +kernel, by decide +kernel⟩
theorem bn_law_same {A : Ad} (M : Fx P w K mg base A) : Binds K A.fd_law_same ["found", "due"] [] := M.f_law_same.binds fun _ _ _ _ _ _ us hl => match us, hl with | [_, _], _ => rfl
def D_law_same (A : Ad) : Nat → DF
  | 0 => fnD 4 2 (fun i => [0, 1].contains i) sNo
  | n + 1 => fnD 4 2 (fun i => [0, 1].contains i) (sSeq (sIf (eB (eOp (dIsN false) (aVw 1 (aE (eC .non) aNil)))) (sSeq (sRet (eOp (dIsN false) (aVw 0 (aE (eC .non) aNil)))) (sNx)) (sNx)) (sSeq (sIf (eB (eOp dIsi (aVw 1 (aE (eC (.raw (.ty "str"))) aNil)))) (sSeq (sRet (vAnd (eOp dIsi (aVw 0 (aE (eC (.raw (.ty "str"))) aNil))) (eOp (dEqA) (aVw 0 (aVw 1 aNil))))) (sNx)) (sNx)) (sSeq (sIf (eB (eOp dIsi (aVw 1 (aE (eTup (aE (eC (.raw (.ty "list"))) (aE (eC (.raw (.ty "tuple"))) aNil))) aNil)))) (sSeq (sIf (cOr (eB (eOp (dEq true) (aE (eOp dIsi (aVw 0 (aE (eC (.raw (.ty "list"))) aNil))) (aE (eOp dIsi (aVw 1 (aE (eC (.raw (.ty "list"))) aNil))) aNil)))) (eB (eOp (dEq true) (aE (eOp dIsi (aVw 0 (aE (eC (.raw (.ty "tuple"))) aNil))) (aE (eOp dIsi (aVw 1 (aE (eC (.raw (.ty "tuple"))) aNil))) aNil))))) (sSeq (sRet (eC (.bl false))) (sNx)) (sNx)) (sSeq (sRet (vAnd (eOp (dEqA) (aE (eOp dLen (aVw 0 aNil)) (aE (eOp dLen (aVw 1 aNil)) aNil))) (eOp dAll (aE (eLc (walkA fZip (aE (eVM 0) (aE (eVM 1) aNil))) (gUnp 2 (gsCons (gSet 2) (gsCons (gSet 3) gsNil))) (fun ρ => some (.ok true, ρ)) (eCall (D_law_same A n) (aVw 2 (aVw 3 aNil))) [2, 3]) aNil)))) (sNx))) (sNx)) (sSeq (sIf (eB (eOp dIsi (aVw 1 (aE (eC (.raw (.ty "dict"))) aNil)))) (sSeq (sRet (vAnd (eOp dIsi (aVw 0 (aE (eC (.raw (.ty "dict"))) aNil))) (eBor (eCall (D_law_same A n) (aE (eItems 0) (aE (eItems 1) aNil)))))) (sNx)) (sNx)) (sSeq (sRet (vAnd (eOp dIsi (aVw 0 (aE (eC (.raw (.ty "int"))) aNil))) (vAnd (eOp (dEqA) (aE (eOp dIsi (aVw 0 (aE (eC (.raw (.ty "bool"))) aNil))) (aE (eOp dIsi (aVw 1 (aE (eC (.raw (.ty "bool"))) aNil))) aNil))) (eOp (dEqA) (aVw 0 (aVw 1 aNil)))))) (sNx))))))
theorem ok_law_same {A : Ad} (M : Fx P w K mg base A) : ∀ n, FnOk P w K mg base (L2.CX P w) (n + 3) A.a_law_same A.fd_law_same ["found", "due"] (spD P w K mg (D_law_same A n))
  | 0 => ok_def (k := 0 + 2) M.f_law_same sc_law_same fun cdv A_ outer s H E hr => pdss_no
  | n + 1 => have IH := ok_law_same M n
    ok_def (k := n + 3) M.f_law_same sc_law_same fun cdv A_ outer s H E hr =>
  (pdss_cons (pds_if (t_is (p1_vw (pv 1)) (p1_e pd_non)) (pdss_cons (pds_ret (c_is (p1_vw (pv 0)) (p1_e pd_non))) pdss_nil) pdss_nil) (pdss_cons (pds_if (pdt_val (b_isinstance M.blt M.fns (pda_cons (p1_vw (pv 1)) (pda_cons (p1_e (pd_bltn (v := .ty "str") rfl M.blt.str rfl rfl)) pda_nil)))) (pdss_cons (pds_ret (pd_and (b_isinstance M.blt M.fns (pda_cons (p1_vw (pv 0)) (pda_cons (p1_e (pd_bltn (v := .ty "str") rfl M.blt.str rfl rfl)) pda_nil))) (pd_one (c_eq M.fns hr (p1_vw (pv 0)) (p1_vw (pv 1)))))) pdss_nil) pdss_nil) (pdss_cons (pds_if (pdt_val (b_isinstance M.blt M.fns (pda_cons (p1_vw (pv 1)) (pda_cons (p1_e (pd_tup (pda_cons (p1_e (pd_bltn (v := .ty "list") rfl M.blt.list rfl rfl)) (pda_cons (p1_e (pd_bltn (v := .ty "tuple") rfl M.blt.tuple rfl rfl)) pda_nil)))) pda_nil)))) (pdss_cons (pds_if (PW.pt (pdw_or (t_ne hr (p1_e (b_isinstance M.blt M.fns (pda_cons (p1_vw (pv 0)) (pda_cons (p1_e (pd_bltn (v := .ty "list") rfl M.blt.list rfl rfl)) pda_nil)))) (p1_e (b_isinstance M.blt M.fns (pda_cons (p1_vw (pv 1)) (pda_cons (p1_e (pd_bltn (v := .ty "list") rfl M.blt.list rfl rfl)) pda_nil))))) (pdw_or1 (t_ne hr (p1_e (b_isinstance M.blt M.fns (pda_cons (p1_vw (pv 0)) (pda_cons (p1_e (pd_bltn (v := .ty "tuple") rfl M.blt.tuple rfl rfl)) pda_nil)))) (p1_e (b_isinstance M.blt M.fns (pda_cons (p1_vw (pv 1)) (pda_cons (p1_e (pd_bltn (v := .ty "tuple") rfl M.blt.tuple rfl rfl)) pda_nil)))))))) (pdss_cons (pds_ret pd_bl) pdss_nil) pdss_nil) (pdss_cons (pds_ret (pd_and (c_eq M.fns hr (p1_e (b_len M.blt (pda_cons (p1_vw (pv 0)) pda_nil))) (p1_e (b_len M.blt (pda_cons (p1_vw (pv 1)) pda_nil)))) (pd_one (b_all M.blt rfl (pda_cons (p1_e (pd_lc (own := [("x", 2), ("y", 3)]) rfl sc_law_same.nd (pdi_zip rfl M.blt.zip (pda_cons (p1_e (pd_vm (pv 0))) (pda_cons (p1_e (pd_vm (pv 1))) pda_nil))) (blk_by (own := [("x", 2), ("y", 3)]) (by rfl)) (fun _ _ _ _ _ => (pdg_tup rfl (pdgs_cons (pdg_name sc_law_same.nd rfl (.inl rfl) (by rfl)) (pdgs_cons (pdg_name sc_law_same.nd rfl (.inl rfl) (by rfl)) pdgs_nil)))) (fun _ _ _ _ _ => pts_none) (fun _ _ _ _ _ => (pd_call IH (hr.mono (by omega)) rfl M.m_law_same M.f_law_same.kp (bn_law_same M) LamX.takes0 (pda_cons (p1_vw (pv 2)) (pda_cons (p1_vw (pv 3)) pda_nil)))))) pda_nil))))) pdss_nil)) pdss_nil) (pdss_cons (pds_if (pdt_val (b_isinstance M.blt M.fns (pda_cons (p1_vw (pv 1)) (pda_cons (p1_e (pd_bltn (v := .ty "dict") rfl M.blt.dict rfl rfl)) pda_nil)))) (pdss_cons (pds_ret (pd_and (b_isinstance M.blt M.fns (pda_cons (p1_vw (pv 0)) (pda_cons (p1_e (pd_bltn (v := .ty "dict") rfl M.blt.dict rfl rfl)) pda_nil))) (pd_one (pd_bor (pd_call IH (hr.mono (by omega)) rfl M.m_law_same M.f_law_same.kp (bn_law_same M) takes_def (pda_cons (p1_e (pd_items rfl (pv 0) rfl M.blt.list rfl)) (pda_cons (p1_e (pd_items rfl (pv 1) rfl M.blt.list rfl)) pda_nil))))))) pdss_nil) pdss_nil) (pdss_cons (pds_ret (pd_and (b_isinstance M.blt M.fns (pda_cons (p1_vw (pv 0)) (pda_cons (p1_e (pd_bltn (v := .ty "int") rfl M.blt.int rfl rfl)) pda_nil))) (pd_and (c_eq M.fns hr (p1_e (b_isinstance M.blt M.fns (pda_cons (p1_vw (pv 0)) (pda_cons (p1_e (pd_bltn (v := .ty "bool") rfl M.blt.bool rfl rfl)) pda_nil)))) (p1_e (b_isinstance M.blt M.fns (pda_cons (p1_vw (pv 1)) (pda_cons (p1_e (pd_bltn (v := .ty "bool") rfl M.blt.bool rfl rfl)) pda_nil))))) (pd_one (c_eq M.fns hr (p1_vw (pv 0)) (p1_vw (pv 1))))))) pdss_nil)))))
theorem sc_law_are_these : FnScope ["found", "due"] ["found", "due"] (defScope (top 80)) := ⟨rfl, rfl, rfl, by decide +kernel, rfl, by decide +kernel, by decide +kernel⟩
theorem bn_law_are_these {A : Ad} (M : Fx P w K mg base A) : Binds K A.fd_law_are_these ["found", "due"] [] := M.f_law_are_these.binds fun _ _ _ _ _ _ us hl => match us, hl with | [_, _], _ => rfl
def D_law_are_these (A : Ad) : DF := fnD 2 2 (fun i => [0, 1].contains i) (sSeq (sRet (eBor (eCall (D_law_same A 12) (aVw 0 (aVw 1 aNil))))) (sNx))
theorem ok_law_are_these {A : Ad} (M : Fx P w K mg base A) : FnOk P w K mg base (L2.CX P w) 18 A.a_law_are_these A.fd_law_are_these ["found", "due"] (spD P w K mg (D_law_are_these A)) := ok_def (k := 17) M.f_law_are_these sc_law_are_these fun cdv A_ outer s H E hr =>
  (pdss_cons (pds_ret (pd_bor (pd_call (ok_law_same M 12) (hr.mono (by omega)) rfl M.m_law_same M.f_law_same.kp (bn_law_same M) takes_def (pda_cons (p1_vw (pv 0)) (pda_cons (p1_vw (pv 1)) pda_nil))))) pdss_nil)
end
end K00
set_option Elab.async false
set_option linter.all false
set_option maxRecDepth 100000
set_option maxHeartbeats 4000000
namespace K00
open PySem PySem.Spec PyProof.Rows L2 LamX B
noncomputable section
variable [TabT]
variable {P : Program} {w : World} {K : PySem.W.Frag} {mg : Str → Option Value} {base : Heap}
theorem sl_0 : FnScope ["e"] ["e"] lamI_0.sc := ⟨rfl, rfl, rfl, by decide +kernel, rfl, by decide +kernel, by decide +kernel⟩
def DL_0 (A : Ad) : DF := fnD 1 1 (fun i => [0].contains i) (sRet (eLst (aE (eOp (dAt "index") (aVw 0 aNil)) aNil)))
theorem okl_0 {A : Ad} (M : Fx P w K mg base A) : LamOk P w K mg base 4 (LamT.lam 0) (DL_0 A) := (M.lam 0).symm ▸ (ok_lam (l := lamI_0) sl_0 (fun pm c ct us hl => match us, hl with | [_], _ => rfl) fun cdv A_ outer s H E f hr =>
  (pd_lst (pda_cons (p1_e (pd_at M.hob (p1_vw (pv 0)))) pda_nil)) : LamOk P w K mg base 4 (lamI 0) (DL_0 A))
theorem sl_1 : FnScope ["e"] ["e"] lamI_1.sc := ⟨rfl, rfl, rfl, by decide +kernel, rfl, by decide +kernel, by decide +kernel⟩
def DL_1 (A : Ad) : DF := fnD 1 1 (fun i => [0].contains i) (sRet (eLst (aE (eOp (dAt "index") (aVw 0 aNil)) aNil)))
theorem okl_1 {A : Ad} (M : Fx P w K mg base A) : LamOk P w K mg base 4 (LamT.lam 1) (DL_1 A) := (M.lam 1).symm ▸ (ok_lam (l := lamI_1) sl_1 (fun pm c ct us hl => match us, hl with | [_], _ => rfl) fun cdv A_ outer s H E f hr =>
  (pd_lst (pda_cons (p1_e (pd_at M.hob (p1_vw (pv 0)))) pda_nil)) : LamOk P w K mg base 4 (lamI 1) (DL_1 A))
theorem sl_2 : FnScope ["e"] ["e"] lamI_2.sc := ⟨rfl, rfl, rfl, by decide +kernel, rfl, by decide +kernel, by decide +kernel⟩
def DL_2 (A : Ad) : DF := fnD 1 1 (fun i => [0].contains i) (sRet (eLst (aE (eOp (dAt "thing") (aVw 0 aNil)) aNil)))
theorem okl_2 {A : Ad} (M : Fx P w K mg base A) : LamOk P w K mg base 4 (LamT.lam 2) (DL_2 A) := (M.lam 2).symm ▸ (ok_lam (l := lamI_2) sl_2 (fun pm c ct us hl => match us, hl with | [_], _ => rfl) fun cdv A_ outer s H E f hr =>
  (pd_lst (pda_cons (p1_e (pd_at M.hob (p1_vw (pv 0)))) pda_nil)) : LamOk P w K mg base 4 (lamI 2) (DL_2 A))
theorem sl_3 : FnScope ["e"] ["e"] lamI_3.sc := ⟨rfl, rfl, rfl, by decide +kernel, rfl, by decide +kernel, by decide +kernel⟩
def DL_3 (A : Ad) : DF := fnD 1 1 (fun i => [0].contains i) (sRet (eLst (aE (eOp (dAt "thing") (aVw 0 aNil)) aNil)))
theorem okl_3 {A : Ad} (M : Fx P w K mg base A) : LamOk P w K mg base 4 (LamT.lam 3) (DL_3 A) := (M.lam 3).symm ▸ (ok_lam (l := lamI_3) sl_3 (fun pm c ct us hl => match us, hl with | [_], _ => rfl) fun cdv A_ outer s H E f hr =>
  (pd_lst (pda_cons (p1_e (pd_at M.hob (p1_vw (pv 0)))) pda_nil)) : LamOk P w K mg base 4 (lamI 3) (DL_3 A))
theorem sl_4 : FnScope ["e"] ["e"] lamI_4.sc := ⟨rfl, rfl, rfl, by decide +kernel, rfl, by decide +kernel, by decide +kernel⟩
def DL_4 (A : Ad) : DF := fnD 1 1 (fun i => [0].contains i) (sRet (eLst (aE (eOp (dAt "thing") (aVw 0 aNil)) aNil)))
theorem okl_4 {A : Ad} (M : Fx P w K mg base A) : LamOk P w K mg base 4 (LamT.lam 4) (DL_4 A) := (M.lam 4).symm ▸ (ok_lam (l := lamI_4) sl_4 (fun pm c ct us hl => match us, hl with | [_], _ => rfl) fun cdv A_ outer s H E f hr =>
  (pd_lst (pda_cons (p1_e (pd_at M.hob (p1_vw (pv 0)))) pda_nil)) : LamOk P w K mg base 4 (lamI 4) (DL_4 A))
theorem sl_5 : FnScope ["e"] ["e"] lamI_5.sc := ⟨rfl, rfl, rfl, by decide +kernel, rfl, by decide +kernel, by decide +kernel⟩
def DL_5 (A : Ad) : DF := fnD 1 1 (fun i => [0].contains i) (sRet (eLst (aE (eOp (dAt "thing") (aVw 0 aNil)) aNil)))
theorem okl_5 {A : Ad} (M : Fx P w K mg base A) : LamOk P w K mg base 4 (LamT.lam 5) (DL_5 A) := (M.lam 5).symm ▸ (ok_lam (l := lamI_5) sl_5 (fun pm c ct us hl => match us, hl with | [_], _ => rfl) fun cdv A_ outer s H E f hr =>
  (pd_lst (pda_cons (p1_e (pd_at M.hob (p1_vw (pv 0)))) pda_nil)) : LamOk P w K mg base 4 (lamI 5) (DL_5 A))
theorem sl_6 : FnScope ["e"] ["e"] lamI_6.sc := ⟨rfl, rfl, rfl, by decide +kernel, rfl, by decide +kernel, by decide +kernel⟩
def DL_6 (A : Ad) : DF := fnD 1 1 (fun i => [0].contains i) (sRet (eLst (aE (eOp (dAt "index") (aVw 0 aNil)) aNil)))
theorem okl_6 {A : Ad} (M : Fx P w K mg base A) : LamOk P w K mg base 4 (LamT.lam 6) (DL_6 A) := (M.lam 6).symm ▸ (ok_lam (l := lamI_6) sl_6 (fun pm c ct us hl => match us, hl with | [_], _ => rfl) fun cdv A_ outer s H E f hr =>
  (pd_lst (pda_cons (p1_e (pd_at M.hob (p1_vw (pv 0)))) pda_nil)) : LamOk P w K mg base 4 (lamI 6) (DL_6 A))
theorem sl_7 : FnScope ["e"] ["e"] lamI_7.sc := ⟨rfl, rfl, rfl, by decide +kernel, rfl, by decide +kernel, by decide +kernel⟩
def DL_7 (A : Ad) : DF := fnD 1 1 (fun i => [0].contains i) (sRet (eLst (aE (eOp (dAt "thing") (aVw 0 aNil)) aNil)))
theorem okl_7 {A : Ad} (M : Fx P w K mg base A) : LamOk P w K mg base 4 (LamT.lam 7) (DL_7 A) := (M.lam 7).symm ▸ (ok_lam (l := lamI_7) sl_7 (fun pm c ct us hl => match us, hl with | [_], _ => rfl) fun cdv A_ outer s H E f hr =>
  (pd_lst (pda_cons (p1_e (pd_at M.hob (p1_vw (pv 0)))) pda_nil)) : LamOk P w K mg base 4 (lamI 7) (DL_7 A))
theorem sl_8 : FnScope ["e"] ["e"] lamI_8.sc := ⟨rfl, rfl, rfl, by decide +kernel, rfl, by decide +kernel, by decide +kernel⟩
def DL_8 (A : Ad) : DF := fnD 1 1 (fun i => [0].contains i) (sRet (eLst (aE (eOp (dAt "thing") (aVw 0 aNil)) aNil)))
theorem okl_8 {A : Ad} (M : Fx P w K mg base A) : LamOk P w K mg base 4 (LamT.lam 8) (DL_8 A) := (M.lam 8).symm ▸ (ok_lam (l := lamI_8) sl_8 (fun pm c ct us hl => match us, hl with | [_], _ => rfl) fun cdv A_ outer s H E f hr =>
  (pd_lst (pda_cons (p1_e (pd_at M.hob (p1_vw (pv 0)))) pda_nil)) : LamOk P w K mg base 4 (lamI 8) (DL_8 A))
theorem sl_9 : FnScope ["e"] ["e"] lamI_9.sc := ⟨rfl, rfl, rfl, by decide +kernel, rfl, by decide +kernel, by decide +kernel⟩
def DL_9 (A : Ad) : DF := fnD 1 1 (fun i => [0].contains i) (sRet (eLst (aE (eOp (dAt "thing") (aVw 0 aNil)) aNil)))
theorem okl_9 {A : Ad} (M : Fx P w K mg base A) : LamOk P w K mg base 4 (LamT.lam 9) (DL_9 A) := (M.lam 9).symm ▸ (ok_lam (l := lamI_9) sl_9 (fun pm c ct us hl => match us, hl with | [_], _ => rfl) fun cdv A_ outer s H E f hr =>
  (pd_lst (pda_cons (p1_e (pd_at M.hob (p1_vw (pv 0)))) pda_nil)) : LamOk P w K mg base 4 (lamI 9) (DL_9 A))
theorem sl_10 : FnScope ["e"] ["e"] lamI_10.sc := ⟨rfl, rfl, rfl, by decide +kernel, rfl, by decide +kernel, by decide +kernel⟩
def DL_10 (A : Ad) : DF := fnD 1 1 (fun i => [0].contains i) (sRet (eLst (aE (eOp (dAt "deed") (aVw 0 aNil)) aNil)))
theorem okl_10 {A : Ad} (M : Fx P w K mg base A) : LamOk P w K mg base 4 (LamT.lam 10) (DL_10 A) := (M.lam 10).symm ▸ (ok_lam (l := lamI_10) sl_10 (fun pm c ct us hl => match us, hl with | [_], _ => rfl) fun cdv A_ outer s H E f hr =>
  (pd_lst (pda_cons (p1_e (pd_at M.hob (p1_vw (pv 0)))) pda_nil)) : LamOk P w K mg base 4 (lamI 10) (DL_10 A))
theorem sl_11 : FnScope ["e"] ["e"] lamI_11.sc := ⟨rfl, rfl, rfl, by decide +kernel, rfl, by decide +kernel, by decide +kernel⟩
def DL_11 (A : Ad) : DF := fnD 1 1 (fun i => [0].contains i) (sRet (eLst (aE (eOp (dAt "index") (aVw 0 aNil)) aNil)))
theorem okl_11 {A : Ad} (M : Fx P w K mg base A) : LamOk P w K mg base 4 (LamT.lam 11) (DL_11 A) := (M.lam 11).symm ▸ (ok_lam (l := lamI_11) sl_11 (fun pm c ct us hl => match us, hl with | [_], _ => rfl) fun cdv A_ outer s H E f hr =>
  (pd_lst (pda_cons (p1_e (pd_at M.hob (p1_vw (pv 0)))) pda_nil)) : LamOk P w K mg base 4 (lamI 11) (DL_11 A))
theorem sl_12 : FnScope ["e"] ["e"] lamI_12.sc := ⟨rfl, rfl, rfl, by decide +kernel, rfl, by decide +kernel, by decide +kernel⟩
def DL_12 (A : Ad) : DF := fnD 1 1 (fun i => [0].contains i) (sRet (eLst (aE (eOp (dAt "index") (aVw 0 aNil)) aNil)))
theorem okl_12 {A : Ad} (M : Fx P w K mg base A) : LamOk P w K mg base 4 (LamT.lam 12) (DL_12 A) := (M.lam 12).symm ▸ (ok_lam (l := lamI_12) sl_12 (fun pm c ct us hl => match us, hl with | [_], _ => rfl) fun cdv A_ outer s H E f hr =>
  (pd_lst (pda_cons (p1_e (pd_at M.hob (p1_vw (pv 0)))) pda_nil)) : LamOk P w K mg base 4 (lamI 12) (DL_12 A))
theorem sl_13 : FnScope ["e"] ["e"] lamI_13.sc := ⟨rfl, rfl, rfl, by decide +kernel, rfl, by decide +kernel, by decide +kernel⟩
def DL_13 (A : Ad) : DF := fnD 1 1 (fun i => [0].contains i) (sRet (eLst (aE (eOp (dAt "thing") (aVw 0 aNil)) aNil)))
theorem okl_13 {A : Ad} (M : Fx P w K mg base A) : LamOk P w K mg base 4 (LamT.lam 13) (DL_13 A) := (M.lam 13).symm ▸ (ok_lam (l := lamI_13) sl_13 (fun pm c ct us hl => match us, hl with | [_], _ => rfl) fun cdv A_ outer s H E f hr =>
  (pd_lst (pda_cons (p1_e (pd_at M.hob (p1_vw (pv 0)))) pda_nil)) : LamOk P w K mg base 4 (lamI 13) (DL_13 A))
theorem sl_14 : FnScope ["e"] ["e"] lamI_14.sc := ⟨rfl, rfl, rfl, by decide +kernel, rfl, by decide +kernel, by decide +kernel⟩
def DL_14 (A : Ad) : DF := fnD 1 1 (fun i => [0].contains i) (sRet (eLst (aE (eOp (dAt "thing") (aVw 0 aNil)) aNil)))
theorem okl_14 {A : Ad} (M : Fx P w K mg base A) : LamOk P w K mg base 4 (LamT.lam 14) (DL_14 A) := (M.lam 14).symm ▸ (ok_lam (l := lamI_14) sl_14 (fun pm c ct us hl => match us, hl with | [_], _ => rfl) fun cdv A_ outer s H E f hr =>
  (pd_lst (pda_cons (p1_e (pd_at M.hob (p1_vw (pv 0)))) pda_nil)) : LamOk P w K mg base 4 (lamI 14) (DL_14 A))
theorem sl_15 : FnScope ["e"] ["e"] lamI_15.sc := ⟨rfl, rfl, rfl, by decide +kernel, rfl, by decide +kernel, by decide +kernel⟩
def DL_15 (A : Ad) : DF := fnD 1 1 (fun i => [0].contains i) (sRet (eLst (aE (eOp (dAt "index") (aVw 0 aNil)) aNil)))
theorem okl_15 {A : Ad} (M : Fx P w K mg base A) : LamOk P w K mg base 4 (LamT.lam 15) (DL_15 A) := (M.lam 15).symm ▸ (ok_lam (l := lamI_15) sl_15 (fun pm c ct us hl => match us, hl with | [_], _ => rfl) fun cdv A_ outer s H E f hr =>
  (pd_lst (pda_cons (p1_e (pd_at M.hob (p1_vw (pv 0)))) pda_nil)) : LamOk P w K mg base 4 (lamI 15) (DL_15 A))
theorem sl_16 : FnScope ["e"] ["e"] lamI_16.sc := ⟨rfl, rfl, rfl, by decide +kernel, rfl, by decide +kernel, by decide +kernel⟩
def DL_16 (A : Ad) : DF := fnD 1 1 (fun i => [0].contains i) (sRet (eLst (aE (eOp (dAt "thing") (aVw 0 aNil)) aNil)))
theorem okl_16 {A : Ad} (M : Fx P w K mg base A) : LamOk P w K mg base 4 (LamT.lam 16) (DL_16 A) := (M.lam 16).symm ▸ (ok_lam (l := lamI_16) sl_16 (fun pm c ct us hl => match us, hl with | [_], _ => rfl) fun cdv A_ outer s H E f hr =>
  (pd_lst (pda_cons (p1_e (pd_at M.hob (p1_vw (pv 0)))) pda_nil)) : LamOk P w K mg base 4 (lamI 16) (DL_16 A))
theorem sl_17 : FnScope ["e"] ["e"] lamI_17.sc := ⟨rfl, rfl, rfl, by decide +kernel, rfl, by decide +kernel, by decide +kernel⟩
def DL_17 (A : Ad) : DF := fnD 1 1 (fun i => [0].contains i) (sRet (eLst (aE (eOp (dAt "index") (aVw 0 aNil)) aNil)))
theorem okl_17 {A : Ad} (M : Fx P w K mg base A) : LamOk P w K mg base 4 (LamT.lam 17) (DL_17 A) := (M.lam 17).symm ▸ (ok_lam (l := lamI_17) sl_17 (fun pm c ct us hl => match us, hl with | [_], _ => rfl) fun cdv A_ outer s H E f hr =>
  (pd_lst (pda_cons (p1_e (pd_at M.hob (p1_vw (pv 0)))) pda_nil)) : LamOk P w K mg base 4 (lamI 17) (DL_17 A))
theorem sl_18 : FnScope ["e"] ["e"] lamI_18.sc := ⟨rfl, rfl, rfl, by decide +kernel, rfl, by decide +kernel, by decide +kernel⟩
def DL_18 (A : Ad) : DF := fnD 1 1 (fun i => [0].contains i) (sRet (eLst (aE (eOp (dAt "thing") (aVw 0 aNil)) aNil)))
theorem okl_18 {A : Ad} (M : Fx P w K mg base A) : LamOk P w K mg base 4 (LamT.lam 18) (DL_18 A) := (M.lam 18).symm ▸ (ok_lam (l := lamI_18) sl_18 (fun pm c ct us hl => match us, hl with | [_], _ => rfl) fun cdv A_ outer s H E f hr =>
  (pd_lst (pda_cons (p1_e (pd_at M.hob (p1_vw (pv 0)))) pda_nil)) : LamOk P w K mg base 4 (lamI 18) (DL_18 A))
theorem sl_19 : FnScope ["e"] ["e"] lamI_19.sc := ⟨rfl, rfl, rfl, by decide +kernel, rfl, by decide +kernel, by decide +kernel⟩
def DL_19 (A : Ad) : DF := fnD 1 1 (fun i => [0].contains i) (sRet (eLst (aE (eOp (dAt "fault") (aVw 0 aNil)) aNil)))
theorem okl_19 {A : Ad} (M : Fx P w K mg base A) : LamOk P w K mg base 4 (LamT.lam 19) (DL_19 A) := (M.lam 19).symm ▸ (ok_lam (l := lamI_19) sl_19 (fun pm c ct us hl => match us, hl with | [_], _ => rfl) fun cdv A_ outer s H E f hr =>
  (pd_lst (pda_cons (p1_e (pd_at M.hob (p1_vw (pv 0)))) pda_nil)) : LamOk P w K mg base 4 (lamI 19) (DL_19 A))
theorem sl_20 : FnScope ["e"] ["e"] lamI_20.sc := ⟨rfl, rfl, rfl, by decide +kernel, rfl, by decide +kernel, by decide +kernel⟩
def DL_20 (A : Ad) : DF := fnD 1 1 (fun i => [0].contains i) (sRet (eLst (aE (eOp (dAt "thing") (aVw 0 aNil)) aNil)))
theorem okl_20 {A : Ad} (M : Fx P w K mg base A) : LamOk P w K mg base 4 (LamT.lam 20) (DL_20 A) := (M.lam 20).symm ▸ (ok_lam (l := lamI_20) sl_20 (fun pm c ct us hl => match us, hl with | [_], _ => rfl) fun cdv A_ outer s H E f hr =>
  (pd_lst (pda_cons (p1_e (pd_at M.hob (p1_vw (pv 0)))) pda_nil)) : LamOk P w K mg base 4 (lamI 20) (DL_20 A))
theorem sl_21 : FnScope ["e"] ["e"] lamI_21.sc := ⟨rfl, rfl, rfl, by decide +kernel, rfl, by decide +kernel, by decide +kernel⟩
def DL_21 (A : Ad) : DF := fnD 1 1 (fun i => [0].contains i) (sRet (eLst (aE (eOp (dAt "thing") (aVw 0 aNil)) aNil)))
theorem okl_21 {A : Ad} (M : Fx P w K mg base A) : LamOk P w K mg base 4 (LamT.lam 21) (DL_21 A) := (M.lam 21).symm ▸ (ok_lam (l := lamI_21) sl_21 (fun pm c ct us hl => match us, hl with | [_], _ => rfl) fun cdv A_ outer s H E f hr =>
  (pd_lst (pda_cons (p1_e (pd_at M.hob (p1_vw (pv 0)))) pda_nil)) : LamOk P w K mg base 4 (lamI 21) (DL_21 A))
theorem sl_22 : FnScope ["e"] ["e"] lamI_22.sc := ⟨rfl, rfl, rfl, by decide +kernel, rfl, by decide +kernel, by decide +kernel⟩
def DL_22 (A : Ad) : DF := fnD 1 1 (fun i => [0].contains i) (sRet (eLst (aE (eOp (dAt "thing") (aVw 0 aNil)) aNil)))
theorem okl_22 {A : Ad} (M : Fx P w K mg base A) : LamOk P w K mg base 4 (LamT.lam 22) (DL_22 A) := (M.lam 22).symm ▸ (ok_lam (l := lamI_22) sl_22 (fun pm c ct us hl => match us, hl with | [_], _ => rfl) fun cdv A_ outer s H E f hr =>
  (pd_lst (pda_cons (p1_e (pd_at M.hob (p1_vw (pv 0)))) pda_nil)) : LamOk P w K mg base 4 (lamI 22) (DL_22 A))
theorem sl_23 : FnScope ["e"] ["e"] lamI_23.sc := ⟨rfl, rfl, rfl, by decide +kernel, rfl, by decide +kernel, by decide +kernel⟩
def DL_23 (A : Ad) : DF := fnD 1 1 (fun i => [0].contains i) (sRet (eLst (aE (eOp (dAt "thing") (aVw 0 aNil)) aNil)))
theorem okl_23 {A : Ad} (M : Fx P w K mg base A) : LamOk P w K mg base 4 (LamT.lam 23) (DL_23 A) := (M.lam 23).symm ▸ (ok_lam (l := lamI_23) sl_23 (fun pm c ct us hl => match us, hl with | [_], _ => rfl) fun cdv A_ outer s H E f hr =>
  (pd_lst (pda_cons (p1_e (pd_at M.hob (p1_vw (pv 0)))) pda_nil)) : LamOk P w K mg base 4 (lamI 23) (DL_23 A))
theorem sl_24 : FnScope ["e"] ["e"] lamI_24.sc := ⟨rfl, rfl, rfl, by decide +kernel, rfl, by decide +kernel, by decide +kernel⟩
def DL_24 (A : Ad) : DF := fnD 1 1 (fun i => [0].contains i) (sRet (eLst (aE (eOp (dAt "thing") (aVw 0 aNil)) aNil)))
theorem okl_24 {A : Ad} (M : Fx P w K mg base A) : LamOk P w K mg base 4 (LamT.lam 24) (DL_24 A) := (M.lam 24).symm ▸ (ok_lam (l := lamI_24) sl_24 (fun pm c ct us hl => match us, hl with | [_], _ => rfl) fun cdv A_ outer s H E f hr =>
  (pd_lst (pda_cons (p1_e (pd_at M.hob (p1_vw (pv 0)))) pda_nil)) : LamOk P w K mg base 4 (lamI 24) (DL_24 A))
theorem sl_25 : FnScope ["e"] ["e"] lamI_25.sc := ⟨rfl, rfl, rfl, by decide +kernel, rfl, by decide +kernel, by decide +kernel⟩
def DL_25 (A : Ad) : DF := fnD 1 1 (fun i => [0].contains i) (sRet (eLst (aE (eOp (dAt "thing") (aVw 0 aNil)) aNil)))
theorem okl_25 {A : Ad} (M : Fx P w K mg base A) : LamOk P w K mg base 4 (LamT.lam 25) (DL_25 A) := (M.lam 25).symm ▸ (ok_lam (l := lamI_25) sl_25 (fun pm c ct us hl => match us, hl with | [_], _ => rfl) fun cdv A_ outer s H E f hr =>
  (pd_lst (pda_cons (p1_e (pd_at M.hob (p1_vw (pv 0)))) pda_nil)) : LamOk P w K mg base 4 (lamI 25) (DL_25 A))
theorem sl_26 : FnScope ["e"] ["e"] lamI_26.sc := ⟨rfl, rfl, rfl, by decide +kernel, rfl, by decide +kernel, by decide +kernel⟩
def DL_26 (A : Ad) : DF := fnD 1 1 (fun i => [0].contains i) (sRet (eLst (aE (eOp (dAt "thing") (aVw 0 aNil)) aNil)))
theorem okl_26 {A : Ad} (M : Fx P w K mg base A) : LamOk P w K mg base 4 (LamT.lam 26) (DL_26 A) := (M.lam 26).symm ▸ (ok_lam (l := lamI_26) sl_26 (fun pm c ct us hl => match us, hl with | [_], _ => rfl) fun cdv A_ outer s H E f hr =>
  (pd_lst (pda_cons (p1_e (pd_at M.hob (p1_vw (pv 0)))) pda_nil)) : LamOk P w K mg base 4 (lamI 26) (DL_26 A))
theorem sl_27 : FnScope ["e"] ["e"] lamI_27.sc := ⟨rfl, rfl, rfl, by decide +kernel, rfl, by decide +kernel, by decide +kernel⟩
def DL_27 (A : Ad) : DF := fnD 1 1 (fun i => [0].contains i) (sRet (eLst (aE (eOp (dAt "thing") (aVw 0 aNil)) aNil)))
theorem okl_27 {A : Ad} (M : Fx P w K mg base A) : LamOk P w K mg base 4 (LamT.lam 27) (DL_27 A) := (M.lam 27).symm ▸ (ok_lam (l := lamI_27) sl_27 (fun pm c ct us hl => match us, hl with | [_], _ => rfl) fun cdv A_ outer s H E f hr =>
  (pd_lst (pda_cons (p1_e (pd_at M.hob (p1_vw (pv 0)))) pda_nil)) : LamOk P w K mg base 4 (lamI 27) (DL_27 A))
theorem sl_28 : FnScope ["e"] ["e"] lamI_28.sc := ⟨rfl, rfl, rfl, by decide +kernel, rfl, by decide +kernel, by decide +kernel⟩
def DL_28 (A : Ad) : DF := fnD 1 1 (fun i => [0].contains i) (sRet (eLst (aE (eOp (dAt "thing") (aVw 0 aNil)) aNil)))
theorem okl_28 {A : Ad} (M : Fx P w K mg base A) : LamOk P w K mg base 4 (LamT.lam 28) (DL_28 A) := (M.lam 28).symm ▸ (ok_lam (l := lamI_28) sl_28 (fun pm c ct us hl => match us, hl with | [_], _ => rfl) fun cdv A_ outer s H E f hr =>
  (pd_lst (pda_cons (p1_e (pd_at M.hob (p1_vw (pv 0)))) pda_nil)) : LamOk P w K mg base 4 (lamI 28) (DL_28 A))
theorem sl_29 : FnScope ["e"] ["e"] lamI_29.sc := ⟨rfl, rfl, rfl, by decide +kernel, rfl, by decide +kernel, by decide +kernel⟩
def DL_29 (A : Ad) : DF := fnD 1 1 (fun i => [0].contains i) (sRet (eLst (aE (eOp (dAt "thing") (aVw 0 aNil)) aNil)))
theorem okl_29 {A : Ad} (M : Fx P w K mg base A) : LamOk P w K mg base 4 (LamT.lam 29) (DL_29 A) := (M.lam 29).symm ▸ (ok_lam (l := lamI_29) sl_29 (fun pm c ct us hl => match us, hl with | [_], _ => rfl) fun cdv A_ outer s H E f hr =>
  (pd_lst (pda_cons (p1_e (pd_at M.hob (p1_vw (pv 0)))) pda_nil)) : LamOk P w K mg base 4 (lamI 29) (DL_29 A))
theorem sl_30 : FnScope ["e"] ["e"] lamI_30.sc := ⟨rfl, rfl, rfl, by decide +kernel, rfl, by decide +kernel, by decide +kernel⟩
def DL_30 (A : Ad) : DF := fnD 1 1 (fun i => [0].contains i) (sRet (eLst (aE (eOp (dAt "thing") (aVw 0 aNil)) aNil)))
theorem okl_30 {A : Ad} (M : Fx P w K mg base A) : LamOk P w K mg base 4 (LamT.lam 30) (DL_30 A) := (M.lam 30).symm ▸ (ok_lam (l := lamI_30) sl_30 (fun pm c ct us hl => match us, hl with | [_], _ => rfl) fun cdv A_ outer s H E f hr =>
  (pd_lst (pda_cons (p1_e (pd_at M.hob (p1_vw (pv 0)))) pda_nil)) : LamOk P w K mg base 4 (lamI 30) (DL_30 A))
theorem sl_31 : FnScope ["e"] ["e"] lamI_31.sc := ⟨rfl, rfl, rfl, by decide +kernel, rfl, by decide +kernel, by decide +kernel⟩
def DL_31 (A : Ad) : DF := fnD 1 1 (fun i => [0].contains i) (sRet (eLst (aE (eOp (dAt "thing") (aVw 0 aNil)) aNil)))
theorem okl_31 {A : Ad} (M : Fx P w K mg base A) : LamOk P w K mg base 4 (LamT.lam 31) (DL_31 A) := (M.lam 31).symm ▸ (ok_lam (l := lamI_31) sl_31 (fun pm c ct us hl => match us, hl with | [_], _ => rfl) fun cdv A_ outer s H E f hr =>
  (pd_lst (pda_cons (p1_e (pd_at M.hob (p1_vw (pv 0)))) pda_nil)) : LamOk P w K mg base 4 (lamI 31) (DL_31 A))
theorem sl_32 : FnScope ["e"] ["e"] lamI_32.sc := ⟨rfl, rfl, rfl, by decide +kernel, rfl, by decide +kernel, by decide +kernel⟩
def DL_32 (A : Ad) : DF := fnD 1 1 (fun i => [0].contains i) (sRet (eLst (aE (eOp (dAt "index") (aVw 0 aNil)) aNil)))
theorem okl_32 {A : Ad} (M : Fx P w K mg base A) : LamOk P w K mg base 4 (LamT.lam 32) (DL_32 A) := (M.lam 32).symm ▸ (ok_lam (l := lamI_32) sl_32 (fun pm c ct us hl => match us, hl with | [_], _ => rfl) fun cdv A_ outer s H E f hr =>
  (pd_lst (pda_cons (p1_e (pd_at M.hob (p1_vw (pv 0)))) pda_nil)) : LamOk P w K mg base 4 (lamI 32) (DL_32 A))
theorem sl_33 : FnScope ["e"] ["e"] lamI_33.sc := ⟨rfl, rfl, rfl, by decide +kernel, rfl, by decide +kernel, by decide +kernel⟩
def DL_33 (A : Ad) : DF := fnD 1 1 (fun i => [0].contains i) (sRet (eLst (aE (eOp (dAt "thing") (aVw 0 aNil)) aNil)))
theorem okl_33 {A : Ad} (M : Fx P w K mg base A) : LamOk P w K mg base 4 (LamT.lam 33) (DL_33 A) := (M.lam 33).symm ▸ (ok_lam (l := lamI_33) sl_33 (fun pm c ct us hl => match us, hl with | [_], _ => rfl) fun cdv A_ outer s H E f hr =>
  (pd_lst (pda_cons (p1_e (pd_at M.hob (p1_vw (pv 0)))) pda_nil)) : LamOk P w K mg base 4 (lamI 33) (DL_33 A))
theorem sl_34 : FnScope ["e"] ["e"] lamI_34.sc := ⟨rfl, rfl, rfl, by decide +kernel, rfl, by decide +kernel, by decide +kernel⟩
def DL_34 (A : Ad) : DF := fnD 1 1 (fun i => [0].contains i) (sRet (eLst (aE (eOp (dAt "thing") (aVw 0 aNil)) aNil)))
theorem okl_34 {A : Ad} (M : Fx P w K mg base A) : LamOk P w K mg base 4 (LamT.lam 34) (DL_34 A) := (M.lam 34).symm ▸ (ok_lam (l := lamI_34) sl_34 (fun pm c ct us hl => match us, hl with | [_], _ => rfl) fun cdv A_ outer s H E f hr =>
  (pd_lst (pda_cons (p1_e (pd_at M.hob (p1_vw (pv 0)))) pda_nil)) : LamOk P w K mg base 4 (lamI 34) (DL_34 A))
theorem sl_35 : FnScope ["e"] ["e"] lamI_35.sc := ⟨rfl, rfl, rfl, by decide +kernel, rfl, by decide +kernel, by decide +kernel⟩
def DL_35 (A : Ad) : DF := fnD 1 1 (fun i => [0].contains i) (sRet (eLst (aE (eOp (dAt "thing") (aVw 0 aNil)) aNil)))
theorem okl_35 {A : Ad} (M : Fx P w K mg base A) : LamOk P w K mg base 4 (LamT.lam 35) (DL_35 A) := (M.lam 35).symm ▸ (ok_lam (l := lamI_35) sl_35 (fun pm c ct us hl => match us, hl with | [_], _ => rfl) fun cdv A_ outer s H E f hr =>
  (pd_lst (pda_cons (p1_e (pd_at M.hob (p1_vw (pv 0)))) pda_nil)) : LamOk P w K mg base 4 (lamI 35) (DL_35 A))
theorem sl_36 : FnScope ["e"] ["e"] lamI_36.sc := ⟨rfl, rfl, rfl, by decide +kernel, rfl, by decide +kernel, by decide +kernel⟩
def DL_36 (A : Ad) : DF := fnD 1 1 (fun i => [0].contains i) (sRet (eLst (aE (eOp (dAt "thing") (aVw 0 aNil)) aNil)))
theorem okl_36 {A : Ad} (M : Fx P w K mg base A) : LamOk P w K mg base 4 (LamT.lam 36) (DL_36 A) := (M.lam 36).symm ▸ (ok_lam (l := lamI_36) sl_36 (fun pm c ct us hl => match us, hl with | [_], _ => rfl) fun cdv A_ outer s H E f hr =>
  (pd_lst (pda_cons (p1_e (pd_at M.hob (p1_vw (pv 0)))) pda_nil)) : LamOk P w K mg base 4 (lamI 36) (DL_36 A))
theorem sl_37 : FnScope ["e"] ["e"] lamI_37.sc := ⟨rfl, rfl, rfl, by decide +kernel, rfl, by decide +kernel, by decide +kernel⟩
def DL_37 (A : Ad) : DF := fnD 1 1 (fun i => [0].contains i) (sRet (eLst (aE (eOp (dAt "index") (aVw 0 aNil)) aNil)))
theorem okl_37 {A : Ad} (M : Fx P w K mg base A) : LamOk P w K mg base 4 (LamT.lam 37) (DL_37 A) := (M.lam 37).symm ▸ (ok_lam (l := lamI_37) sl_37 (fun pm c ct us hl => match us, hl with | [_], _ => rfl) fun cdv A_ outer s H E f hr =>
  (pd_lst (pda_cons (p1_e (pd_at M.hob (p1_vw (pv 0)))) pda_nil)) : LamOk P w K mg base 4 (lamI 37) (DL_37 A))
theorem sl_38 : FnScope ["e"] ["e"] lamI_38.sc := ⟨rfl, rfl, rfl, by decide +kernel, rfl, by decide +kernel, by decide +kernel⟩
def DL_38 (A : Ad) : DF := fnD 1 1 (fun i => [0].contains i) (sRet (eLst (aE (eOp (dAt "index") (aVw 0 aNil)) aNil)))
theorem okl_38 {A : Ad} (M : Fx P w K mg base A) : LamOk P w K mg base 4 (LamT.lam 38) (DL_38 A) := (M.lam 38).symm ▸ (ok_lam (l := lamI_38) sl_38 (fun pm c ct us hl => match us, hl with | [_], _ => rfl) fun cdv A_ outer s H E f hr =>
  (pd_lst (pda_cons (p1_e (pd_at M.hob (p1_vw (pv 0)))) pda_nil)) : LamOk P w K mg base 4 (lamI 38) (DL_38 A))
theorem sl_39 : FnScope ["e"] ["e"] lamI_39.sc := ⟨rfl, rfl, rfl, by decide +kernel, rfl, by decide +kernel, by decide +kernel⟩
def DL_39 (A : Ad) : DF := fnD 1 1 (fun i => [0].contains i) (sRet (eLst (aE (eOp (dAt "line") (aVw 0 aNil)) (aE (eOp (dAt "sign") (aVw 0 aNil)) aNil))))
theorem okl_39 {A : Ad} (M : Fx P w K mg base A) : LamOk P w K mg base 4 (LamT.lam 39) (DL_39 A) := (M.lam 39).symm ▸ (ok_lam (l := lamI_39) sl_39 (fun pm c ct us hl => match us, hl with | [_], _ => rfl) fun cdv A_ outer s H E f hr =>
  (pd_lst (pda_cons (p1_e (pd_at M.hob (p1_vw (pv 0)))) (pda_cons (p1_e (pd_at M.hob (p1_vw (pv 0)))) pda_nil))) : LamOk P w K mg base 4 (lamI 39) (DL_39 A))
theorem sl_40 : FnScope ["e"] ["e"] lamI_40.sc := ⟨rfl, rfl, rfl, by decide +kernel, rfl, by decide +kernel, by decide +kernel⟩
def DL_40 (A : Ad) : DF := fnD 1 1 (fun i => [0].contains i) (sRet (eLst (aE (eOp (dAt "thing") (aVw 0 aNil)) aNil)))
theorem okl_40 {A : Ad} (M : Fx P w K mg base A) : LamOk P w K mg base 4 (LamT.lam 40) (DL_40 A) := (M.lam 40).symm ▸ (ok_lam (l := lamI_40) sl_40 (fun pm c ct us hl => match us, hl with | [_], _ => rfl) fun cdv A_ outer s H E f hr =>
  (pd_lst (pda_cons (p1_e (pd_at M.hob (p1_vw (pv 0)))) pda_nil)) : LamOk P w K mg base 4 (lamI 40) (DL_40 A))
theorem sl_41 : FnScope ["e"] ["e"] lamI_41.sc := ⟨rfl, rfl, rfl, by decide +kernel, rfl, by decide +kernel, by decide +kernel⟩
def DL_41 (A : Ad) : DF := fnD 1 1 (fun i => [0].contains i) (sRet (eLst (aE (eOp (dAt "index") (aVw 0 aNil)) aNil)))
theorem okl_41 {A : Ad} (M : Fx P w K mg base A) : LamOk P w K mg base 4 (LamT.lam 41) (DL_41 A) := (M.lam 41).symm ▸ (ok_lam (l := lamI_41) sl_41 (fun pm c ct us hl => match us, hl with | [_], _ => rfl) fun cdv A_ outer s H E f hr =>
  (pd_lst (pda_cons (p1_e (pd_at M.hob (p1_vw (pv 0)))) pda_nil)) : LamOk P w K mg base 4 (lamI 41) (DL_41 A))
theorem sl_42 : FnScope ["e"] ["e"] lamI_42.sc := ⟨rfl, rfl, rfl, by decide +kernel, rfl, by decide +kernel, by decide +kernel⟩
def DL_42 (A : Ad) : DF := fnD 1 1 (fun i => [0].contains i) (sRet (eLst (aE (eOp (dAt "index") (aVw 0 aNil)) aNil)))
theorem okl_42 {A : Ad} (M : Fx P w K mg base A) : LamOk P w K mg base 4 (LamT.lam 42) (DL_42 A) := (M.lam 42).symm ▸ (ok_lam (l := lamI_42) sl_42 (fun pm c ct us hl => match us, hl with | [_], _ => rfl) fun cdv A_ outer s H E f hr =>
  (pd_lst (pda_cons (p1_e (pd_at M.hob (p1_vw (pv 0)))) pda_nil)) : LamOk P w K mg base 4 (lamI 42) (DL_42 A))
theorem sl_43 : FnScope ["e"] ["e"] lamI_43.sc := ⟨rfl, rfl, rfl, by decide +kernel, rfl, by decide +kernel, by decide +kernel⟩
def DL_43 (A : Ad) : DF := fnD 1 1 (fun i => [0].contains i) (sRet (eLst (aE (eOp (dAt "thing") (aVw 0 aNil)) aNil)))
theorem okl_43 {A : Ad} (M : Fx P w K mg base A) : LamOk P w K mg base 4 (LamT.lam 43) (DL_43 A) := (M.lam 43).symm ▸ (ok_lam (l := lamI_43) sl_43 (fun pm c ct us hl => match us, hl with | [_], _ => rfl) fun cdv A_ outer s H E f hr =>
  (pd_lst (pda_cons (p1_e (pd_at M.hob (p1_vw (pv 0)))) pda_nil)) : LamOk P w K mg base 4 (lamI 43) (DL_43 A))
theorem sl_44 : FnScope ["e"] ["e"] lamI_44.sc := ⟨rfl, rfl, rfl, by decide +kernel, rfl, by decide +kernel, by decide +kernel⟩
def DL_44 (A : Ad) : DF := fnD 1 1 (fun i => [0].contains i) (sRet (eLst (aE (eOp (dAt "thing") (aVw 0 aNil)) aNil)))
theorem okl_44 {A : Ad} (M : Fx P w K mg base A) : LamOk P w K mg base 4 (LamT.lam 44) (DL_44 A) := (M.lam 44).symm ▸ (ok_lam (l := lamI_44) sl_44 (fun pm c ct us hl => match us, hl with | [_], _ => rfl) fun cdv A_ outer s H E f hr =>
  (pd_lst (pda_cons (p1_e (pd_at M.hob (p1_vw (pv 0)))) pda_nil)) : LamOk P w K mg base 4 (lamI 44) (DL_44 A))
theorem sl_45 : FnScope ["e"] ["e"] lamI_45.sc := ⟨rfl, rfl, rfl, by decide +kernel, rfl, by decide +kernel, by decide +kernel⟩
def DL_45 (A : Ad) : DF := fnD 1 1 (fun i => [0].contains i) (sRet (eLst (aE (eOp (dAt "thing") (aVw 0 aNil)) aNil)))
theorem okl_45 {A : Ad} (M : Fx P w K mg base A) : LamOk P w K mg base 4 (LamT.lam 45) (DL_45 A) := (M.lam 45).symm ▸ (ok_lam (l := lamI_45) sl_45 (fun pm c ct us hl => match us, hl with | [_], _ => rfl) fun cdv A_ outer s H E f hr =>
  (pd_lst (pda_cons (p1_e (pd_at M.hob (p1_vw (pv 0)))) pda_nil)) : LamOk P w K mg base 4 (lamI 45) (DL_45 A))
theorem sl_46 : FnScope ["e"] ["e"] lamI_46.sc := ⟨rfl, rfl, rfl, by decide +kernel, rfl, by decide +kernel, by decide +kernel⟩
def DL_46 (A : Ad) : DF := fnD 1 1 (fun i => [0].contains i) (sRet (eLst (aE (eOp (dAt "index") (aVw 0 aNil)) aNil)))
theorem okl_46 {A : Ad} (M : Fx P w K mg base A) : LamOk P w K mg base 4 (LamT.lam 46) (DL_46 A) := (M.lam 46).symm ▸ (ok_lam (l := lamI_46) sl_46 (fun pm c ct us hl => match us, hl with | [_], _ => rfl) fun cdv A_ outer s H E f hr =>
  (pd_lst (pda_cons (p1_e (pd_at M.hob (p1_vw (pv 0)))) pda_nil)) : LamOk P w K mg base 4 (lamI 46) (DL_46 A))
theorem sl_47 : FnScope ["e"] ["e"] lamI_47.sc := ⟨rfl, rfl, rfl, by decide +kernel, rfl, by decide +kernel, by decide +kernel⟩
def DL_47 (A : Ad) : DF := fnD 1 1 (fun i => [0].contains i) (sRet (eLst (aE (eOp (dAt "thing") (aVw 0 aNil)) aNil)))
theorem okl_47 {A : Ad} (M : Fx P w K mg base A) : LamOk P w K mg base 4 (LamT.lam 47) (DL_47 A) := (M.lam 47).symm ▸ (ok_lam (l := lamI_47) sl_47 (fun pm c ct us hl => match us, hl with | [_], _ => rfl) fun cdv A_ outer s H E f hr =>
  (pd_lst (pda_cons (p1_e (pd_at M.hob (p1_vw (pv 0)))) pda_nil)) : LamOk P w K mg base 4 (lamI 47) (DL_47 A))
theorem sl_48 : FnScope ["e"] ["e"] lamI_48.sc := ⟨rfl, rfl, rfl, by decide +kernel, rfl, by decide +kernel, by decide +kernel⟩
def DL_48 (A : Ad) : DF := fnD 1 1 (fun i => [0].contains i) (sRet (eLst (aE (eOp (dAt "fault") (aVw 0 aNil)) aNil)))
theorem okl_48 {A : Ad} (M : Fx P w K mg base A) : LamOk P w K mg base 4 (LamT.lam 48) (DL_48 A) := (M.lam 48).symm ▸ (ok_lam (l := lamI_48) sl_48 (fun pm c ct us hl => match us, hl with | [_], _ => rfl) fun cdv A_ outer s H E f hr =>
  (pd_lst (pda_cons (p1_e (pd_at M.hob (p1_vw (pv 0)))) pda_nil)) : LamOk P w K mg base 4 (lamI 48) (DL_48 A))
theorem sl_49 : FnScope ["e"] ["e"] lamI_49.sc := ⟨rfl, rfl, rfl, by decide +kernel, rfl, by decide +kernel, by decide +kernel⟩
def DL_49 (A : Ad) : DF := fnD 1 1 (fun i => [0].contains i) (sRet (eLst (aE (eOp (dAt "thing") (aVw 0 aNil)) aNil)))
theorem okl_49 {A : Ad} (M : Fx P w K mg base A) : LamOk P w K mg base 4 (LamT.lam 49) (DL_49 A) := (M.lam 49).symm ▸ (ok_lam (l := lamI_49) sl_49 (fun pm c ct us hl => match us, hl with | [_], _ => rfl) fun cdv A_ outer s H E f hr =>
  (pd_lst (pda_cons (p1_e (pd_at M.hob (p1_vw (pv 0)))) pda_nil)) : LamOk P w K mg base 4 (lamI 49) (DL_49 A))
theorem sl_50 : FnScope ["e"] ["e"] lamI_50.sc := ⟨rfl, rfl, rfl, by decide +kernel, rfl, by decide +kernel, by decide +kernel⟩
def DL_50 (A : Ad) : DF := fnD 1 1 (fun i => [0].contains i) (sRet (eLst (aE (eOp (dAt "cell") (aVw 0 aNil)) aNil)))
theorem okl_50 {A : Ad} (M : Fx P w K mg base A) : LamOk P w K mg base 4 (LamT.lam 50) (DL_50 A) := (M.lam 50).symm ▸ (ok_lam (l := lamI_50) sl_50 (fun pm c ct us hl => match us, hl with | [_], _ => rfl) fun cdv A_ outer s H E f hr =>
  (pd_lst (pda_cons (p1_e (pd_at M.hob (p1_vw (pv 0)))) pda_nil)) : LamOk P w K mg base 4 (lamI 50) (DL_50 A))
theorem sl_51 : FnScope ["e"] ["e"] lamI_51.sc := ⟨rfl, rfl, rfl, by decide +kernel, rfl, by decide +kernel, by decide +kernel⟩
def DL_51 (A : Ad) : DF := fnD 1 1 (fun i => [0].contains i) (sRet (eLst (aE (eOp (dAt "question") (aVw 0 aNil)) aNil)))
theorem okl_51 {A : Ad} (M : Fx P w K mg base A) : LamOk P w K mg base 4 (LamT.lam 51) (DL_51 A) := (M.lam 51).symm ▸ (ok_lam (l := lamI_51) sl_51 (fun pm c ct us hl => match us, hl with | [_], _ => rfl) fun cdv A_ outer s H E f hr =>
  (pd_lst (pda_cons (p1_e (pd_at M.hob (p1_vw (pv 0)))) pda_nil)) : LamOk P w K mg base 4 (lamI 51) (DL_51 A))
theorem sl_52 : FnScope ["e"] ["e"] lamI_52.sc := ⟨rfl, rfl, rfl, by decide +kernel, rfl, by decide +kernel, by decide +kernel⟩
def DL_52 (A : Ad) : DF := fnD 1 1 (fun i => [0].contains i) (sRet (eLst (aE (eOp (dAt "question") (aVw 0 aNil)) aNil)))
theorem okl_52 {A : Ad} (M : Fx P w K mg base A) : LamOk P w K mg base 4 (LamT.lam 52) (DL_52 A) := (M.lam 52).symm ▸ (ok_lam (l := lamI_52) sl_52 (fun pm c ct us hl => match us, hl with | [_], _ => rfl) fun cdv A_ outer s H E f hr =>
  (pd_lst (pda_cons (p1_e (pd_at M.hob (p1_vw (pv 0)))) pda_nil)) : LamOk P w K mg base 4 (lamI 52) (DL_52 A))
theorem sl_53 : FnScope ["e"] ["e"] lamI_53.sc := ⟨rfl, rfl, rfl, by decide +kernel, rfl, by decide +kernel, by decide +kernel⟩
def DL_53 (A : Ad) : DF := fnD 1 1 (fun i => [0].contains i) (sRet (eLst (aE (eOp (dAt "thing") (aVw 0 aNil)) aNil)))
theorem okl_53 {A : Ad} (M : Fx P w K mg base A) : LamOk P w K mg base 4 (LamT.lam 53) (DL_53 A) := (M.lam 53).symm ▸ (ok_lam (l := lamI_53) sl_53 (fun pm c ct us hl => match us, hl with | [_], _ => rfl) fun cdv A_ outer s H E f hr =>
  (pd_lst (pda_cons (p1_e (pd_at M.hob (p1_vw (pv 0)))) pda_nil)) : LamOk P w K mg base 4 (lamI 53) (DL_53 A))
theorem sl_54 : FnScope ["e"] ["e"] lamI_54.sc := ⟨rfl, rfl, rfl, by decide +kernel, rfl, by decide +kernel, by decide +kernel⟩
def DL_54 (A : Ad) : DF := fnD 1 1 (fun i => [0].contains i) (sRet (eLst aNil))
theorem okl_54 {A : Ad} (M : Fx P w K mg base A) : LamOk P w K mg base 4 (LamT.lam 54) (DL_54 A) := (M.lam 54).symm ▸ (ok_lam (l := lamI_54) sl_54 (fun pm c ct us hl => match us, hl with | [_], _ => rfl) fun cdv A_ outer s H E f hr =>
  (pd_lst pda_nil) : LamOk P w K mg base 4 (lamI 54) (DL_54 A))
theorem sl_55 : FnScope ["e"] ["e"] lamI_55.sc := ⟨rfl, rfl, rfl, by decide +kernel, rfl, by decide +kernel, by decide +kernel⟩
def DL_55 (A : Ad) : DF := fnD 1 1 (fun i => [0].contains i) (sRet (eLst aNil))
theorem okl_55 {A : Ad} (M : Fx P w K mg base A) : LamOk P w K mg base 4 (LamT.lam 55) (DL_55 A) := (M.lam 55).symm ▸ (ok_lam (l := lamI_55) sl_55 (fun pm c ct us hl => match us, hl with | [_], _ => rfl) fun cdv A_ outer s H E f hr =>
  (pd_lst pda_nil) : LamOk P w K mg base 4 (lamI 55) (DL_55 A))
theorem sl_56 : FnScope ["e"] ["e"] lamI_56.sc := ⟨rfl, rfl, rfl, by decide +kernel, rfl, by decide +kernel, by decide +kernel⟩
def DL_56 (A : Ad) : DF := fnD 1 1 (fun i => [0].contains i) (sRet (eLst aNil))
theorem okl_56 {A : Ad} (M : Fx P w K mg base A) : LamOk P w K mg base 4 (LamT.lam 56) (DL_56 A) := (M.lam 56).symm ▸ (ok_lam (l := lamI_56) sl_56 (fun pm c ct us hl => match us, hl with | [_], _ => rfl) fun cdv A_ outer s H E f hr =>
  (pd_lst pda_nil) : LamOk P w K mg base 4 (lamI 56) (DL_56 A))
theorem sl_57 : FnScope ["e"] ["e"] lamI_57.sc := ⟨rfl, rfl, rfl, by decide +kernel, rfl, by decide +kernel, by decide +kernel⟩
def DL_57 (A : Ad) : DF := fnD 1 1 (fun i => [0].contains i) (sRet (eLst (aE (eOp (dAt "cell") (aVw 0 aNil)) (aE (eOp (dAt "other") (aVw 0 aNil)) aNil))))
theorem okl_57 {A : Ad} (M : Fx P w K mg base A) : LamOk P w K mg base 4 (LamT.lam 57) (DL_57 A) := (M.lam 57).symm ▸ (ok_lam (l := lamI_57) sl_57 (fun pm c ct us hl => match us, hl with | [_], _ => rfl) fun cdv A_ outer s H E f hr =>
  (pd_lst (pda_cons (p1_e (pd_at M.hob (p1_vw (pv 0)))) (pda_cons (p1_e (pd_at M.hob (p1_vw (pv 0)))) pda_nil))) : LamOk P w K mg base 4 (lamI 57) (DL_57 A))
theorem sl_58 : FnScope ["e"] ["e"] lamI_58.sc := ⟨rfl, rfl, rfl, by decide +kernel, rfl, by decide +kernel, by decide +kernel⟩
def DL_58 (A : Ad) : DF := fnD 1 1 (fun i => [0].contains i) (sRet (eLst aNil))
theorem okl_58 {A : Ad} (M : Fx P w K mg base A) : LamOk P w K mg base 4 (LamT.lam 58) (DL_58 A) := (M.lam 58).symm ▸ (ok_lam (l := lamI_58) sl_58 (fun pm c ct us hl => match us, hl with | [_], _ => rfl) fun cdv A_ outer s H E f hr =>
  (pd_lst pda_nil) : LamOk P w K mg base 4 (lamI 58) (DL_58 A))
theorem sl_59 : FnScope ["e"] ["e"] lamI_59.sc := ⟨rfl, rfl, rfl, by decide +kernel, rfl, by decide +kernel, by decide +kernel⟩
def DL_59 (A : Ad) : DF := fnD 1 1 (fun i => [0].contains i) (sRet (eLst (aE (eOp (dAt "why") (aVw 0 aNil)) aNil)))
theorem okl_59 {A : Ad} (M : Fx P w K mg base A) : LamOk P w K mg base 4 (LamT.lam 59) (DL_59 A) := (M.lam 59).symm ▸ (ok_lam (l := lamI_59) sl_59 (fun pm c ct us hl => match us, hl with | [_], _ => rfl) fun cdv A_ outer s H E f hr =>
  (pd_lst (pda_cons (p1_e (pd_at M.hob (p1_vw (pv 0)))) pda_nil)) : LamOk P w K mg base 4 (lamI 59) (DL_59 A))
theorem sl_60 : FnScope ["e"] ["e"] lamI_60.sc := ⟨rfl, rfl, rfl, by decide +kernel, rfl, by decide +kernel, by decide +kernel⟩
def DL_60 (A : Ad) : DF := fnD 1 1 (fun i => [0].contains i) (sRet (eLst aNil))
theorem okl_60 {A : Ad} (M : Fx P w K mg base A) : LamOk P w K mg base 4 (LamT.lam 60) (DL_60 A) := (M.lam 60).symm ▸ (ok_lam (l := lamI_60) sl_60 (fun pm c ct us hl => match us, hl with | [_], _ => rfl) fun cdv A_ outer s H E f hr =>
  (pd_lst pda_nil) : LamOk P w K mg base 4 (lamI 60) (DL_60 A))
theorem sl_61 : FnScope ["e"] ["e"] lamI_61.sc := ⟨rfl, rfl, rfl, by decide +kernel, rfl, by decide +kernel, by decide +kernel⟩
def DL_61 (A : Ad) : DF := fnD 1 1 (fun i => [0].contains i) (sRet (eLst (aE (eOp (dAt "question") (aVw 0 aNil)) aNil)))
theorem okl_61 {A : Ad} (M : Fx P w K mg base A) : LamOk P w K mg base 4 (LamT.lam 61) (DL_61 A) := (M.lam 61).symm ▸ (ok_lam (l := lamI_61) sl_61 (fun pm c ct us hl => match us, hl with | [_], _ => rfl) fun cdv A_ outer s H E f hr =>
  (pd_lst (pda_cons (p1_e (pd_at M.hob (p1_vw (pv 0)))) pda_nil)) : LamOk P w K mg base 4 (lamI 61) (DL_61 A))
theorem sl_62 : FnScope ["e"] ["e"] lamI_62.sc := ⟨rfl, rfl, rfl, by decide +kernel, rfl, by decide +kernel, by decide +kernel⟩
def DL_62 (A : Ad) : DF := fnD 1 1 (fun i => [0].contains i) (sRet (eLst (aE (eOp (dAt "question") (aVw 0 aNil)) aNil)))
theorem okl_62 {A : Ad} (M : Fx P w K mg base A) : LamOk P w K mg base 4 (LamT.lam 62) (DL_62 A) := (M.lam 62).symm ▸ (ok_lam (l := lamI_62) sl_62 (fun pm c ct us hl => match us, hl with | [_], _ => rfl) fun cdv A_ outer s H E f hr =>
  (pd_lst (pda_cons (p1_e (pd_at M.hob (p1_vw (pv 0)))) pda_nil)) : LamOk P w K mg base 4 (lamI 62) (DL_62 A))
def made (A : Ad) : Nat → Option DF
  | 0 => some (DL_0 A)
  | 1 => some (DL_1 A)
  | 2 => some (DL_2 A)
  | 3 => some (DL_3 A)
  | 4 => some (DL_4 A)
  | 5 => some (DL_5 A)
  | 6 => some (DL_6 A)
  | 7 => some (DL_7 A)
  | 8 => some (DL_8 A)
  | 9 => some (DL_9 A)
  | 10 => some (DL_10 A)
  | 11 => some (DL_11 A)
  | 12 => some (DL_12 A)
  | 13 => some (DL_13 A)
  | 14 => some (DL_14 A)
  | 15 => some (DL_15 A)
  | 16 => some (DL_16 A)
  | 17 => some (DL_17 A)
  | 18 => some (DL_18 A)
  | 19 => some (DL_19 A)
  | 20 => some (DL_20 A)
  | 21 => some (DL_21 A)
  | 22 => some (DL_22 A)
  | 23 => some (DL_23 A)
  | 24 => some (DL_24 A)
  | 25 => some (DL_25 A)
  | 26 => some (DL_26 A)
  | 27 => some (DL_27 A)
  | 28 => some (DL_28 A)
  | 29 => some (DL_29 A)
  | 30 => some (DL_30 A)
  | 31 => some (DL_31 A)
  | 32 => some (DL_32 A)
  | 33 => some (DL_33 A)
  | 34 => some (DL_34 A)
  | 35 => some (DL_35 A)
  | 36 => some (DL_36 A)
  | 37 => some (DL_37 A)
  | 38 => some (DL_38 A)
  | 39 => some (DL_39 A)
  | 40 => some (DL_40 A)
  | 41 => some (DL_41 A)
  | 42 => some (DL_42 A)
  | 43 => some (DL_43 A)
  | 44 => some (DL_44 A)
  | 45 => some (DL_45 A)
  | 46 => some (DL_46 A)
  | 47 => some (DL_47 A)
  | 48 => some (DL_48 A)
  | 49 => some (DL_49 A)
  | 50 => some (DL_50 A)
  | 51 => some (DL_51 A)
  | 52 => some (DL_52 A)
  | 53 => some (DL_53 A)
  | 54 => some (DL_54 A)
  | 55 => some (DL_55 A)
  | 56 => some (DL_56 A)
  | 57 => some (DL_57 A)
  | 58 => some (DL_58 A)
  | 59 => some (DL_59 A)
  | 60 => some (DL_60 A)
  | 61 => some (DL_61 A)
  | 62 => some (DL_62 A)
  | _ => none
theorem ok_made {A : Ad} (M : Fx P w K mg base A) : ∀ j D, made A j = some D → LamOk P w K mg base 4 (LamT.lam j) D := by
  intro j D h
  unfold made at h
  split at h
  · cases h; exact okl_0 M
  · cases h; exact okl_1 M
  · cases h; exact okl_2 M
  · cases h; exact okl_3 M
  · cases h; exact okl_4 M
  · cases h; exact okl_5 M
  · cases h; exact okl_6 M
  · cases h; exact okl_7 M
  · cases h; exact okl_8 M
  · cases h; exact okl_9 M
  · cases h; exact okl_10 M
  · cases h; exact okl_11 M
  · cases h; exact okl_12 M
  · cases h; exact okl_13 M
  · cases h; exact okl_14 M
  · cases h; exact okl_15 M
  · cases h; exact okl_16 M
  · cases h; exact okl_17 M
  · cases h; exact okl_18 M
  · cases h; exact okl_19 M
  · cases h; exact okl_20 M
  · cases h; exact okl_21 M
  · cases h; exact okl_22 M
  · cases h; exact okl_23 M
  · cases h; exact okl_24 M
  · cases h; exact okl_25 M
  · cases h; exact okl_26 M
  · cases h; exact okl_27 M
  · cases h; exact okl_28 M
  · cases h; exact okl_29 M
  · cases h; exact okl_30 M
  · cases h; exact okl_31 M
  · cases h; exact okl_32 M
  · cases h; exact okl_33 M
  · cases h; exact okl_34 M
  · cases h; exact okl_35 M
  · cases h; exact okl_36 M
  · cases h; exact okl_37 M
  · cases h; exact okl_38 M
  · cases h; exact okl_39 M
  · cases h; exact okl_40 M
  · cases h; exact okl_41 M
  · cases h; exact okl_42 M
  · cases h; exact okl_43 M
  · cases h; exact okl_44 M
  · cases h; exact okl_45 M
  · cases h; exact okl_46 M
  · cases h; exact okl_47 M
  · cases h; exact okl_48 M
  · cases h; exact okl_49 M
  · cases h; exact okl_50 M
  · cases h; exact okl_51 M
  · cases h; exact okl_52 M
  · cases h; exact okl_53 M
  · cases h; exact okl_54 M
  · cases h; exact okl_55 M
  · cases h; exact okl_56 M
  · cases h; exact okl_57 M
  · cases h; exact okl_58 M
  · cases h; exact okl_59 M
  · cases h; exact okl_60 M
  · cases h; exact okl_61 M
  · cases h; exact okl_62 M
  · cases h
end
end K00
set_option Elab.async false
set_option linter.all false
set_option maxRecDepth 100000
set_option maxHeartbeats 4000000
namespace K00
open PySem PySem.Spec PyProof.Rows L2 LamX B
noncomputable section
variable [TabT]
variable {P : Program} {w : World} {K : PySem.W.Frag} {mg : Str → Option Value} {base : Heap}
theorem sc_law : FnScope ["script", "stream", "some", "turn", "x", "y", "z", "made", "at", "mine", "twin", "field", "due", "held", "base"] ["script"] (defScope (top 81)) := ⟨rfl, rfl, rfl, by decide +kernel, rfl, by decide +kernel, by decide +kernel⟩
def D_law (A : Ad) : DF := fnD 15 1 (fun i => [0].contains i) (sSeq (sSet 1 (eCall (D_law_start A) (aVw 0 aNil))) (sSeq (sSetF 2 (eLst (aE (eC .non) (aE (eC (.int 5)) (aE (eOp dNeg (aE (eC (.int 1)) aNil)) (aE (eC (.bl true)) (aE (eC (.str "a")) (aE (eC (.str "")) (aE (eLst (aE (eC (.int 1)) (aE (eC (.str "b")) aNil))) (aE (eTup (aE (eC (.int 2)) (aE (eC .non) aNil))) (aE (eC (.od false [.str "a"] [.int 1])) (aE (eLst (aE (eLst (aE (eC (.str "x")) aNil)) aNil)) (aE (eOp dPow (aE (eC (.int 10)) (aE (eC (.int 30)) aNil))) (aE (eTup (aE (eC (.str "s")) (aE (eC (.int 3)) aNil))) (aE (eC (.bl false)) (aE (eC (.int 0)) (aE (eC (.int 1)) aNil))))))))))))))))) (sSeq (sFor (iRange1 (aE (eC (.int 2)) aNil)) (gSet 3) (sSeq (sAsg (gUnpL 3 (gsCons (gSet 4) (gsCons (gSet 5) (gsCons (gSet 6) gsNil)))) (eOp (dSl false true false) (aE (eCall (D_law_mixed A) (aVw 1 (aVw 2 aNil))) (id (aI (eC (.int 3)) (id aNil)))))) (sSeq (sSet 7 (eOp dAdd (aE (eFr (eOp dAdd (aE (eFr (eCall (D_law_made_a A) (aVw 4 (aVw 5 (aVw 6 aNil))))) (aE (eFr (eCall (D_law_made_b A) (aVw 4 (aVw 5 (aVw 6 aNil))))) aNil)))) (aE (eFr (eCall (D_law_made_c A) (aVw 4 (aVw 5 (aVw 6 aNil))))) aNil)))) (sSeq (sDrop (eMut 7 isOl fExtend (aE (eCall (D_law_made_d A) (aVw 4 (aVw 5 (aVw 6 aNil)))) aNil))) (sSeq (sFor (walkA fEnum (aE (eVM 7) aNil)) (gUnp 2 (gsCons (gSet 8) (gsCons (gUnp 4 (gsCons (gSet 9) (gsCons (gSet 10) (gsCons (gSet 11) (gsCons (gSet 12) gsNil))))) gsNil))) (sSeq (sIf (cOr (cNot (eB (eCall (D_law_is_own A) (aVw 9 (aVw 8 aNil))))) (cNot (eB (eCall (D_law_is_own A) (aVw 10 (aVw 8 aNil)))))) (sSeq (sRet (eC (.bl false))) (sNx)) (sNx)) (sSeq (sIf (cOr (cNot (eB (eCall (D_law_are_these A) (aE (eCallF 11 (made A) (aVw 9 aNil)) (aVw 12 aNil))))) (cNot (eB (eCall (D_law_are_these A) (aE (eCallF 11 (made A) (aVw 10 aNil)) (aVw 12 aNil)))))) (sSeq (sRet (eC (.bl false))) (sNx)) (sNx)) (sNx)))) (sNx)))))) (sSeq (sHeldR 13 "v" "w" (sSeq (sSet 7 (eOp dAdd (aE (eFr (eOp dAdd (aE (eFr (eCall (D_law_made_a A) (aVw 13 (aVw 13 (aVw 13 aNil))))) (aE (eFr (eCall (D_law_made_b A) (aVw 13 (aVw 13 (aVw 13 aNil))))) aNil)))) (aE (eFr (eCall (D_law_made_c A) (aVw 13 (aVw 13 (aVw 13 aNil))))) aNil)))) (sDrop (eMut 7 isOl fExtend (aE (eCall (D_law_made_d A) (aVw 13 (aVw 13 (aVw 13 aNil)))) aNil))))) (sSeq (sFor (iSeq (eVM 7)) (gUnp 4 (gsCons (gSet 9) (gsCons (gSet 10) (gsCons (gSet 11) (gsCons (gSet 12) gsNil))))) (sSeq (sIf (cOr (cNot (eB (eCall (D_law_are_these A) (aE (eCallF 11 (made A) (aVw 9 aNil)) (aVw 12 aNil))))) (cNot (eB (eCall (D_law_are_these A) (aE (eCallF 11 (made A) (aVw 10 aNil)) (aVw 12 aNil)))))) (sSeq (sRet (eC (.bl false))) (sNx)) (sNx)) (sNx))) (sSeq (sSetF 14 (eOp (dMk0 63) aNil)) (sSeq (sRet (vAnd (eOp (dIsC tAll) (aVw 14 aNil)) (eOp (dInA true) (aE (eC (.bl true)) (aE (eCall (D_law_kinds A) (aVw 14 aNil)) aNil))))) (sNx))))))))
theorem ok_law {A : Ad} (M : Fx P w K mg base A) : FnOk P w K mg base (L2.CX P w) 19 A.a_law A.fd_law ["script"] (spD P w K mg (D_law A)) := ok_def (k := 18) M.f_law sc_law fun cdv A_ outer s H E hr =>
  (pdss_cons (pds_set sc_law.nd rfl (.inl rfl) (by rfl) (pd_call (ok_law_start M) (hr.mono (by omega)) rfl M.m_law_start M.f_law_start.kp (bn_law_start M) takes_def (pda_cons (p1_vw (pv 0)) pda_nil))) (pdss_cons (pds_setF sc_law.nd rfl (.inl rfl) (by rfl) (pd_lst (pda_cons (p1_e pd_non) (pda_cons (p1_e pd_int) (pda_cons (p1_e (pd_neg (p1_e pd_int))) (pda_cons (p1_e pd_bl) (pda_cons (p1_e pd_str) (pda_cons (p1_e pd_str) (pda_cons (p1_e (pd_lst (pda_cons (p1_e pd_int) (pda_cons (p1_e pd_str) pda_nil)))) (pda_cons (p1_e (pd_tup (pda_cons (p1_e pd_int) (pda_cons (p1_e pd_non) pda_nil)))) (pda_cons (p1_e (pd_dispS [("a", 1)] (pps_cons pe_str pe_int pps_nil) (by decide) (by decide))) (pda_cons (p1_e (pd_lst (pda_cons (p1_e (pd_lst (pda_cons (p1_e pd_str) pda_nil))) pda_nil))) (pda_cons (p1_e (o_pow (p1_e pd_int) (p1_e pd_int))) (pda_cons (p1_e (pd_tup (pda_cons (p1_e pd_str) (pda_cons (p1_e pd_int) pda_nil)))) (pda_cons (p1_e pd_bl) (pda_cons (p1_e pd_int) (pda_cons (p1_e pd_int) pda_nil))))))))))))))))) (pdss_cons (pds_for (passes_of rfl) rfl (pdi_range1 rfl M.blt.range (pda_cons (p1_e pd_int) pda_nil)) (pdg_name sc_law.nd rfl (.inl rfl) (by rfl)) (pdss_cons (pds_asg (pd_slice (p1_e (pd_call (ok_law_mixed M) (hr.mono (by omega)) rfl M.m_law_mixed M.f_law_mixed.kp (bn_law_mixed M) takes_def (pda_cons (p1_vw (pv 1)) (pda_cons (p1_vw (pv 2)) pda_nil)))) ppart_none (ppart_some pd_int) ppart_none) (pdg_lst rfl (pdgs_cons (pdg_name sc_law.nd rfl (.inl rfl) (by rfl)) (pdgs_cons (pdg_name sc_law.nd rfl (.inl rfl) (by rfl)) (pdgs_cons (pdg_name sc_law.nd rfl (.inl rfl) (by rfl)) pdgs_nil))))) (pdss_cons (pds_set sc_law.nd rfl (.inl rfl) (by rfl) (o_add (p1_e (pd_fr (o_add (p1_e (pd_fr (pd_call (ok_law_made_a M) (hr.mono (by omega)) rfl M.m_law_made_a M.f_law_made_a.kp (bn_law_made_a M) takes_def (pda_cons (p1_vw (pv 4)) (pda_cons (p1_vw (pv 5)) (pda_cons (p1_vw (pv 6)) pda_nil)))))) (p1_e (pd_fr (pd_call (ok_law_made_b M) (hr.mono (by omega)) rfl M.m_law_made_b M.f_law_made_b.kp (bn_law_made_b M) takes_def (pda_cons (p1_vw (pv 4)) (pda_cons (p1_vw (pv 5)) (pda_cons (p1_vw (pv 6)) pda_nil))))))))) (p1_e (pd_fr (pd_call (ok_law_made_c M) (hr.mono (by omega)) rfl M.m_law_made_c M.f_law_made_c.kp (bn_law_made_c M) takes_def (pda_cons (p1_vw (pv 4)) (pda_cons (p1_vw (pv 5)) (pda_cons (p1_vw (pv 6)) pda_nil)))))))) (pdss_cons (pds_expr (m_extend (pv 7) (pda_cons (p1_e (pd_call (ok_law_made_d M) (hr.mono (by omega)) rfl M.m_law_made_d M.f_law_made_d.kp (bn_law_made_d M) takes_def (pda_cons (p1_vw (pv 4)) (pda_cons (p1_vw (pv 5)) (pda_cons (p1_vw (pv 6)) pda_nil))))) pda_nil))) (pdss_cons (pds_for (passes_of rfl) rfl (pdi_enum rfl M.blt.enumerate (pda_cons (p1_e (pd_vm (pv 7))) pda_nil)) (pdg_tup rfl (pdgs_cons (pdg_name sc_law.nd rfl (.inl rfl) (by rfl)) (pdgs_cons (pdg_tup rfl (pdgs_cons (pdg_name sc_law.nd rfl (.inl rfl) (by rfl)) (pdgs_cons (pdg_name sc_law.nd rfl (.inl rfl) (by rfl)) (pdgs_cons (pdg_name sc_law.nd rfl (.inl rfl) (by rfl)) (pdgs_cons (pdg_name sc_law.nd rfl (.inl rfl) (by rfl)) pdgs_nil))))) pdgs_nil))) (pdss_cons (pds_if (PW.pt (pdw_or (pdt_not (pdt_val (pd_call (ok_law_is_own M) (hr.mono (by omega)) rfl M.m_law_is_own M.f_law_is_own.kp (bn_law_is_own M) takes_def (pda_cons (p1_vw (pv 9)) (pda_cons (p1_vw (pv 8)) pda_nil))))) (pdw_or1 (pdt_not (pdt_val (pd_call (ok_law_is_own M) (hr.mono (by omega)) rfl M.m_law_is_own M.f_law_is_own.kp (bn_law_is_own M) takes_def (pda_cons (p1_vw (pv 10)) (pda_cons (p1_vw (pv 8)) pda_nil)))))))) (pdss_cons (pds_ret pd_bl) pdss_nil) pdss_nil) (pdss_cons (pds_if (PW.pt (pdw_or (pdt_not (pdt_val (pd_call (ok_law_are_these M) (hr.mono (by omega)) rfl M.m_law_are_these M.f_law_are_these.kp (bn_law_are_these M) takes_def (pda_cons (p1_e (pd_callF (k := 4) (ok_made M) (hr.mono (by decide)) (pv 11) takes_def (pda_cons (p1_vw (pv 9)) pda_nil))) (pda_cons (p1_vw (pv 12)) pda_nil))))) (pdw_or1 (pdt_not (pdt_val (pd_call (ok_law_are_these M) (hr.mono (by omega)) rfl M.m_law_are_these M.f_law_are_these.kp (bn_law_are_these M) takes_def (pda_cons (p1_e (pd_callF (k := 4) (ok_made M) (hr.mono (by decide)) (pv 11) takes_def (pda_cons (p1_vw (pv 10)) pda_nil))) (pda_cons (p1_vw (pv 12)) pda_nil)))))))) (pdss_cons (pds_ret pd_bl) pdss_nil) pdss_nil) pdss_nil))) pdss_nil))))) (pdss_heldR (i := 13) (vx := "v") (wx := "w") sc_law.nd rfl (.inl rfl) (by rfl) (pv 13) pe_str pe_str (pds_set sc_law.nd rfl (.inl rfl) (by rfl) (o_add (p1_e (pd_fr (o_add (p1_e (pd_fr (pd_call (ok_law_made_a M) (hr.mono (by omega)) rfl M.m_law_made_a M.f_law_made_a.kp (bn_law_made_a M) takes_def (pda_cons (p1_vw (pv 13)) (pda_cons (p1_vw (pv 13)) (pda_cons (p1_vw (pv 13)) pda_nil)))))) (p1_e (pd_fr (pd_call (ok_law_made_b M) (hr.mono (by omega)) rfl M.m_law_made_b M.f_law_made_b.kp (bn_law_made_b M) takes_def (pda_cons (p1_vw (pv 13)) (pda_cons (p1_vw (pv 13)) (pda_cons (p1_vw (pv 13)) pda_nil))))))))) (p1_e (pd_fr (pd_call (ok_law_made_c M) (hr.mono (by omega)) rfl M.m_law_made_c M.f_law_made_c.kp (bn_law_made_c M) takes_def (pda_cons (p1_vw (pv 13)) (pda_cons (p1_vw (pv 13)) (pda_cons (p1_vw (pv 13)) pda_nil)))))))) (pds_expr (m_extend (pv 7) (pda_cons (p1_e (pd_call (ok_law_made_d M) (hr.mono (by omega)) rfl M.m_law_made_d M.f_law_made_d.kp (bn_law_made_d M) takes_def (pda_cons (p1_vw (pv 13)) (pda_cons (p1_vw (pv 13)) (pda_cons (p1_vw (pv 13)) pda_nil))))) pda_nil))) (pdss_cons (pds_for (passes_of rfl) rfl (pdi_seq (pd_vm (pv 7))) (pdg_tup rfl (pdgs_cons (pdg_name sc_law.nd rfl (.inl rfl) (by rfl)) (pdgs_cons (pdg_name sc_law.nd rfl (.inl rfl) (by rfl)) (pdgs_cons (pdg_name sc_law.nd rfl (.inl rfl) (by rfl)) (pdgs_cons (pdg_name sc_law.nd rfl (.inl rfl) (by rfl)) pdgs_nil))))) (pdss_cons (pds_if (PW.pt (pdw_or (pdt_not (pdt_val (pd_call (ok_law_are_these M) (hr.mono (by omega)) rfl M.m_law_are_these M.f_law_are_these.kp (bn_law_are_these M) takes_def (pda_cons (p1_e (pd_callF (k := 4) (ok_made M) (hr.mono (by decide)) (pv 11) takes_def (pda_cons (p1_vw (pv 9)) pda_nil))) (pda_cons (p1_vw (pv 12)) pda_nil))))) (pdw_or1 (pdt_not (pdt_val (pd_call (ok_law_are_these M) (hr.mono (by omega)) rfl M.m_law_are_these M.f_law_are_these.kp (bn_law_are_these M) takes_def (pda_cons (p1_e (pd_callF (k := 4) (ok_made M) (hr.mono (by decide)) (pv 11) takes_def (pda_cons (p1_vw (pv 10)) pda_nil))) (pda_cons (p1_vw (pv 12)) pda_nil)))))))) (pdss_cons (pds_ret pd_bl) pdss_nil) pdss_nil) pdss_nil)) (pdss_cons (pds_setF sc_law.nd rfl (.inl rfl) (by rfl) (pd_mk0 PySem.F.excBase_ValueError M.ez_BoardError.q M.ob_BoardError M.ez_BoardError.gC M.ez_BoardError.kC rfl)) (pdss_cons (pds_ret (pd_and (pd_isC M.is_ValueError M.blt.isinstance (p1_vw (pv 14)) (pe_bltn (v := .ty "ValueError") rfl M.bv_ValueError rfl rfl)) (pd_one (c_notIn hr (p1_e pd_bl) (p1_e (pd_call (ok_law_kinds M) (hr.mono (by omega)) rfl M.m_law_kinds M.f_law_kinds.kp (bn_law_kinds M) takes_def (pda_cons (p1_vw (pv 14)) pda_nil))))))) pdss_nil)))))))
end
end K00
set_option Elab.async false
set_option linter.all false
set_option maxRecDepth 100000
set_option maxHeartbeats 4000000
namespace K00
open PySem PySem.Spec PyProof.Rows L2 LamX B
variable [TabT]
structure SS where
  xs : List Int
  a : Int
  b : Int
  c : Int
def stD (s : SS) : Dat := .ol [.ol (s.xs.map Dat.int), .int s.a, .int s.b, .int s.c]
structure OkS (n : Nat) (s : SS) : Prop where
  xl : s.xs.length ≤ 63
  a0 : 0 ≤ s.a
  b0 : 0 ≤ s.b
  bn : s.b ≤ n
  c0 : 0 ≤ s.c
  cn : s.c < 2147483647
theorem OkS.mono {n m : Nat} {s : SS} (h : OkS n s) (l : n ≤ m) : OkS m s := ⟨h.xl, h.a0, h.b0, Int.le_trans h.bn (by omega), h.c0, h.cn⟩
theorem frzs_ints : ∀ xs : List Int, frzs (xs.map Dat.int) = xs.map Dat.int
  | [] => rfl
  | x :: xs => by rw [List.map_cons, frzs, frzs_ints xs]; rfl
theorem pls_ints : ∀ (n : Nat) (xs : List Int), pls (n + 1) (xs.map Dat.int) = true
  | _, [] => rfl
  | n, x :: xs => by rw [List.map_cons, pls, pls_ints n xs]; rfl
/-- the loop's test -/
def drC : DT := cBor (cAnd (eB (eOp (dEqA) (aE (eOp dIx (aVw 0 (aE (eC (.int 1)) aNil))) (aE (eC (.int 0)) aNil)))) (eB (eOp (dEq true) (aE (eOp dIx (aVw 0 (aE (eC (.int 0)) aNil))) (aE (eLst aNil) aNil)))))
def drB : DS := (sSeq (sSetF 2 (eMut 0 (isOlAt 0) (fAt 0 fPopAt) (aE (eC (.int 0)) aNil))) (sSeq (sStore 0 fSetL (aE (eC (.int 3)) aNil) (eOp dMod (aE (eOp dToInt (aE (eOp dAdd (aE (eOp dAdd (aE (eOp dMul (aE (eOp dIx (aVw 0 (aE (eC (.int 3)) aNil))) (aE (eC (.int 60913)) aNil))) (aVw 2 aNil))) (aE (eC (.int 23)) aNil))) aNil)) (aE (eC (.int 2147483647)) aNil)))) (sSeq (sStore 0 fSetL (aE (eC (.int 1)) aNil) (eIf (eB (eOp (dGe) (aVw 2 (aE (eOp dPow (aE (eC (.int 10)) (aE (eC (.int 18)) aNil))) aNil)))) (eVM 2) (eC (.int 0)))) (sNx))))
theorem dEq_xs (xs : List Int) : dEq true [.lst (xs.map Dat.int), .ol []] = some (.bl (!xs.isEmpty)) := by
  have h : pl 60 (.lst (xs.map Dat.int)) = true := by rw [pl, pls_ints]
  have h2 : dq (.lst (xs.map Dat.int)) (.ol []) = xs.isEmpty := by cases xs <;> rfl
  unfold dEq
  simp only [h, h2]
  rfl
theorem im_ints (xs : List Int) : ims (xs.map Dat.int) = true := by
  induction xs with
  | nil => rfl
  | cons x xs ih => rw [List.map_cons, ims, ih]; rfl
theorem drC_ev (s : SS) (m : Int) (x y z : Option Dat) : drC [some (stD s), some (.int m), x, y, z] = some (.ok (decide (s.a = 0) && !s.xs.isEmpty), [some (stD s), some (.int m), x, y, z]) := by
  have e1 : frz (stD s) = .lst [.lst (s.xs.map Dat.int), .int s.a, .int s.b, .int s.c] := by
    show Dat.lst [.lst (frzs (s.xs.map Dat.int)), _, _, _] = _
    rw [frzs_ints]; rfl
  have e2 : frzE [some (stD s), some (.int m), x, y, z] = [some (.lst [.lst (s.xs.map Dat.int), .int s.a, .int s.b, .int s.c]), some (.int m), x.map frz, y.map frz, z.map frz] := by
    show [some (frz (stD s)), some (.int m), x.map frz, y.map frz, z.map frz] = _
    rw [e1]
  unfold drC cBor
  rw [e2]
  have key : (cAnd (eB (eOp (dEqA) (aE (eOp dIx (aVw 0 (aE (eC (.int 1)) aNil))) (aE (eC (.int 0)) aNil)))) (eB (eOp (dEq true) (aE (eOp dIx (aVw 0 (aE (eC (.int 0)) aNil))) (aE (eLst aNil) aNil))))) [some (.lst [.lst (s.xs.map Dat.int), .int s.a, .int s.b, .int s.c]), some (.int m), x.map frz, y.map frz, z.map frz]
      = some (.ok (decide (s.a = 0) && !s.xs.isEmpty), [some (.lst [.lst (s.xs.map Dat.int), .int s.a, .int s.b, .int s.c]), some (.int m), x.map frz, y.map frz, z.map frz]) := by
    generalize hρ : [some (Dat.lst [.lst (s.xs.map Dat.int), .int s.a, .int s.b, .int s.c]), some (.int m), x.map frz, y.map frz, z.map frz] = ρ
    have h1 : (eB (eOp (dEqA) (aE (eOp dIx (aVw 0 (aE (eC (.int 1)) aNil))) (aE (eC (.int 0)) aNil)))) ρ = some (.ok (decide (s.a = 0)), ρ) := by
      subst hρ
      have : ∀ a : Int, (eB (eOp (dEqA) (aE (eOp dIx (aVw 0 (aE (eC (.int 1)) aNil))) (aE (eC (.int 0)) aNil)))) [some (Dat.lst [.lst (s.xs.map Dat.int), .int a, .int s.b, .int s.c]), some (.int m), x.map frz, y.map frz, z.map frz] = some (.ok (a == 0), [some (Dat.lst [.lst (s.xs.map Dat.int), .int a, .int s.b, .int s.c]), some (.int m), x.map frz, y.map frz, z.map frz]) := fun a => by kernel_rfl
      rw [this]
      rfl
    have h2 : (eB (eOp (dEq true) (aE (eOp dIx (aVw 0 (aE (eC (.int 0)) aNil))) (aE (eLst aNil) aNil)))) ρ = some (.ok (!s.xs.isEmpty), ρ) := by
      have : ∀ f : List Dat → Option Dat, (eB (eOp f (aE (eOp dIx (aVw 0 (aE (eC (.int 0)) aNil))) (aE (eLst aNil) aNil)))) ρ = (eB (eOp (fun _ => f [.lst (s.xs.map Dat.int), .ol []]) (aE (eOp dIx (aVw 0 (aE (eC (.int 0)) aNil))) (aE (eLst aNil) aNil)))) ρ := fun f => by subst hρ; kernel_rfl
      rw [this, dEq_xs]
      subst hρ
      kernel_rfl
    unfold cAnd
    rw [h1, bnd_ok]
    cases decide (s.a = 0) with
    | true => simp only [if_true]; rw [h2]; rfl
    | false => rfl
  rw [key]
def drBF (fm fg : List Dat → Option Dat) : DS := (sSeq (sSetF 2 (eMut 0 (isOlAt 0) (fAt 0 fPopAt) (aE (eC (.int 0)) aNil))) (sSeq (sStore 0 fSetL (aE (eC (.int 3)) aNil) (eOp dMod (aE (eOp dToInt (aE (eOp dAdd (aE (eOp dAdd (aE (eOp fm (aE (eOp dIx (aVw 0 (aE (eC (.int 3)) aNil))) (aE (eC (.int 60913)) aNil))) (aVw 2 aNil))) (aE (eC (.int 23)) aNil))) aNil)) (aE (eC (.int 2147483647)) aNil)))) (sSeq (sStore 0 fSetL (aE (eC (.int 1)) aNil) (eIf (eB (eOp fg (aVw 2 (aE (eOp dPow (aE (eC (.int 10)) (aE (eC (.int 18)) aNil))) aNil)))) (eVM 2) (eC (.int 0)))) (sNx))))
theorem dMul_l {i j : Int} (h : -(2 ^ 64) < i ∧ i < 2 ^ 64) : dMul [.int i, .int j] = some (.int (i * j)) := by
  unfold dMul dMulI dInt2
  simp only [h.1, h.2, decide_true, Bool.and_self, Bool.true_or, if_true]
theorem dMul_r {i j : Int} (h : -(2 ^ 64) < j ∧ j < 2 ^ 64) : dMul [.int i, .int j] = some (.int (i * j)) := by
  unfold dMul dMulI dInt2
  simp only [h.1, h.2, decide_true, Bool.and_self, Bool.or_true, if_true]
theorem popAt0 (x : Int) (xs : List Int) : fPopAt (.ol (.int x :: xs.map Dat.int)) [.int 0] = some (.int x, .ol (xs.map Dat.int)) := by
  have h : seqIndex? 0 ((xs.map Dat.int).length + 1) = some 0 := by
    unfold seqIndex?
    have : (0 : Int) < (((xs.map Dat.int).length + 1 : Nat) : Int) := by omega
    simp only [Int.lt_irrefl, if_false, Int.le_refl, decide_true, this, Bool.and_self, if_true, Int.toNat_zero]
  unfold fPopAt
  simp only [List.length_cons, h]
  rfl
theorem drB_ev (x : Int) (xs : List Int) (b c m : Int) (hc : 0 ≤ c ∧ c < 2147483647) (y : Option Dat) : drB [some (stD ⟨x :: xs, 0, b, c⟩), some (.int m), y, none, none] = some (.nx, [some (stD ⟨xs, if 10 ^ 18 ≤ x then x else 0, b, (c * 60913 + x + 23) % 2147483647⟩), some (.int m), some (.int x), none, none]) := by
  have h1 : drB = drBF dMul dGe := rfl
  have pop : ∀ (fa : Dat → List Dat → Option (Dat × Dat)), (eMut 0 (isOlAt 0) (fAt 0 fa) (aE (eC (.int 0)) aNil)) [some (stD ⟨x :: xs, 0, b, c⟩), some (.int m), y, none, none] = (eMut 0 (isOlAt 0) (fAt 0 fun _ _ => fa (.ol (.int x :: xs.map Dat.int)) [.int 0]) (aE (eC (.int 0)) aNil)) [some (stD ⟨x :: xs, 0, b, c⟩), some (.int m), y, none, none] := fun fa => by kernel_rfl
  have pop2 : (eMut 0 (isOlAt 0) (fAt 0 fPopAt) (aE (eC (.int 0)) aNil)) [some (stD ⟨x :: xs, 0, b, c⟩), some (.int m), y, none, none] = some (.ok (.int x), [some (stD ⟨xs, 0, b, c⟩), some (.int m), y, none, none]) := by
    rw [pop, popAt0]
    kernel_rfl
  have red : ∀ fm fg : List Dat → Option Dat, ∀ (e : DE), (sSeq (sSetF 2 e) (sSeq (sStore 0 fSetL (aE (eC (.int 3)) aNil) (eOp dMod (aE (eOp dToInt (aE (eOp dAdd (aE (eOp dAdd (aE (eOp fm (aE (eOp dIx (aVw 0 (aE (eC (.int 3)) aNil))) (aE (eC (.int 60913)) aNil))) (aVw 2 aNil))) (aE (eC (.int 23)) aNil))) aNil)) (aE (eC (.int 2147483647)) aNil)))) (sSeq (sStore 0 fSetL (aE (eC (.int 1)) aNil) (eIf (eB (eOp fg (aVw 2 (aE (eOp dPow (aE (eC (.int 10)) (aE (eC (.int 18)) aNil))) aNil)))) (eVM 2) (eC (.int 0)))) (sNx)))) [some (stD ⟨x :: xs, 0, b, c⟩), some (.int m), y, none, none]
      = (sSeq (sSetF 2 fun _ => e [some (stD ⟨x :: xs, 0, b, c⟩), some (.int m), y, none, none]) (sSeq (sStore 0 fSetL (aE (eC (.int 3)) aNil) (eOp dMod (aE (eOp dToInt (aE (eOp dAdd (aE (eOp dAdd (aE (eOp fm (aE (eOp dIx (aVw 0 (aE (eC (.int 3)) aNil))) (aE (eC (.int 60913)) aNil))) (aVw 2 aNil))) (aE (eC (.int 23)) aNil))) aNil)) (aE (eC (.int 2147483647)) aNil)))) (sSeq (sStore 0 fSetL (aE (eC (.int 1)) aNil) (eIf (eB (eOp fg (aVw 2 (aE (eOp dPow (aE (eC (.int 10)) (aE (eC (.int 18)) aNil))) aNil)))) (eVM 2) (eC (.int 0)))) (sNx)))) [some (stD ⟨x :: xs, 0, b, c⟩), some (.int m), y, none, none] := fun fm fg e => rfl
  rw [h1]
  unfold drBF
  rw [red, pop2]
  have red2 : ∀ fm fg : List Dat → Option Dat, (sSeq (sSetF 2 fun _ => some (.ok (.int x), [some (stD ⟨xs, 0, b, c⟩), some (.int m), y, none, none])) (sSeq (sStore 0 fSetL (aE (eC (.int 3)) aNil) (eOp dMod (aE (eOp dToInt (aE (eOp dAdd (aE (eOp dAdd (aE (eOp fm (aE (eOp dIx (aVw 0 (aE (eC (.int 3)) aNil))) (aE (eC (.int 60913)) aNil))) (aVw 2 aNil))) (aE (eC (.int 23)) aNil))) aNil)) (aE (eC (.int 2147483647)) aNil)))) (sSeq (sStore 0 fSetL (aE (eC (.int 1)) aNil) (eIf (eB (eOp fg (aVw 2 (aE (eOp dPow (aE (eC (.int 10)) (aE (eC (.int 18)) aNil))) aNil)))) (eVM 2) (eC (.int 0)))) (sNx)))) [some (stD ⟨x :: xs, 0, b, c⟩), some (.int m), y, none, none]
      = (sSeq (sSetF 2 fun _ => some (.ok (.int x), [some (stD ⟨xs, 0, b, c⟩), some (.int m), y, none, none])) (sSeq (sStore 0 fSetL (aE (eC (.int 3)) aNil) (eOp dMod (aE (eOp dToInt (aE (eOp dAdd (aE (eOp dAdd (aE (eOp (fun _ => fm [.int c, .int 60913]) (aE (eOp dIx (aVw 0 (aE (eC (.int 3)) aNil))) (aE (eC (.int 60913)) aNil))) (aVw 2 aNil))) (aE (eC (.int 23)) aNil))) aNil)) (aE (eC (.int 2147483647)) aNil)))) (sSeq (sStore 0 fSetL (aE (eC (.int 1)) aNil) (eIf (eB (eOp fg (aVw 2 (aE (eOp dPow (aE (eC (.int 10)) (aE (eC (.int 18)) aNil))) aNil)))) (eVM 2) (eC (.int 0)))) (sNx)))) [some (stD ⟨x :: xs, 0, b, c⟩), some (.int m), y, none, none] := fun fm fg => by kernel_rfl
  rw [red2, dMul_l ⟨by omega, by omega⟩]
  have red3 : ∀ fg : List Dat → Option Dat, (sSeq (sSetF 2 fun _ => some (.ok (.int x), [some (stD ⟨xs, 0, b, c⟩), some (.int m), y, none, none])) (sSeq (sStore 0 fSetL (aE (eC (.int 3)) aNil) (eOp dMod (aE (eOp dToInt (aE (eOp dAdd (aE (eOp dAdd (aE (eOp (fun _ => some (.int (c * 60913))) (aE (eOp dIx (aVw 0 (aE (eC (.int 3)) aNil))) (aE (eC (.int 60913)) aNil))) (aVw 2 aNil))) (aE (eC (.int 23)) aNil))) aNil)) (aE (eC (.int 2147483647)) aNil)))) (sSeq (sStore 0 fSetL (aE (eC (.int 1)) aNil) (eIf (eB (eOp fg (aVw 2 (aE (eOp dPow (aE (eC (.int 10)) (aE (eC (.int 18)) aNil))) aNil)))) (eVM 2) (eC (.int 0)))) (sNx)))) [some (stD ⟨x :: xs, 0, b, c⟩), some (.int m), y, none, none]
      = (sSeq (sStore 0 fSetL (aE (eC (.int 1)) aNil) (eIf (eB (eOp (fun _ => fg [.int x, .int 1000000000000000000]) (aVw 2 (aE (eOp dPow (aE (eC (.int 10)) (aE (eC (.int 18)) aNil))) aNil)))) (eVM 2) (eC (.int 0)))) (sNx)) [some (stD ⟨xs, 0, b, (c * 60913 + x + 23) % 2147483647⟩), some (.int m), some (.int x), none, none] := fun fg => by kernel_rfl
  rw [red3]
  have hg : dGe [.int x, .int 1000000000000000000] = some (.bl (decide (10 ^ 18 ≤ x))) := rfl
  rw [hg]
  by_cases h : 10 ^ 18 ≤ x
  · rw [if_pos h, decide_eq_true h]; kernel_rfl
  · rw [if_neg h, decide_eq_false h]; kernel_rfl
end K00
set_option Elab.async false
set_option linter.all false
set_option maxRecDepth 100000
set_option maxHeartbeats 4000000
namespace K00
open PySem PySem.Spec PyProof.Rows L2 LamX B
variable [TabT]
theorem while_ok (m : Int) : ∀ (xs : List Int) (n : Nat) (a b c : Int) (y : Option Dat), xs.length < n → 0 ≤ a → 0 ≤ c ∧ c < 2147483647 →
    ∃ xs' a' c' y', whileD drC drB n [some (stD ⟨xs, a, b, c⟩), some (.int m), y, none, none] = some (.nx, [some (stD ⟨xs', a', b, c'⟩), some (.int m), y', none, none]) ∧ xs'.length ≤ xs.length ∧ 0 ≤ a' ∧ 0 ≤ c' ∧ c' < 2147483647
  | xs, 0, a, b, c, y, hn, ha, hc => by omega
  | [], n + 1, a, b, c, y, hn, ha, hc => ⟨[], a, c, y, by
      rw [whileD]
      dsimp only
      rw [drC_ev]
      simp [bndS], Nat.le_refl _, ha, hc.1, hc.2⟩
  | x :: xs, n + 1, a, b, c, y, hn, ha, hc => by
      by_cases h0 : a = 0
      · subst h0
        have ha' : (0 : Int) ≤ (if 10 ^ 18 ≤ x then x else 0) := by split <;> omega
        have hc' : 0 ≤ (c * 60913 + x + 23) % 2147483647 ∧ (c * 60913 + x + 23) % 2147483647 < 2147483647 := ⟨Int.emod_nonneg _ (by decide), Int.emod_lt_of_pos _ (by decide)⟩
        obtain ⟨xs', a', c', y', e, h1, h2⟩ := while_ok m xs n (if 10 ^ 18 ≤ x then x else 0) b ((c * 60913 + x + 23) % 2147483647) (some (.int x)) (by simpa using hn) ha' hc'
        refine ⟨xs', a', c', y', ?_, Nat.le_succ_of_le h1, h2⟩
        rw [whileD]
        dsimp only
        rw [drC_ev]
        simp only [bndS, decide_true, List.isEmpty_cons, Bool.not_false, Bool.and_self, if_true, drB_ev x xs b c m hc y]
        exact e
      · exact ⟨x :: xs, a, c, y, by
          rw [whileD]
          dsimp only
          rw [drC_ev]
          simp [bndS, h0], Nat.le_refl _, ha, hc.1, hc.2⟩
theorem dMod_ok {i j : Int} (h : 0 < j) : dMod [.int i, .int j] = some (.int (i % j)) := by
  unfold dMod dInt2
  simp only [h, decide_true, if_true]
theorem dFdiv_ok {i j : Int} (h : 0 < j) (h2 : j < 1073741824) : dFdiv [.int i, .int j] = some (.int (i / j)) := by
  unfold dFdiv dInt2
  simp only [h, h2, decide_true, Bool.and_self, if_true]
theorem dPow_ok {i j : Int} (h : 0 ≤ j ∧ j ≤ 1000000) (h2 : i.natAbs < 2 ^ 64) : dPow [.int i, .int j] = some (.int (i ^ j.toNat)) := by
  unfold dPow dInt2
  simp only [h.1, h.2, h2, decide_true, Bool.and_self, if_true]
def drR : DS := (sSeq (sIf (eB (eOp (dGt) (aE (eOp dIx (aVw 0 (aE (eC (.int 1)) aNil))) (aE (eC (.int 0)) aNil)))) (sSeq (sSetF 3 (eOp dMod (aE (eOp dToInt (aE (eOp dIx (aVw 0 (aE (eC (.int 1)) aNil))) aNil)) (aVw 1 aNil)))) (sSeq (sStore 0 fSetL (aE (eC (.int 1)) aNil) (eOp dFdiv (aE (eOp dIx (aVw 0 (aE (eC (.int 1)) aNil))) (aVw 1 aNil)))) (sSeq (sRet (eVM 3)) (sNx)))) (sNx)) (sSeq (sSetF 4 (eOp dMod (aE (eOp dToInt (aE (eOp dPow (aE (eOp dAdd (aE (eOp dAdd (aE (eOp dIx (aVw 0 (aE (eC (.int 3)) aNil))) (aE (eOp dMul (aE (eC (.int 8191)) (aE (eOp dIx (aVw 0 (aE (eC (.int 2)) aNil))) aNil))) aNil))) (aE (eC (.int 150067)) aNil))) (aE (eC (.int 5)) aNil))) aNil)) (aE (eC (.int 2147483629)) aNil)))) (sSeq (sRet (eOp dMod (aE (eOp dMod (aE (eOp dToInt (aE (eOp dPow (aE (eOp dAdd (aE (eOp dAdd (aE (eOp dMul (aVw 4 (aE (eC (.int 47017)) aNil))) (aE (eOp dMul (aE (eC (.int 60029)) (aE (eOp dIx (aVw 0 (aE (eC (.int 2)) aNil))) aNil))) aNil))) (aE (eC (.int 59)) aNil))) (aE (eC (.int 3)) aNil))) aNil)) (aE (eC (.int 1000000007)) aNil))) (aVw 1 aNil)))) (sNx))))
theorem ws_storeL {i : Nat} {ix : DA} {e : DE} {b : DS} {ρ : Ev} {QS : Fl → Ev → Prop} (q : WE e ρ fun dv ρ1 => ∃ d0, ρ1[i]? = some (some d0) ∧ WA ix ρ1 fun a ρ2 => ∃ kd, res ρ2 a = some [kd] ∧ ∃ d, ρ2[i]? = some (some d) ∧ ∃ d', fSetL d kd dv = some d' ∧ WS b (ρ2.set i (some d')) QS) : WS (sSeq (sStore i fSetL ix e) b) ρ QS := by
  obtain ⟨dv, ρ1, h1, d0, h2, a, ρ2, h3, kd, h4, d, h5, d', h6, o, ρ3, h7, q⟩ := q
  exact ⟨o, ρ3, by simp only [sSeq, sStore, h1, bndS, h2, h3, h4, h5, h6, sThen, h7], q⟩
theorem rest_ok {s : SS} {n : Nat} (h : OkS n s) (hn : n ≤ 1000000) {m : Int} (hm : 0 < m ∧ m < 1073741824) (y : Option Dat) : WS drR [some (stD s), some (.int m), y, none, none] fun o ρ => ∃ v s' y z u, o = .rt (.int v) ∧ ρ = [some (stD s'), some (.int m), y, z, u] ∧ 0 ≤ v ∧ v < m ∧ OkS n s' := by
  unfold drR
  refine ws_seq (ws_if (wt_ev (k := decide (0 < s.a)) (ρ' := [some (stD s), some (.int m), y, none, none]) (by kernel_rfl) ⟨fun hk => ?_, fun hk => ?_⟩))
  · have ha := of_decide_eq_true hk
    refine ws_setF (we_op (wa_e (we_ev (d := .int s.a) (ρ' := [some (stD s), some (.int m), y, none, none]) (by kernel_rfl) ?_)))
    (repeat (first | refine B.wa_nil ?_ | refine B.wa_vw rfl ?_ | refine B.wa_e ?_ | refine B.we_c ?_ | refine B.we_vm rfl rfl ?_ | refine B.we_mv rfl rfl ?_ | refine B.we_op ?_ | refine B.we_tup ?_ | refine B.we_lst ?_ | refine B.wt_b ?_ | refine B.wt_not ?_ | refine B.ws_setF ?_ | refine B.ws_set ?_ | refine B.ws_drop ?_ | refine B.ws_retq ?_ | refine B.ws_ret ?_ | refine B.ws_nxs ?_ | refine B.we_call ?_ | refine B.we_if ?_ | refine B.we_bor ?_ | refine B.wt_and ?_ | refine B.wt_or ?_ | refine B.we_and ?_ | refine B.ws_par ?_ | refine B.ws_asg ?_ | refine B.ws_for ?_ | refine B.ws_seq (B.ws_if ?_) | refine B.we_lc ?_ | refine B.wi_seq ?_ | refine B.wi_range ?_ | refine B.wi_walk ?_))
    refine ⟨_, rfl, _, dMod_ok hm.1, (by show (3 : Nat) < 5; decide), ?_⟩
    refine ws_storeL (we_op (wa_e (we_ev (d := .int s.a) (ρ' := [some (stD s), some (.int m), y, some (.int (s.a % m)), none]) (by kernel_rfl) ?_)))
    (repeat (first | refine B.wa_nil ?_ | refine B.wa_vw rfl ?_ | refine B.wa_e ?_ | refine B.we_c ?_ | refine B.we_vm rfl rfl ?_ | refine B.we_mv rfl rfl ?_ | refine B.we_op ?_ | refine B.we_tup ?_ | refine B.we_lst ?_ | refine B.wt_b ?_ | refine B.wt_not ?_ | refine B.ws_setF ?_ | refine B.ws_set ?_ | refine B.ws_drop ?_ | refine B.ws_retq ?_ | refine B.ws_ret ?_ | refine B.ws_nxs ?_ | refine B.we_call ?_ | refine B.we_if ?_ | refine B.we_bor ?_ | refine B.wt_and ?_ | refine B.wt_or ?_ | refine B.we_and ?_ | refine B.ws_par ?_ | refine B.ws_asg ?_ | refine B.ws_for ?_ | refine B.ws_seq (B.ws_if ?_) | refine B.we_lc ?_ | refine B.wi_seq ?_ | refine B.wi_range ?_ | refine B.wi_walk ?_))
    refine ⟨_, rfl, _, dFdiv_ok hm.1 hm.2, _, rfl, ?_⟩
    (repeat (first | refine B.wa_nil ?_ | refine B.wa_vw rfl ?_ | refine B.wa_e ?_ | refine B.we_c ?_ | refine B.we_vm rfl rfl ?_ | refine B.we_mv rfl rfl ?_ | refine B.we_op ?_ | refine B.we_tup ?_ | refine B.we_lst ?_ | refine B.wt_b ?_ | refine B.wt_not ?_ | refine B.ws_setF ?_ | refine B.ws_set ?_ | refine B.ws_drop ?_ | refine B.ws_retq ?_ | refine B.ws_ret ?_ | refine B.ws_nxs ?_ | refine B.we_call ?_ | refine B.we_if ?_ | refine B.we_bor ?_ | refine B.wt_and ?_ | refine B.wt_or ?_ | refine B.we_and ?_ | refine B.ws_par ?_ | refine B.ws_asg ?_ | refine B.ws_for ?_ | refine B.ws_seq (B.ws_if ?_) | refine B.we_lc ?_ | refine B.wi_seq ?_ | refine B.wi_range ?_ | refine B.wi_walk ?_))
    refine ⟨_, rfl, _, rfl, _, rfl, ?_⟩
    (repeat (first | refine B.wa_nil ?_ | refine B.wa_vw rfl ?_ | refine B.wa_e ?_ | refine B.we_c ?_ | refine B.we_vm rfl rfl ?_ | refine B.we_mv rfl rfl ?_ | refine B.we_op ?_ | refine B.we_tup ?_ | refine B.we_lst ?_ | refine B.wt_b ?_ | refine B.wt_not ?_ | refine B.ws_setF ?_ | refine B.ws_set ?_ | refine B.ws_drop ?_ | refine B.ws_retq ?_ | refine B.ws_ret ?_ | refine B.ws_nxs ?_ | refine B.we_call ?_ | refine B.we_if ?_ | refine B.we_bor ?_ | refine B.wt_and ?_ | refine B.wt_or ?_ | refine B.we_and ?_ | refine B.ws_par ?_ | refine B.ws_asg ?_ | refine B.ws_for ?_ | refine B.ws_seq (B.ws_if ?_) | refine B.we_lc ?_ | refine B.wi_seq ?_ | refine B.wi_range ?_ | refine B.wi_walk ?_))
    refine ⟨_, ⟨s.xs, s.a / m, s.b, s.c⟩, y, _, _, rfl, rfl, Int.emod_nonneg _ (by omega), Int.emod_lt_of_pos _ hm.1, ⟨h.xl, Int.ediv_nonneg h.a0 (by omega), h.b0, h.bn, h.c0, h.cn⟩⟩
  · refine ws_nxs ?_
    have hb := h.b0
    have hbn := h.bn
    have hc := h.c0
    have hcn := h.cn
    have hm2 : ∀ X : Int, 0 ≤ X % 2147483629 ∧ X % 2147483629 < 2147483629 := fun X => ⟨Int.emod_nonneg _ (by decide), Int.emod_lt_of_pos _ (by decide)⟩
    refine ws_setF (we_op (wa_e (we_op (wa_e (we_op (wa_e (we_ev (d := .int (s.c + 8191 * s.b + 150067)) (ρ' := [some (stD s), some (.int m), y, none, none]) (by kernel_rfl) ?_)))))))
    (repeat (first | refine B.wa_nil ?_ | refine B.wa_vw rfl ?_ | refine B.wa_e ?_ | refine B.we_c ?_ | refine B.we_vm rfl rfl ?_ | refine B.we_mv rfl rfl ?_ | refine B.we_op ?_ | refine B.we_tup ?_ | refine B.we_lst ?_ | refine B.wt_b ?_ | refine B.wt_not ?_ | refine B.ws_setF ?_ | refine B.ws_set ?_ | refine B.ws_drop ?_ | refine B.ws_retq ?_ | refine B.ws_ret ?_ | refine B.ws_nxs ?_ | refine B.we_call ?_ | refine B.we_if ?_ | refine B.we_bor ?_ | refine B.wt_and ?_ | refine B.wt_or ?_ | refine B.we_and ?_ | refine B.ws_par ?_ | refine B.ws_asg ?_ | refine B.ws_for ?_ | refine B.ws_seq (B.ws_if ?_) | refine B.we_lc ?_ | refine B.wi_seq ?_ | refine B.wi_range ?_ | refine B.wi_walk ?_))
    refine ⟨_, rfl, _, dPow_ok ⟨by decide, by decide⟩ (by omega), ?_⟩
    (repeat (first | refine B.wa_nil ?_ | refine B.wa_vw rfl ?_ | refine B.wa_e ?_ | refine B.we_c ?_ | refine B.we_vm rfl rfl ?_ | refine B.we_mv rfl rfl ?_ | refine B.we_op ?_ | refine B.we_tup ?_ | refine B.we_lst ?_ | refine B.wt_b ?_ | refine B.wt_not ?_ | refine B.ws_setF ?_ | refine B.ws_set ?_ | refine B.ws_drop ?_ | refine B.ws_retq ?_ | refine B.ws_ret ?_ | refine B.ws_nxs ?_ | refine B.we_call ?_ | refine B.we_if ?_ | refine B.we_bor ?_ | refine B.wt_and ?_ | refine B.wt_or ?_ | refine B.we_and ?_ | refine B.ws_par ?_ | refine B.ws_asg ?_ | refine B.ws_for ?_ | refine B.ws_seq (B.ws_if ?_) | refine B.we_lc ?_ | refine B.wi_seq ?_ | refine B.wi_range ?_ | refine B.wi_walk ?_))
    refine ⟨_, rfl, _, rfl, ?_⟩
    (repeat (first | refine B.wa_nil ?_ | refine B.wa_vw rfl ?_ | refine B.wa_e ?_ | refine B.we_c ?_ | refine B.we_vm rfl rfl ?_ | refine B.we_mv rfl rfl ?_ | refine B.we_op ?_ | refine B.we_tup ?_ | refine B.we_lst ?_ | refine B.wt_b ?_ | refine B.wt_not ?_ | refine B.ws_setF ?_ | refine B.ws_set ?_ | refine B.ws_drop ?_ | refine B.ws_retq ?_ | refine B.ws_ret ?_ | refine B.ws_nxs ?_ | refine B.we_call ?_ | refine B.we_if ?_ | refine B.we_bor ?_ | refine B.wt_and ?_ | refine B.wt_or ?_ | refine B.we_and ?_ | refine B.ws_par ?_ | refine B.ws_asg ?_ | refine B.ws_for ?_ | refine B.ws_seq (B.ws_if ?_) | refine B.we_lc ?_ | refine B.wi_seq ?_ | refine B.wi_range ?_ | refine B.wi_walk ?_))
    refine ⟨_, rfl, _, dMod_ok (by decide), (by show (4 : Nat) < 5; decide), ?_⟩
    have hm3 := hm2 ((s.c + 8191 * s.b + 150067) ^ (5 : Int).toNat)
    generalize (s.c + 8191 * s.b + 150067) ^ (5 : Int).toNat % 2147483629 = mx at hm3 ⊢
    refine ws_retq (we_op (wa_e (we_op (wa_e (we_op (wa_e (we_op (wa_e (we_op (wa_e (we_op (wa_e (we_op (wa_vw (d := .int mx) rfl (wa_e (we_c (wa_nil ⟨[.int mx, .int 47017], rfl, _, dMul_r ⟨by decide, by decide⟩, ?_⟩)))))))))))))))))
    refine wa_e (we_ev (d := .int (60029 * s.b)) (ρ' := [some (stD s), some (.int m), y, none, some (.int mx)]) (by kernel_rfl) ?_)
    (repeat (first | refine B.wa_nil ?_ | refine B.wa_vw rfl ?_ | refine B.wa_e ?_ | refine B.we_c ?_ | refine B.we_vm rfl rfl ?_ | refine B.we_mv rfl rfl ?_ | refine B.we_op ?_ | refine B.we_tup ?_ | refine B.we_lst ?_ | refine B.wt_b ?_ | refine B.wt_not ?_ | refine B.ws_setF ?_ | refine B.ws_set ?_ | refine B.ws_drop ?_ | refine B.ws_retq ?_ | refine B.ws_ret ?_ | refine B.ws_nxs ?_ | refine B.we_call ?_ | refine B.we_if ?_ | refine B.we_bor ?_ | refine B.wt_and ?_ | refine B.wt_or ?_ | refine B.we_and ?_ | refine B.ws_par ?_ | refine B.ws_asg ?_ | refine B.ws_for ?_ | refine B.ws_seq (B.ws_if ?_) | refine B.we_lc ?_ | refine B.wi_seq ?_ | refine B.wi_range ?_ | refine B.wi_walk ?_))
    refine ⟨_, rfl, _, rfl, ?_⟩
    (repeat (first | refine B.wa_nil ?_ | refine B.wa_vw rfl ?_ | refine B.wa_e ?_ | refine B.we_c ?_ | refine B.we_vm rfl rfl ?_ | refine B.we_mv rfl rfl ?_ | refine B.we_op ?_ | refine B.we_tup ?_ | refine B.we_lst ?_ | refine B.wt_b ?_ | refine B.wt_not ?_ | refine B.ws_setF ?_ | refine B.ws_set ?_ | refine B.ws_drop ?_ | refine B.ws_retq ?_ | refine B.ws_ret ?_ | refine B.ws_nxs ?_ | refine B.we_call ?_ | refine B.we_if ?_ | refine B.we_bor ?_ | refine B.wt_and ?_ | refine B.wt_or ?_ | refine B.we_and ?_ | refine B.ws_par ?_ | refine B.ws_asg ?_ | refine B.ws_for ?_ | refine B.ws_seq (B.ws_if ?_) | refine B.we_lc ?_ | refine B.wi_seq ?_ | refine B.wi_range ?_ | refine B.wi_walk ?_))
    refine ⟨_, rfl, _, rfl, ?_⟩
    (repeat (first | refine B.wa_nil ?_ | refine B.wa_vw rfl ?_ | refine B.wa_e ?_ | refine B.we_c ?_ | refine B.we_vm rfl rfl ?_ | refine B.we_mv rfl rfl ?_ | refine B.we_op ?_ | refine B.we_tup ?_ | refine B.we_lst ?_ | refine B.wt_b ?_ | refine B.wt_not ?_ | refine B.ws_setF ?_ | refine B.ws_set ?_ | refine B.ws_drop ?_ | refine B.ws_retq ?_ | refine B.ws_ret ?_ | refine B.ws_nxs ?_ | refine B.we_call ?_ | refine B.we_if ?_ | refine B.we_bor ?_ | refine B.wt_and ?_ | refine B.wt_or ?_ | refine B.we_and ?_ | refine B.ws_par ?_ | refine B.ws_asg ?_ | refine B.ws_for ?_ | refine B.ws_seq (B.ws_if ?_) | refine B.we_lc ?_ | refine B.wi_seq ?_ | refine B.wi_range ?_ | refine B.wi_walk ?_))
    refine ⟨_, rfl, _, dPow_ok ⟨by decide, by decide⟩ (by omega), ?_⟩
    (repeat (first | refine B.wa_nil ?_ | refine B.wa_vw rfl ?_ | refine B.wa_e ?_ | refine B.we_c ?_ | refine B.we_vm rfl rfl ?_ | refine B.we_mv rfl rfl ?_ | refine B.we_op ?_ | refine B.we_tup ?_ | refine B.we_lst ?_ | refine B.wt_b ?_ | refine B.wt_not ?_ | refine B.ws_setF ?_ | refine B.ws_set ?_ | refine B.ws_drop ?_ | refine B.ws_retq ?_ | refine B.ws_ret ?_ | refine B.ws_nxs ?_ | refine B.we_call ?_ | refine B.we_if ?_ | refine B.we_bor ?_ | refine B.wt_and ?_ | refine B.wt_or ?_ | refine B.we_and ?_ | refine B.ws_par ?_ | refine B.ws_asg ?_ | refine B.ws_for ?_ | refine B.ws_seq (B.ws_if ?_) | refine B.we_lc ?_ | refine B.wi_seq ?_ | refine B.wi_range ?_ | refine B.wi_walk ?_))
    refine ⟨_, rfl, _, rfl, ?_⟩
    (repeat (first | refine B.wa_nil ?_ | refine B.wa_vw rfl ?_ | refine B.wa_e ?_ | refine B.we_c ?_ | refine B.we_vm rfl rfl ?_ | refine B.we_mv rfl rfl ?_ | refine B.we_op ?_ | refine B.we_tup ?_ | refine B.we_lst ?_ | refine B.wt_b ?_ | refine B.wt_not ?_ | refine B.ws_setF ?_ | refine B.ws_set ?_ | refine B.ws_drop ?_ | refine B.ws_retq ?_ | refine B.ws_ret ?_ | refine B.ws_nxs ?_ | refine B.we_call ?_ | refine B.we_if ?_ | refine B.we_bor ?_ | refine B.wt_and ?_ | refine B.wt_or ?_ | refine B.we_and ?_ | refine B.ws_par ?_ | refine B.ws_asg ?_ | refine B.ws_for ?_ | refine B.ws_seq (B.ws_if ?_) | refine B.we_lc ?_ | refine B.wi_seq ?_ | refine B.wi_range ?_ | refine B.wi_walk ?_))
    refine ⟨_, rfl, _, dMod_ok (by decide), ?_⟩
    (repeat (first | refine B.wa_nil ?_ | refine B.wa_vw rfl ?_ | refine B.wa_e ?_ | refine B.we_c ?_ | refine B.we_vm rfl rfl ?_ | refine B.we_mv rfl rfl ?_ | refine B.we_op ?_ | refine B.we_tup ?_ | refine B.we_lst ?_ | refine B.wt_b ?_ | refine B.wt_not ?_ | refine B.ws_setF ?_ | refine B.ws_set ?_ | refine B.ws_drop ?_ | refine B.ws_retq ?_ | refine B.ws_ret ?_ | refine B.ws_nxs ?_ | refine B.we_call ?_ | refine B.we_if ?_ | refine B.we_bor ?_ | refine B.wt_and ?_ | refine B.wt_or ?_ | refine B.we_and ?_ | refine B.ws_par ?_ | refine B.ws_asg ?_ | refine B.ws_for ?_ | refine B.ws_seq (B.ws_if ?_) | refine B.we_lc ?_ | refine B.wi_seq ?_ | refine B.wi_range ?_ | refine B.wi_walk ?_))
    refine ⟨_, rfl, _, dMod_ok hm.1, ?_⟩
    exact ⟨_, s, y, _, _, rfl, rfl, Int.emod_nonneg _ (by omega), Int.emod_lt_of_pos _ hm.1, h⟩
theorem draw_ok (A : Ad) {s : SS} {n : Nat} (h : OkS n s) (hn : n < 1000000) {m : Int} (hm : 0 < m ∧ m < 1073741824) {Q : Dat → Ev → Prop} (q : ∀ v s', 0 ≤ v → v < m → OkS (n + 1) s' → Q (.int v) [some (stD s'), some (.int m)]) : WD (D_law_draw A) [stD s, .int m] Q := by
  have e0 : D_law_draw A = fnD 5 2 (fun i => [0, 1].contains i) (sSeq (sStore 0 fSetL (aE (eC (.int 2)) aNil) (eOp dAdd (aE (eOp dIx (aVw 0 (aE (eC (.int 2)) aNil))) (aE (eC (.int 1)) aNil)))) (sSeq (sWhile (fun _ => 100000) drC drB) drR)) := rfl
  rw [e0]
  refine wd_fn rfl ?_
  refine ws_seq (ws_ev (o := .nx) (ρ' := [some (stD ⟨s.xs, s.a, s.b + 1, s.c⟩), some (.int m), none, none, none]) (by kernel_rfl) ?_)
  obtain ⟨xs', a', c', y', e, h1, h2, h3, h4⟩ := while_ok m s.xs 100000 s.a (s.b + 1) s.c none (by have := h.xl; omega) h.a0 ⟨h.c0, h.cn⟩
  refine ws_seq (ws_ev (o := .nx) (by exact e) ?_)
  have ok : OkS (n + 1) ⟨xs', a', s.b + 1, c'⟩ := ⟨by have := h.xl; show xs'.length ≤ 63; omega, h2, by have := h.b0; show 0 ≤ s.b + 1; omega, by have := h.bn; show s.b + 1 ≤ ((n + 1 : Nat) : Int); omega, h3, h4⟩
  obtain ⟨o, ρ, er, v, s', y, z, u, rfl, rfl, v0, vm, ok'⟩ := rest_ok ok hn hm y'
  exact ⟨_, _, er, q v s' v0 vm ok'⟩
end K00
set_option Elab.async false
set_option linter.all false
set_option maxRecDepth 100000
set_option maxHeartbeats 4000000
namespace K00
open PySem PySem.Spec PyProof.Rows L2 LamX B
variable [TabT]
theorem dLen_ok {c : Dat} {ds : List Dat} (hs : sit c = some ds) : dLen [c] = some (.int ds.length) := by
  cases c <;> simp only [sit] at hs <;> first | cases hs | skip
  all_goals rfl
theorem dList_ok {c : Dat} {ds : List Dat} (hs : sit c = some ds) (hi : ims ds = true) : dList [c] = some (.ol ds) := by
  unfold dList
  simp only [hs, hi, if_true]
theorem we_mut {i : Nat} {chk : Dat → Bool} {f : Dat → List Dat → Option (Dat × Dat)} {as : DA} {ρ : Ev} {Q : Dat → Ev → Prop} (q : ∃ d0, ρ[i]? = some (some d0) ∧ chk d0 = true ∧ WA as ρ fun a ρ1 => ∃ ds, dtsOf a = some ds ∧ ∃ d, ρ1[i]? = some (some d) ∧ ∃ rd d', f d ds = some (rd, d') ∧ Q rd (ρ1.set i (some d'))) : WE (eMut i chk f as) ρ Q := by
  obtain ⟨d0, h0, hc, a, ρ1, h1, ds, h2, d, h3, rd, d', h4, q⟩ := q
  exact ⟨rd, _, by simp only [eMut, h0, hc, if_true, h1, bnd_ok, h2, h3, h4], q⟩
theorem popAt_ok {l : List Dat} {v : Int} (h0 : 0 ≤ v) (hv : v < l.length) (hl : l.length < 1073741824) : ∃ e, l[v.toNat]? = some e ∧ fPopAt (.ol l) [.int v] = some (e, .ol (l.eraseIdx v.toNat)) := by
  have hl' : v.toNat < l.length := by omega
  have e1 : l[v.toNat]? = some l[v.toNat] := List.getElem?_eq_getElem hl'
  have h : seqIndex? v l.length = some v.toNat := by
    unfold seqIndex?
    have : ¬ v < 0 := by omega
    simp only [this, if_false, h0, decide_true, hv, Bool.and_self, if_true]
  refine ⟨_, e1, ?_⟩
  unfold fPopAt
  have : -(2 ^ 63) ≤ v ∧ v < 2 ^ 63 := ⟨by omega, by omega⟩
  simp only [this, and_self, if_true, h, e1]
theorem perm_erase {α : Type} : ∀ (l : List α) (i : Nat) (e : α), l[i]? = some e → l.Perm (e :: l.eraseIdx i)
  | [], _, _, h => by simp at h
  | x :: l, 0, e, h => by simp at h; subst h; exact List.Perm.refl _
  | x :: l, i + 1, e, h => by
    have := perm_erase l i e (by simpa using h)
    rw [List.eraseIdx_cons_succ]
    exact (List.Perm.cons x this).trans (List.Perm.swap e x _)
theorem mixed_ok (A : Ad) {s : SS} {n : Nat} (h : OkS n s) {c : Dat} {ds : List Dat} (hs : sit c = some ds) (hi : ims ds = true) (hl : ds.length ≤ 1000) (hn : n + ds.length < 1000000) {Q : Dat → Ev → Prop} (q : ∀ es s', es.Perm ds → OkS (n + ds.length) s' → Q (.ol es) [some (stD s'), some c]) : WD (D_law_mixed A) [stD s, c] Q := by
  unfold D_law_mixed
  refine wd_fn rfl ?_
  refine ws_set (we_op (wa_vw rfl (wa_nil ⟨_, rfl, _, dList_ok hs hi, (by show (2 : Nat) < 4; decide), ?_⟩)))
  refine ws_retq (we_lc (wi_range (wa_e (we_op (wa_vw rfl (wa_nil ⟨_, rfl, _, dLen_ok rfl, wa_nil ⟨_, rfl, ⟨by omega, by omega⟩, ?_⟩⟩))))))
  have elen : (rngD 0 ((ds.length : Nat) : Int).toNat).length = ds.length := by simp [rngD]
  refine ⟨by rw [elen]; omega, ?_⟩
  obtain ⟨ys, ρ', e1, l, s', rfl, h1, h2, h3⟩ := lcI (g := gSet 3) (c := fun ρ => some (.ok true, ρ)) (e := eMut 2 isOl fPopAt (aE (eCall (D_law_draw A) (aVw 0 (aE (eOp dLen (aVw 2 aNil)) aNil))) aNil)) (vs := [3]) (ds := rngD 0 ((ds.length : Nat) : Int).toNat) (ys0 := []) (ρ := [some (stD s), some c, some (.ol ds), none])
    (fun k ys ρ => ∃ l s', ρ = [some (stD s'), some c, some (.ol l), none] ∧ (ys ++ l).Perm ds ∧ l.length = ds.length - k ∧ OkS (n + k) s') ⟨ds, s, rfl, List.Perm.refl _, rfl, h⟩ (fun k d ρ ys hd ⟨l, s', hρ, hp, hlen, hok⟩ => by
      have hk : k < ds.length := by have := (List.getElem?_eq_some_iff.mp hd).1; rw [elen] at this; exact this
      subst hρ
      refine ⟨_, rfl, wt_ev rfl ⟨fun _ => ?_, fun z => by cases z⟩⟩
      refine we_mut ⟨_, rfl, rfl, wa_e (we_call (wa_vw rfl (wa_e (we_op (wa_vw rfl (wa_nil ⟨_, rfl, _, dLen_ok rfl, wa_nil ⟨_, _, rfl, ?_⟩⟩))))))⟩
      refine draw_ok A hok (by omega) ⟨by omega, by omega⟩ fun v s2 v0 vm h2 => ?_
      obtain ⟨e, he, hpop⟩ := popAt_ok v0 vm (by omega)
      refine wa_nil ⟨_, rfl, _, rfl, _, _, hpop, l.eraseIdx v.toNat, s2, rfl, ?_, ?_, h2⟩
      · refine List.Perm.trans ?_ hp
        rw [List.append_assoc]
        exact List.Perm.append_left ys (perm_erase l _ e he).symm
      · rw [List.length_eraseIdx]
        have := (List.getElem?_eq_some_iff.mp he).1
        rw [if_pos this]; omega)
  refine ⟨ys, _, e1, ?_⟩
  rw [elen] at h2 h3
  have hz : l = [] := List.eq_nil_of_length_eq_zero (by omega)
  subst hz
  exact q ys s' (by simpa using h1) h3
end K00
set_option Elab.async false
set_option linter.all false
set_option maxRecDepth 100000
set_option maxHeartbeats 4000000
namespace K00
open PySem PySem.Spec PyProof.Rows L2 LamX B
def obN : List (List Str) := [([("index" : Str)] : List Str), ([("index" : Str)] : List Str), ([("thing" : Str)] : List Str), ([("thing" : Str)] : List Str), ([("thing" : Str)] : List Str), ([("thing" : Str)] : List Str), ([("index" : Str)] : List Str), ([("thing" : Str)] : List Str), ([("thing" : Str)] : List Str), ([("thing" : Str)] : List Str), ([("deed" : Str)] : List Str), ([("index" : Str)] : List Str), ([("index" : Str)] : List Str), ([("thing" : Str)] : List Str), ([("thing" : Str)] : List Str), ([("index" : Str)] : List Str), ([("thing" : Str)] : List Str), ([("index" : Str)] : List Str), ([("thing" : Str)] : List Str), ([("fault" : Str)] : List Str), ([("thing" : Str)] : List Str), ([("thing" : Str)] : List Str), ([("thing" : Str)] : List Str), ([("thing" : Str)] : List Str), ([("thing" : Str)] : List Str), ([("thing" : Str)] : List Str), ([("thing" : Str)] : List Str), ([("thing" : Str)] : List Str), ([("thing" : Str)] : List Str), ([("thing" : Str)] : List Str), ([("thing" : Str)] : List Str), ([("thing" : Str)] : List Str), ([("index" : Str)] : List Str), ([("thing" : Str)] : List Str), ([("thing" : Str)] : List Str), ([("thing" : Str)] : List Str), ([("thing" : Str)] : List Str), ([("index" : Str)] : List Str), ([("index" : Str)] : List Str), ([("sign" : Str), ("line" : Str)] : List Str), ([("thing" : Str)] : List Str), ([("index" : Str)] : List Str), ([("index" : Str)] : List Str), ([("thing" : Str)] : List Str), ([("thing" : Str)] : List Str), ([("thing" : Str)] : List Str), ([("index" : Str)] : List Str), ([("thing" : Str)] : List Str), ([("fault" : Str)] : List Str), ([("thing" : Str)] : List Str), ([("cell" : Str)] : List Str), ([("question" : Str)] : List Str), ([("question" : Str)] : List Str), ([("thing" : Str)] : List Str), ([] : List Str), ([] : List Str), ([] : List Str), ([("other" : Str), ("cell" : Str)] : List Str), ([] : List Str), ([("why" : Str)] : List Str), ([] : List Str), ([("question" : Str)] : List Str), ([("question" : Str)] : List Str), ([] : List Str)]
def two (c : Nat) : Bool := c == 39 || c == 57
def zero (c : Nat) : Bool := c == 54 || c == 55 || c == 56 || c == 58 || c == 60
def flds (x y : Dat) (c : Nat) : List Dat := if two c = true then [y, x] else if zero c = true then [] else [x]
def due (x y : Dat) (c : Nat) : List Dat := if two c = true then [x, y] else if zero c = true then [] else [x]
def ent (x y : Dat) (c : Nat) : Dat := .tup [.ob c (flds x y c), .ob c (flds x y c), .fn c, .ol (due x y c)]
def entF (x y : Dat) (c : Nat) : Dat := .tup [.ob c (flds x y c), .ob c (flds x y c), .fn c, .lst (due x y c)]
variable [TabT]
/-- the fields of the classes told as data -/
def ObF : Prop := ∀ c, (LamT.ob c).2 = obN.getD c []
section
variable {x y z : Dat} {L : List Dat} {b : DS} {Q : Fl → Ev → Prop}
theorem ln1 {c : Nat} (hn : ([] : List Str).length + 1 = (LamT.ob c).2.length) (ix : im x = true) (hl : L.length.ble 1000 = true) (q : WS b [some x, some y, some z, some (.ol (L ++ [.tup [.ob c [x], .ob c [x], .fn c, .ol [x]]]))] Q) :
    WS (sSeq (sDrop (eMut 3 isOl fAppend (aE (eTup (aE (eOp (dMk c) (aVw 0 aNil)) (aE (eOp (dMk c) (aVw 0 aNil)) (aE (eC (.fn c)) (aE (eLst (aE (eVM 0) aNil)) aNil))))) aNil))) b) [some x, some y, some z, some (.ol L)] Q := by
  have e1 : dMk c [x] = some (.ob c [x]) := if_pos ⟨ix, hn.symm⟩
  have e2 : fAppend (.ol L) [.tup [.ob c [x], .ob c [x], .fn c, .ol [x]]] = some (.non, .ol (L ++ [.tup [.ob c [x], .ob c [x], .fn c, .ol [x]]])) := if_pos (by have := Nat.le_of_ble_eq_true hl; omega)
  refine ws_drop (we_mut ⟨.ol L, rfl, rfl, wa_e (we_tup ?_)⟩)
  refine wa_e (we_op (wa_vw (d := x) rfl (wa_nil ⟨[x], rfl, _, e1, ?_⟩)))
  refine wa_e (we_op (wa_vw (d := x) rfl (wa_nil ⟨[x], rfl, _, e1, ?_⟩)))
  refine wa_e (we_c (wa_e (we_lst (wa_e (we_vm (d := x) rfl ix (wa_nil ⟨[x], rfl, (by simp), ?_⟩))))))
  exact wa_nil ⟨_, rfl, (by simp), wa_nil ⟨_, rfl, _, rfl, _, _, e2, q⟩⟩
theorem ln2 {c : Nat} (hn : ([] : List Str).length + 2 = (LamT.ob c).2.length) (ix : im x = true) (iy : im y = true) (hl : L.length.ble 1000 = true) (q : WS b [some x, some y, some z, some (.ol (L ++ [.tup [.ob c [y, x], .ob c [y, x], .fn c, .ol [x, y]]]))] Q) :
    WS (sSeq (sDrop (eMut 3 isOl fAppend (aE (eTup (aE (eOp (dMk2 c) (aVw 0 (aVw 1 aNil))) (aE (eOp (dMk2K c) (aVw 1 (aVw 0 aNil))) (aE (eC (.fn c)) (aE (eLst (aE (eVM 0) (aE (eVM 1) aNil))) aNil))))) aNil))) b) [some x, some y, some z, some (.ol L)] Q := by
  have e1 : dMk2 c [x, y] = some (.ob c [y, x]) := if_pos ⟨ix, iy, hn.symm⟩
  have e1' : dMk2K c [y, x] = some (.ob c [y, x]) := e1
  have e2 : fAppend (.ol L) [.tup [.ob c [y, x], .ob c [y, x], .fn c, .ol [x, y]]] = some (.non, .ol (L ++ [.tup [.ob c [y, x], .ob c [y, x], .fn c, .ol [x, y]]])) := if_pos (by have := Nat.le_of_ble_eq_true hl; omega)
  refine ws_drop (we_mut ⟨.ol L, rfl, rfl, wa_e (we_tup ?_)⟩)
  refine wa_e (we_op (wa_vw (d := x) rfl (wa_vw (d := y) rfl (wa_nil ⟨[x, y], rfl, _, e1, ?_⟩))))
  refine wa_e (we_op (wa_vw (d := y) rfl (wa_vw (d := x) rfl (wa_nil ⟨[y, x], rfl, _, e1', ?_⟩))))
  refine wa_e (we_c (wa_e (we_lst (wa_e (we_vm (d := x) rfl ix (wa_e (we_vm (d := y) rfl iy (wa_nil ⟨[x, y], rfl, (by simp), ?_⟩))))))))
  exact wa_nil ⟨_, rfl, (by simp), wa_nil ⟨_, rfl, _, rfl, _, _, e2, q⟩⟩
theorem ln0 {c : Nat} (hn : (LamT.ob c).2 = []) (hl : L.length.ble 1000 = true) (q : WS b [some x, some y, some z, some (.ol (L ++ [.tup [.ob c [], .ob c [], .fn c, .ol []]]))] Q) :
    WS (sSeq (sDrop (eMut 3 isOl fAppend (aE (eTup (aE (eOp (dMk0 c) aNil) (aE (eOp (dMk0 c) aNil) (aE (eC (.fn c)) (aE (eLst aNil) aNil))))) aNil))) b) [some x, some y, some z, some (.ol L)] Q := by
  have e1 : dMk0 c [] = some (.ob c []) := if_pos hn
  have e2 : fAppend (.ol L) [.tup [.ob c [], .ob c [], .fn c, .ol []]] = some (.non, .ol (L ++ [.tup [.ob c [], .ob c [], .fn c, .ol []]])) := if_pos (by have := Nat.le_of_ble_eq_true hl; omega)
  refine ws_drop (we_mut ⟨.ol L, rfl, rfl, wa_e (we_tup ?_)⟩)
  refine wa_e (we_op (wa_nil ⟨[], rfl, _, e1, ?_⟩))
  refine wa_e (we_op (wa_nil ⟨[], rfl, _, e1, ?_⟩))
  refine wa_e (we_c (wa_e (we_lst (wa_nil ⟨[], rfl, (by simp), ?_⟩))))
  exact wa_nil ⟨_, rfl, (by simp), wa_nil ⟨_, rfl, _, rfl, _, _, e2, q⟩⟩
end
theorem made_a (A : Ad) (ON : ObF) {x y z : Dat} (ix : im x = true) (iy : im y = true) : ∃ ev, D_law_made_a A [x, y, z] = some (.ok (.ol ((List.range' 0 18).map (ent x y))), ev) ∧ ev = [some x, some y, some z] := by
  have key : WD (D_law_made_a A) [x, y, z] fun d ev => d = .ol ((List.range' 0 18).map (ent x y)) ∧ ev = [some x, some y, some z] := by
    unfold D_law_made_a
    refine wd_fn rfl (ws_set (we_lst (wa_nil ⟨[], rfl, (by simp), by show (3 : Nat) < 4; decide, ?_⟩)))
    show WS _ [some x, some y, some z, some (.ol [])] _
    refine ln1 (by rw [ON 0]; rfl) ix (by kernel_rfl) ?_
    refine ln1 (by rw [ON 1]; rfl) ix (by kernel_rfl) ?_
    refine ln1 (by rw [ON 2]; rfl) ix (by kernel_rfl) ?_
    refine ln1 (by rw [ON 3]; rfl) ix (by kernel_rfl) ?_
    refine ln1 (by rw [ON 4]; rfl) ix (by kernel_rfl) ?_
    refine ln1 (by rw [ON 5]; rfl) ix (by kernel_rfl) ?_
    refine ln1 (by rw [ON 6]; rfl) ix (by kernel_rfl) ?_
    refine ln1 (by rw [ON 7]; rfl) ix (by kernel_rfl) ?_
    refine ln1 (by rw [ON 8]; rfl) ix (by kernel_rfl) ?_
    refine ln1 (by rw [ON 9]; rfl) ix (by kernel_rfl) ?_
    refine ln1 (by rw [ON 10]; rfl) ix (by kernel_rfl) ?_
    refine ln1 (by rw [ON 11]; rfl) ix (by kernel_rfl) ?_
    refine ln1 (by rw [ON 12]; rfl) ix (by kernel_rfl) ?_
    refine ln1 (by rw [ON 13]; rfl) ix (by kernel_rfl) ?_
    refine ln1 (by rw [ON 14]; rfl) ix (by kernel_rfl) ?_
    refine ln1 (by rw [ON 15]; rfl) ix (by kernel_rfl) ?_
    refine ln1 (by rw [ON 16]; rfl) ix (by kernel_rfl) ?_
    refine ln1 (by rw [ON 17]; rfl) ix (by kernel_rfl) ?_
    exact ws_retq (we_mv rfl rfl ⟨by kernel_rfl, rfl⟩)
  obtain ⟨d, ev, e, rfl, h⟩ := key
  exact ⟨ev, e, h⟩
theorem made_b (A : Ad) (ON : ObF) {x y z : Dat} (ix : im x = true) (iy : im y = true) : ∃ ev, D_law_made_b A [x, y, z] = some (.ok (.ol ((List.range' 18 18).map (ent x y))), ev) ∧ ev = [some x, some y, some z] := by
  have key : WD (D_law_made_b A) [x, y, z] fun d ev => d = .ol ((List.range' 18 18).map (ent x y)) ∧ ev = [some x, some y, some z] := by
    unfold D_law_made_b
    refine wd_fn rfl (ws_set (we_lst (wa_nil ⟨[], rfl, (by simp), by show (3 : Nat) < 4; decide, ?_⟩)))
    show WS _ [some x, some y, some z, some (.ol [])] _
    refine ln1 (by rw [ON 18]; rfl) ix (by kernel_rfl) ?_
    refine ln1 (by rw [ON 19]; rfl) ix (by kernel_rfl) ?_
    refine ln1 (by rw [ON 20]; rfl) ix (by kernel_rfl) ?_
    refine ln1 (by rw [ON 21]; rfl) ix (by kernel_rfl) ?_
    refine ln1 (by rw [ON 22]; rfl) ix (by kernel_rfl) ?_
    refine ln1 (by rw [ON 23]; rfl) ix (by kernel_rfl) ?_
    refine ln1 (by rw [ON 24]; rfl) ix (by kernel_rfl) ?_
    refine ln1 (by rw [ON 25]; rfl) ix (by kernel_rfl) ?_
    refine ln1 (by rw [ON 26]; rfl) ix (by kernel_rfl) ?_
    refine ln1 (by rw [ON 27]; rfl) ix (by kernel_rfl) ?_
    refine ln1 (by rw [ON 28]; rfl) ix (by kernel_rfl) ?_
    refine ln1 (by rw [ON 29]; rfl) ix (by kernel_rfl) ?_
    refine ln1 (by rw [ON 30]; rfl) ix (by kernel_rfl) ?_
    refine ln1 (by rw [ON 31]; rfl) ix (by kernel_rfl) ?_
    refine ln1 (by rw [ON 32]; rfl) ix (by kernel_rfl) ?_
    refine ln1 (by rw [ON 33]; rfl) ix (by kernel_rfl) ?_
    refine ln1 (by rw [ON 34]; rfl) ix (by kernel_rfl) ?_
    refine ln1 (by rw [ON 35]; rfl) ix (by kernel_rfl) ?_
    exact ws_retq (we_mv rfl rfl ⟨by kernel_rfl, rfl⟩)
  obtain ⟨d, ev, e, rfl, h⟩ := key
  exact ⟨ev, e, h⟩
theorem made_c (A : Ad) (ON : ObF) {x y z : Dat} (ix : im x = true) (iy : im y = true) : ∃ ev, D_law_made_c A [x, y, z] = some (.ok (.ol ((List.range' 36 18).map (ent x y))), ev) ∧ ev = [some x, some y, some z] := by
  have key : WD (D_law_made_c A) [x, y, z] fun d ev => d = .ol ((List.range' 36 18).map (ent x y)) ∧ ev = [some x, some y, some z] := by
    unfold D_law_made_c
    refine wd_fn rfl (ws_set (we_lst (wa_nil ⟨[], rfl, (by simp), by show (3 : Nat) < 4; decide, ?_⟩)))
    show WS _ [some x, some y, some z, some (.ol [])] _
    refine ln1 (by rw [ON 36]; rfl) ix (by kernel_rfl) ?_
    refine ln1 (by rw [ON 37]; rfl) ix (by kernel_rfl) ?_
    refine ln1 (by rw [ON 38]; rfl) ix (by kernel_rfl) ?_
    refine ln2 (by rw [ON 39]; rfl) ix iy (by kernel_rfl) ?_
    refine ln1 (by rw [ON 40]; rfl) ix (by kernel_rfl) ?_
    refine ln1 (by rw [ON 41]; rfl) ix (by kernel_rfl) ?_
    refine ln1 (by rw [ON 42]; rfl) ix (by kernel_rfl) ?_
    refine ln1 (by rw [ON 43]; rfl) ix (by kernel_rfl) ?_
    refine ln1 (by rw [ON 44]; rfl) ix (by kernel_rfl) ?_
    refine ln1 (by rw [ON 45]; rfl) ix (by kernel_rfl) ?_
    refine ln1 (by rw [ON 46]; rfl) ix (by kernel_rfl) ?_
    refine ln1 (by rw [ON 47]; rfl) ix (by kernel_rfl) ?_
    refine ln1 (by rw [ON 48]; rfl) ix (by kernel_rfl) ?_
    refine ln1 (by rw [ON 49]; rfl) ix (by kernel_rfl) ?_
    refine ln1 (by rw [ON 50]; rfl) ix (by kernel_rfl) ?_
    refine ln1 (by rw [ON 51]; rfl) ix (by kernel_rfl) ?_
    refine ln1 (by rw [ON 52]; rfl) ix (by kernel_rfl) ?_
    refine ln1 (by rw [ON 53]; rfl) ix (by kernel_rfl) ?_
    exact ws_retq (we_mv rfl rfl ⟨by kernel_rfl, rfl⟩)
  obtain ⟨d, ev, e, rfl, h⟩ := key
  exact ⟨ev, e, h⟩
theorem made_d (A : Ad) (ON : ObF) {x y z : Dat} (ix : im x = true) (iy : im y = true) : ∃ ev, D_law_made_d A [x, y, z] = some (.ok (.ol ((List.range' 54 9).map (ent x y))), ev) ∧ ev = [some x, some y, some z] := by
  have key : WD (D_law_made_d A) [x, y, z] fun d ev => d = .ol ((List.range' 54 9).map (ent x y)) ∧ ev = [some x, some y, some z] := by
    unfold D_law_made_d
    refine wd_fn rfl (ws_set (we_lst (wa_nil ⟨[], rfl, (by simp), by show (3 : Nat) < 4; decide, ?_⟩)))
    show WS _ [some x, some y, some z, some (.ol [])] _
    refine ln0 (by rw [ON 54]; rfl) (by kernel_rfl) ?_
    refine ln0 (by rw [ON 55]; rfl) (by kernel_rfl) ?_
    refine ln0 (by rw [ON 56]; rfl) (by kernel_rfl) ?_
    refine ln2 (by rw [ON 57]; rfl) ix iy (by kernel_rfl) ?_
    refine ln0 (by rw [ON 58]; rfl) (by kernel_rfl) ?_
    refine ln1 (by rw [ON 59]; rfl) ix (by kernel_rfl) ?_
    refine ln0 (by rw [ON 60]; rfl) (by kernel_rfl) ?_
    refine ln1 (by rw [ON 61]; rfl) ix (by kernel_rfl) ?_
    refine ln1 (by rw [ON 62]; rfl) ix (by kernel_rfl) ?_
    exact ws_retq (we_mv rfl rfl ⟨by kernel_rfl, rfl⟩)
  obtain ⟨d, ev, e, rfl, h⟩ := key
  exact ⟨ev, e, h⟩
end K00
set_option Elab.async false
set_option linter.all false
set_option maxRecDepth 100000
set_option maxHeartbeats 4000000
namespace K00
open PySem PySem.Spec PyProof.Rows L2 LamX B
variable [TabT]
theorem of_maps {α : Type} {n : Nat} {f g : Nat → α} (h : (List.range n).map f = (List.range n).map g) {k : Nat} (hk : k < n) : f k = g k := by
  have q := congrArg (fun l => l[k]?) h
  simp only [List.getElem?_map, List.getElem?_range hk, Option.map_some] at q
  exact Option.some.inj q
theorem own_all (A : Ad) (ds : Nat → List Dat) : (List.range 63).map (fun k => D_law_is_own A [.ob k (ds k), .int (k : Int)]) = (List.range 63).map (fun k => some (.ok (.bl true), [some (.ob k (ds k)), some (.int (k : Int))])) := by kernel_rfl
theorem own_ok (A : Ad) {k : Nat} (hk : k < 63) (ds : List Dat) : D_law_is_own A [.ob k ds, .int (k : Int)] = some (.ok (.bl true), [some (.ob k ds), some (.int (k : Int))]) :=
  of_maps (own_all A fun _ => ds) hk
theorem base_kinds (A : Ad) : D_law_kinds A [.ob 63 []] = some (.ok (.ol ((List.range 63).map fun _ => .bl false)), [some (.ob 63 [])]) := by kernel_rfl
/-- what is drawn from -/
def some0 : List Dat := [.non, .int 5, .int (-1), .bl true, .str "a", .str "", .lst [.int 1, .str "b"], .tup [.int 2, .non], .dic false [.str "a"] [.int 1], .lst [.lst [.str "x"]], .int (10 ^ 30), .tup [.str "s", .int 3], .bl false, .int 0, .int 1]
theorem same_1 (A : Ad) : some0.map (fun x => D_law_same A 12 [.lst [x], .lst [x]]) = some0.map fun x => some (.ok (.bl true), [some (.lst [x]), some (.lst [x])]) := by kernel_rfl
end K00
set_option Elab.async false
set_option linter.all false
set_option maxRecDepth 100000
set_option maxHeartbeats 4000000
namespace K00
open PySem PySem.Spec PyProof.Rows L2 LamX B
variable [TabT]
theorem look1 {f : Str} {x : Dat} {fs : List (Str × Dat)} : List.lookup f ((f, x) :: fs) = some x := by
  rw [List.lookup_cons, show (f == f) = true from by simp]
theorem look2 {f g : Str} {x : Dat} {fs : List (Str × Dat)} (h : f ≠ g) : List.lookup f ((g, x) :: fs) = List.lookup f fs := by
  rw [List.lookup_cons, show (f == g) = false from by simpa using h]
theorem lmd1 {c : Nat} {f : Str} {x : Dat} (h : (LamT.ob c).2 = [f]) : WD (fnD 1 1 (fun i => [0].contains i) (sRet (eLst (aE (eOp (dAt f) (aVw 0 aNil)) aNil)))) [.ob c [x]] fun d ev => d = .ol [x] ∧ ev = [some (.ob c [x])] := by
  have e : dAt f [.ob c [x]] = some x := by
    show List.lookup f ((LamT.ob c).2.zip [x]) = some x
    rw [h]; exact look1
  exact wd_fn rfl (ws_ret (we_lst (wa_e (we_op (wa_vw (d := .ob c [x]) rfl (wa_nil ⟨_, rfl, _, e, wa_nil ⟨[x], rfl, (by simp), rfl, rfl⟩⟩))))))
theorem lmd2 {c : Nat} {f g : Str} {x y : Dat} (h : (LamT.ob c).2 = [g, f]) (hn : f ≠ g) : WD (fnD 1 1 (fun i => [0].contains i) (sRet (eLst (aE (eOp (dAt f) (aVw 0 aNil)) (aE (eOp (dAt g) (aVw 0 aNil)) aNil))))) [.ob c [y, x]] fun d ev => d = .ol [x, y] ∧ ev = [some (.ob c [y, x])] := by
  have e1 : dAt f [.ob c [y, x]] = some x := by
    show List.lookup f ((LamT.ob c).2.zip [y, x]) = some x
    rw [h]; exact (look2 hn).trans look1
  have e2 : dAt g [.ob c [y, x]] = some y := by
    show List.lookup g ((LamT.ob c).2.zip [y, x]) = some y
    rw [h]; exact look1
  exact wd_fn rfl (ws_ret (we_lst (wa_e (we_op (wa_vw (d := .ob c [y, x]) rfl (wa_nil ⟨_, rfl, _, e1, wa_e (we_op (wa_vw (d := .ob c [y, x]) rfl (wa_nil ⟨_, rfl, _, e2, wa_nil ⟨[x, y], rfl, (by simp), rfl, rfl⟩⟩)))⟩))))))
theorem lmd0 {o : Dat} (io : im o = true) : WD (fnD 1 1 (fun i => [0].contains i) (sRet (eLst aNil))) [o] fun d ev => d = .ol [] ∧ ev = [some o] :=
  wd_fn rfl (ws_ret (we_lst (wa_nil ⟨[], rfl, (by simp), rfl, rfl⟩)))
theorem lm_all (A : Ad) (ON : ObF) {x y : Dat} : ∀ k, k < 63 → ∃ D, made A k = some D ∧ WD D [.ob k (flds x y k)] fun d ev => d = .ol (due x y k) ∧ ev = [some (.ob k (flds x y k))]
  | 0, _ => ⟨DL_0 A, rfl, lmd1 (by rw [ON 0]; rfl)⟩
  | 1, _ => ⟨DL_1 A, rfl, lmd1 (by rw [ON 1]; rfl)⟩
  | 2, _ => ⟨DL_2 A, rfl, lmd1 (by rw [ON 2]; rfl)⟩
  | 3, _ => ⟨DL_3 A, rfl, lmd1 (by rw [ON 3]; rfl)⟩
  | 4, _ => ⟨DL_4 A, rfl, lmd1 (by rw [ON 4]; rfl)⟩
  | 5, _ => ⟨DL_5 A, rfl, lmd1 (by rw [ON 5]; rfl)⟩
  | 6, _ => ⟨DL_6 A, rfl, lmd1 (by rw [ON 6]; rfl)⟩
  | 7, _ => ⟨DL_7 A, rfl, lmd1 (by rw [ON 7]; rfl)⟩
  | 8, _ => ⟨DL_8 A, rfl, lmd1 (by rw [ON 8]; rfl)⟩
  | 9, _ => ⟨DL_9 A, rfl, lmd1 (by rw [ON 9]; rfl)⟩
  | 10, _ => ⟨DL_10 A, rfl, lmd1 (by rw [ON 10]; rfl)⟩
  | 11, _ => ⟨DL_11 A, rfl, lmd1 (by rw [ON 11]; rfl)⟩
  | 12, _ => ⟨DL_12 A, rfl, lmd1 (by rw [ON 12]; rfl)⟩
  | 13, _ => ⟨DL_13 A, rfl, lmd1 (by rw [ON 13]; rfl)⟩
  | 14, _ => ⟨DL_14 A, rfl, lmd1 (by rw [ON 14]; rfl)⟩
  | 15, _ => ⟨DL_15 A, rfl, lmd1 (by rw [ON 15]; rfl)⟩
  | 16, _ => ⟨DL_16 A, rfl, lmd1 (by rw [ON 16]; rfl)⟩
  | 17, _ => ⟨DL_17 A, rfl, lmd1 (by rw [ON 17]; rfl)⟩
  | 18, _ => ⟨DL_18 A, rfl, lmd1 (by rw [ON 18]; rfl)⟩
  | 19, _ => ⟨DL_19 A, rfl, lmd1 (by rw [ON 19]; rfl)⟩
  | 20, _ => ⟨DL_20 A, rfl, lmd1 (by rw [ON 20]; rfl)⟩
  | 21, _ => ⟨DL_21 A, rfl, lmd1 (by rw [ON 21]; rfl)⟩
  | 22, _ => ⟨DL_22 A, rfl, lmd1 (by rw [ON 22]; rfl)⟩
  | 23, _ => ⟨DL_23 A, rfl, lmd1 (by rw [ON 23]; rfl)⟩
  | 24, _ => ⟨DL_24 A, rfl, lmd1 (by rw [ON 24]; rfl)⟩
  | 25, _ => ⟨DL_25 A, rfl, lmd1 (by rw [ON 25]; rfl)⟩
  | 26, _ => ⟨DL_26 A, rfl, lmd1 (by rw [ON 26]; rfl)⟩
  | 27, _ => ⟨DL_27 A, rfl, lmd1 (by rw [ON 27]; rfl)⟩
  | 28, _ => ⟨DL_28 A, rfl, lmd1 (by rw [ON 28]; rfl)⟩
  | 29, _ => ⟨DL_29 A, rfl, lmd1 (by rw [ON 29]; rfl)⟩
  | 30, _ => ⟨DL_30 A, rfl, lmd1 (by rw [ON 30]; rfl)⟩
  | 31, _ => ⟨DL_31 A, rfl, lmd1 (by rw [ON 31]; rfl)⟩
  | 32, _ => ⟨DL_32 A, rfl, lmd1 (by rw [ON 32]; rfl)⟩
  | 33, _ => ⟨DL_33 A, rfl, lmd1 (by rw [ON 33]; rfl)⟩
  | 34, _ => ⟨DL_34 A, rfl, lmd1 (by rw [ON 34]; rfl)⟩
  | 35, _ => ⟨DL_35 A, rfl, lmd1 (by rw [ON 35]; rfl)⟩
  | 36, _ => ⟨DL_36 A, rfl, lmd1 (by rw [ON 36]; rfl)⟩
  | 37, _ => ⟨DL_37 A, rfl, lmd1 (by rw [ON 37]; rfl)⟩
  | 38, _ => ⟨DL_38 A, rfl, lmd1 (by rw [ON 38]; rfl)⟩
  | 39, _ => ⟨DL_39 A, rfl, lmd2 (by rw [ON 39]; rfl) (by decide)⟩
  | 40, _ => ⟨DL_40 A, rfl, lmd1 (by rw [ON 40]; rfl)⟩
  | 41, _ => ⟨DL_41 A, rfl, lmd1 (by rw [ON 41]; rfl)⟩
  | 42, _ => ⟨DL_42 A, rfl, lmd1 (by rw [ON 42]; rfl)⟩
  | 43, _ => ⟨DL_43 A, rfl, lmd1 (by rw [ON 43]; rfl)⟩
  | 44, _ => ⟨DL_44 A, rfl, lmd1 (by rw [ON 44]; rfl)⟩
  | 45, _ => ⟨DL_45 A, rfl, lmd1 (by rw [ON 45]; rfl)⟩
  | 46, _ => ⟨DL_46 A, rfl, lmd1 (by rw [ON 46]; rfl)⟩
  | 47, _ => ⟨DL_47 A, rfl, lmd1 (by rw [ON 47]; rfl)⟩
  | 48, _ => ⟨DL_48 A, rfl, lmd1 (by rw [ON 48]; rfl)⟩
  | 49, _ => ⟨DL_49 A, rfl, lmd1 (by rw [ON 49]; rfl)⟩
  | 50, _ => ⟨DL_50 A, rfl, lmd1 (by rw [ON 50]; rfl)⟩
  | 51, _ => ⟨DL_51 A, rfl, lmd1 (by rw [ON 51]; rfl)⟩
  | 52, _ => ⟨DL_52 A, rfl, lmd1 (by rw [ON 52]; rfl)⟩
  | 53, _ => ⟨DL_53 A, rfl, lmd1 (by rw [ON 53]; rfl)⟩
  | 54, _ => ⟨DL_54 A, rfl, lmd0 rfl⟩
  | 55, _ => ⟨DL_55 A, rfl, lmd0 rfl⟩
  | 56, _ => ⟨DL_56 A, rfl, lmd0 rfl⟩
  | 57, _ => ⟨DL_57 A, rfl, lmd2 (by rw [ON 57]; rfl) (by decide)⟩
  | 58, _ => ⟨DL_58 A, rfl, lmd0 rfl⟩
  | 59, _ => ⟨DL_59 A, rfl, lmd1 (by rw [ON 59]; rfl)⟩
  | 60, _ => ⟨DL_60 A, rfl, lmd0 rfl⟩
  | 61, _ => ⟨DL_61 A, rfl, lmd1 (by rw [ON 61]; rfl)⟩
  | 62, _ => ⟨DL_62 A, rfl, lmd1 (by rw [ON 62]; rfl)⟩
  | n + 63, h => absurd h (by omega)
theorem same_2 (A : Ad) : some0.map (fun x => some0.map fun y => D_law_same A 12 [.lst [x, y], .lst [x, y]]) = some0.map fun x => some0.map fun y => some (.ok (.bl true), [some (.lst [x, y]), some (.lst [x, y])]) := by kernel_rfl
theorem same_0 (A : Ad) : D_law_same A 12 [.lst [], .lst []] = some (.ok (.bl true), [some (.lst []), some (.lst [])]) := by kernel_rfl
theorem of_map1 {α β : Type} {l : List α} {f g : α → β} (h : l.map f = l.map g) {a : α} (ha : a ∈ l) : f a = g a := List.map_inj_left.mp h a ha
theorem due_cases (x y : Dat) (k : Nat) : due x y k = [x] ∨ due x y k = [x, y] ∨ due x y k = [] := by
  unfold due
  split
  · exact .inr (.inl rfl)
  · split
    · exact .inr (.inr rfl)
    · exact .inl rfl
/-- what is kept is found the same -/
def Sm (A : Ad) (l : List Dat) : Prop := D_law_same A 12 [.lst l, .lst l] = some (.ok (.bl true), [some (.lst l), some (.lst l)])
theorem same_due (A : Ad) {x y : Dat} (hx : x ∈ some0) (hy : y ∈ some0) (k : Nat) : Sm A (due x y k) := by
  rcases due_cases x y k with e | e | e <;> rw [e]
  · exact of_map1 (same_1 A) hx
  · exact of_map1 (of_map1 (same_2 A) hx) hy
  · exact same_0 A
def hW : Dat := .lst [.str "v", .str "w"]
theorem held_0 (A : Ad) (k : Nat) : Sm A (due hW hW k) := by
  have e1 : Sm A [hW] := by unfold Sm; kernel_rfl
  have e2 : Sm A [hW, hW] := by unfold Sm; kernel_rfl
  rcases due_cases hW hW k with e | e | e <;> rw [e]
  · exact e1
  · exact e2
  · exact same_0 A
/-- nothing in it is to be frozen, nothing is told by where it lies -/
structure Pl (d : Dat) : Prop where
  f : frz d = d
  i : im d = true
theorem frzs_due {x y : Dat} (hx : frz x = x) (hy : frz y = y) (k : Nat) : frzs (due x y k) = due x y k := by
  rcases due_cases x y k with e | e | e <;> rw [e]
  · rw [frzs, hx]; rfl
  · rw [frzs, frzs, hx, hy]; rfl
  · rfl
theorem these_ok (A : Ad) {l : List Dat} (hl : frzs l = l) (h : Sm A l) : WD (D_law_are_these A) [.ol l, .lst l] fun d ev => d = .bl true ∧ ev = [some (.ol l), some (.lst l)] := by
  unfold D_law_are_these
  refine wd_fn rfl (ws_retq (we_bor ?_))
  have e : frzE (List.map some [Dat.ol l, .lst l] ++ List.replicate (2 - 2) none) = [some (.lst l), some (.lst l)] := by
    show [some (Dat.lst (frzs l)), some (Dat.lst (frzs l))] = _
    rw [hl]
  rw [e]
  exact we_call (wa_vw (d := .lst l) rfl (wa_vw (d := .lst l) rfl (wa_nil ⟨[.lst l, .lst l], [some (.lst l), some (.lst l)], rfl, _, _, h, rfl, rfl, rfl⟩)))
end K00
set_option Elab.async false
set_option linter.all false
set_option maxRecDepth 100000
set_option maxHeartbeats 4000000
namespace K00
open PySem PySem.Spec PyProof.Rows L2 LamX B
variable [TabT]
theorem frzs_app : ∀ a b : List Dat, frzs (a ++ b) = frzs a ++ frzs b
  | [], b => rfl
  | x :: a, b => by rw [List.cons_append, frzs, frzs, frzs_app a b]; rfl
theorem ims_app : ∀ a b : List Dat, ims (a ++ b) = (ims a && ims b)
  | [], b => rfl
  | x :: a, b => by rw [List.cons_append, ims, ims, ims_app a b, Bool.and_assoc]
section
variable {x y z : Dat}
theorem frzs_flds (hx : frz x = x) (hy : frz y = y) (k : Nat) : frzs (flds x y k) = flds x y k := by
  unfold flds
  split
  · rw [frzs, frzs, hx, hy]; rfl
  · split
    · rfl
    · rw [frzs, hx]; rfl
theorem frz_ent (hx : frz x = x) (hy : frz y = y) (k : Nat) : frz (ent x y k) = entF x y k := by
  show Dat.tup [.ob k (frzs (flds x y k)), .ob k (frzs (flds x y k)), .fn k, .lst (frzs (due x y k))] = _
  rw [frzs_flds hx hy, frzs_due hx hy]; rfl
theorem frz_entF (hx : frz x = x) (hy : frz y = y) (k : Nat) : frz (entF x y k) = entF x y k := by
  show Dat.tup [.ob k (frzs (flds x y k)), .ob k (frzs (flds x y k)), .fn k, .lst (frzs (due x y k))] = _
  rw [frzs_flds hx hy, frzs_due hx hy]; rfl
theorem frzs_ents (hx : frz x = x) (hy : frz y = y) : ∀ l : List Nat, frzs (l.map (ent x y)) = l.map (entF x y)
  | [] => rfl
  | k :: l => by rw [List.map_cons, frzs, frz_ent hx hy, frzs_ents hx hy l]; rfl
theorem frzs_entFs (hx : frz x = x) (hy : frz y = y) : ∀ l : List Nat, frzs (l.map (entF x y)) = l.map (entF x y)
  | [] => rfl
  | k :: l => by rw [List.map_cons, frzs, frz_entF hx hy, frzs_entFs hx hy l]
theorem ims_entFs : ∀ l : List Nat, ims (l.map (entF x y)) = true
  | [] => rfl
  | k :: l => by rw [List.map_cons, ims, ims_entFs l]; rfl
theorem dAdd_l {ds es : List Dat} (hi : ims ds = true) (hj : ims es = true) (hl : ds.length + es.length ≤ 1000) : dAdd [.lst ds, .lst es] = some (.ol (ds ++ es)) := by
  show (if ds.length + es.length ≤ sizeLine && ims ds && ims es then some (Dat.ol (ds ++ es)) else none) = _
  rw [hi, hj]
  have : ds.length + es.length ≤ sizeLine := by rw [sizeLine_eq]; omega
  simp [this]
def madeE (A : Ad) (i j l : Nat) : DE := eOp dAdd (aE (eFr (eOp dAdd (aE (eFr (eCall (D_law_made_a A) (aVw i (aVw j (aVw l aNil))))) (aE (eFr (eCall (D_law_made_b A) (aVw i (aVw j (aVw l aNil))))) aNil)))) (aE (eFr (eCall (D_law_made_c A) (aVw i (aVw j (aVw l aNil))))) aNil))
variable {ρ : Ev} {i j l : Nat}
theorem call3 {D : DF} {d : Dat} (hx : ρ[i]? = some (some x)) (hy : ρ[j]? = some (some y)) (hz : ρ[l]? = some (some z)) (px : Pl x) (py : Pl y) (pz : Pl z) (e : ∃ ev, D [x, y, z] = some (.ok d, ev) ∧ ev = [some x, some y, some z]) :
    eCall D (aVw i (aVw j (aVw l aNil))) ρ = some (.ok d, ρ) := by
  obtain ⟨ev, e, rfl⟩ := e
  have t : takeA ρ [.vw i, .vw j, .vw l] = some ([x, y, z], ρ) := by simp only [takeA, hx, hy, hz, px.i, py.i, pz.i, if_true]
  have a : (aVw i (aVw j (aVw l aNil))) ρ = some (.ok [.vw i, .vw j, .vw l], ρ) := by simp only [aVw, aNil, hx, hy, hz, bnd_ok]
  have p : putA ρ [.vw i, .vw j, .vw l] [some x, some y, some z] = ρ := by simp only [putA, hx, hy, hz]
  simp only [eCall, a, bnd_ok, t, e, p]
theorem range3 (x y : Dat) : (List.range' 0 18).map (entF x y) ++ (List.range' 18 18).map (entF x y) ++ (List.range' 36 18).map (entF x y) = (List.range' 0 54).map (entF x y) := by
  rw [← List.map_append, ← List.map_append]; rfl
theorem made_ev (A : Ad) (ON : ObF) (hx : ρ[i]? = some (some x)) (hy : ρ[j]? = some (some y)) (hz : ρ[l]? = some (some z)) (px : Pl x) (py : Pl y) (pz : Pl z) : madeE A i j l ρ = some (.ok (.ol ((List.range' 0 54).map (entF x y))), ρ) := by
  have c1 := call3 hx hy hz px py pz (made_a A ON (z := z) px.i py.i)
  have c2 := call3 hx hy hz px py pz (made_b A ON (z := z) px.i py.i)
  have c3 := call3 hx hy hz px py pz (made_c A ON (z := z) px.i py.i)
  have f : ∀ n m, frz (.ol ((List.range' n m).map (ent x y))) = .lst ((List.range' n m).map (entF x y)) := fun n m => by
    show Dat.lst (frzs _) = _
    rw [frzs_ents px.f py.f]
  have i1 : eOp dAdd (aE (eFr (eCall (D_law_made_a A) (aVw i (aVw j (aVw l aNil))))) (aE (eFr (eCall (D_law_made_b A) (aVw i (aVw j (aVw l aNil))))) aNil)) ρ = some (.ok (.ol ((List.range' 0 18).map (entF x y) ++ (List.range' 18 18).map (entF x y))), ρ) := by
    have d1 := dAdd_l (ims_entFs (x := x) (y := y) (List.range' 0 18)) (ims_entFs (x := x) (y := y) (List.range' 18 18)) (by simp)
    have a1 : (aE (eFr (eCall (D_law_made_a A) (aVw i (aVw j (aVw l aNil))))) (aE (eFr (eCall (D_law_made_b A) (aVw i (aVw j (aVw l aNil))))) aNil)) ρ = some (.ok [.dt (.lst ((List.range' 0 18).map (entF x y))), .dt (.lst ((List.range' 18 18).map (entF x y)))], ρ) := by
      simp only [aE, eFr, c1, c2, bnd_ok, f, aNil]
    simp only [eOp, a1, bnd_ok]
    show (match dAdd [.lst ((List.range' 0 18).map (entF x y)), .lst ((List.range' 18 18).map (entF x y))] with | some d => some (Except.ok d, ρ) | none => none) = _
    rw [d1]
  have f2 : frz (.ol ((List.range' 0 18).map (entF x y) ++ (List.range' 18 18).map (entF x y))) = .lst ((List.range' 0 18).map (entF x y) ++ (List.range' 18 18).map (entF x y)) := by
    show Dat.lst (frzs _) = _
    rw [frzs_app, frzs_entFs px.f py.f, frzs_entFs px.f py.f]
  have d2 := dAdd_l (ds := (List.range' 0 18).map (entF x y) ++ (List.range' 18 18).map (entF x y)) (es := (List.range' 36 18).map (entF x y)) (by rw [ims_app, ims_entFs, ims_entFs]; rfl) (ims_entFs _) (by simp)
  have a2 : (aE (eFr (eOp dAdd (aE (eFr (eCall (D_law_made_a A) (aVw i (aVw j (aVw l aNil))))) (aE (eFr (eCall (D_law_made_b A) (aVw i (aVw j (aVw l aNil))))) aNil)))) (aE (eFr (eCall (D_law_made_c A) (aVw i (aVw j (aVw l aNil))))) aNil)) ρ = some (.ok [.dt (.lst ((List.range' 0 18).map (entF x y) ++ (List.range' 18 18).map (entF x y))), .dt (.lst ((List.range' 36 18).map (entF x y)))], ρ) := by
    have i2 : (eFr (eOp dAdd (aE (eFr (eCall (D_law_made_a A) (aVw i (aVw j (aVw l aNil))))) (aE (eFr (eCall (D_law_made_b A) (aVw i (aVw j (aVw l aNil))))) aNil)))) ρ = some (.ok (.lst ((List.range' 0 18).map (entF x y) ++ (List.range' 18 18).map (entF x y))), ρ) := by
      unfold eFr at i1 ⊢
      rw [i1]
      show some (Except.ok (frz _), ρ) = _
      rw [f2]
    have i3 : (eFr (eCall (D_law_made_c A) (aVw i (aVw j (aVw l aNil))))) ρ = some (.ok (.lst ((List.range' 36 18).map (entF x y))), ρ) := by
      simp only [eFr, c3, bnd_ok, f]
    generalize (eFr (eOp dAdd (aE (eFr (eCall (D_law_made_a A) (aVw i (aVw j (aVw l aNil))))) (aE (eFr (eCall (D_law_made_b A) (aVw i (aVw j (aVw l aNil))))) aNil)))) = e2 at i2
    generalize (eFr (eCall (D_law_made_c A) (aVw i (aVw j (aVw l aNil))))) = e3 at i3
    simp only [aE, i2, i3, bnd_ok, aNil]
  unfold madeE
  generalize hg : (aE (eFr (eOp dAdd (aE (eFr (eCall (D_law_made_a A) (aVw i (aVw j (aVw l aNil))))) (aE (eFr (eCall (D_law_made_b A) (aVw i (aVw j (aVw l aNil))))) aNil)))) (aE (eFr (eCall (D_law_made_c A) (aVw i (aVw j (aVw l aNil))))) aNil)) = e4 at a2
  simp only [eOp, a2, bnd_ok]
  show (match dAdd [.lst ((List.range' 0 18).map (entF x y) ++ (List.range' 18 18).map (entF x y)), .lst ((List.range' 36 18).map (entF x y))] with | some d => some (Except.ok d, ρ) | none => none) = _
  rw [d2, range3]
/-- all that were made -/
def allM (x y : Dat) : List Dat := (List.range' 0 54).map (entF x y) ++ (List.range' 54 9).map (ent x y)
theorem frzs_allM (hx : frz x = x) (hy : frz y = y) : frzs (allM x y) = (List.range 63).map (entF x y) := by
  unfold allM
  rw [frzs_app, frzs_entFs hx hy, frzs_ents hx hy, ← List.map_append]; rfl
def extE (A : Ad) (i j l : Nat) : DE := eMut 7 isOl fExtend (aE (eCall (D_law_made_d A) (aVw i (aVw j (aVw l aNil)))) aNil)
theorem ext_ev (A : Ad) (ON : ObF) (h7 : ρ[7]? = some (some (.ol ((List.range' 0 54).map (entF x y))))) (hx : ρ[i]? = some (some x)) (hy : ρ[j]? = some (some y)) (hz : ρ[l]? = some (some z)) (px : Pl x) (py : Pl y) (pz : Pl z) :
    extE A i j l ρ = some (.ok .non, ρ.set 7 (some (.ol (allM x y)))) := by
  have c := call3 hx hy hz px py pz (made_d A ON (z := z) px.i py.i)
  have a : (aE (eCall (D_law_made_d A) (aVw i (aVw j (aVw l aNil)))) aNil) ρ = some (.ok [.dt (.ol ((List.range' 54 9).map (ent x y)))], ρ) := by
    simp only [aE, c, bnd_ok, aNil]
  have e : fExtend (.ol ((List.range' 0 54).map (entF x y))) [.ol ((List.range' 54 9).map (ent x y))] = some (.non, .ol (allM x y)) := by
    show (if ((List.range' 0 54).map (entF x y)).length + ((List.range' 54 9).map (ent x y)).length ≤ 1000000 then some (Dat.non, Dat.ol (((List.range' 0 54).map (entF x y)) ++ ((List.range' 54 9).map (ent x y)))) else none) = _
    rw [if_pos (by simp)]; rfl
  unfold extE
  generalize (aE (eCall (D_law_made_d A) (aVw i (aVw j (aVw l aNil)))) aNil) = e4 at a
  simp only [eMut, h7, a, bnd_ok]
  show (match fExtend (.ol ((List.range' 0 54).map (entF x y))) [.ol ((List.range' 54 9).map (ent x y))] with | some (rd, d') => some (Except.ok rd, ρ.set 7 (some d')) | none => none) = _
  rw [e]
end
theorem enumD_at : ∀ (l : List Dat) (i k : Nat), (enumD i l)[k]? = l[k]?.map fun d => .tup [.int ((i + k : Nat) : Int), d]
  | [], i, k => by simp [enumD]
  | d :: l, i, 0 => by simp [enumD]
  | d :: l, i, k + 1 => by
    rw [enumD, List.getElem?_cons_succ, List.getElem?_cons_succ, enumD_at l (i + 1) k]
    have : i + 1 + k = i + (k + 1) := by omega
    rw [this]
theorem ents_at {x y : Dat} {k : Nat} {d : Dat} (h : ((List.range 63).map (entF x y))[k]? = some d) : k < 63 ∧ d = entF x y k := by
  rw [List.getElem?_map] at h
  by_cases hk : k < 63
  · rw [List.getElem?_range hk] at h
    exact ⟨hk, (Option.some.inj h).symm⟩
  · rw [List.getElem?_eq_none (by simpa using hk)] at h
    cases h
theorem enum_at {x y : Dat} {k : Nat} {d : Dat} (h : (enumD 0 ((List.range 63).map (entF x y)))[k]? = some d) : k < 63 ∧ d = .tup [.int (k : Int), entF x y k] := by
  rw [enumD_at, Nat.zero_add] at h
  cases e : ((List.range 63).map (entF x y))[k]? with
  | none => rw [e] at h; cases h
  | some c =>
    rw [e] at h
    obtain ⟨hk, rfl⟩ := ents_at e
    exact ⟨hk, (Option.some.inj h).symm⟩
end K00
set_option Elab.async false
set_option linter.all false
set_option maxRecDepth 100000
set_option maxHeartbeats 4000000
namespace K00
open PySem PySem.Spec PyProof.Rows L2 LamX B
variable [TabT]
section
variable {ρ : Ev} {i j : Nat} {x y d : Dat} {D : DF}
theorem call2 (hx : ρ[i]? = some (some x)) (hy : ρ[j]? = some (some y)) (ix : im x = true) (iy : im y = true) (e : D [x, y] = some (.ok d, [some x, some y])) : eCall D (aVw i (aVw j aNil)) ρ = some (.ok d, ρ) := by
  have t : takeA ρ [.vw i, .vw j] = some ([x, y], ρ) := by simp only [takeA, hx, hy, ix, iy, if_true]
  have a : (aVw i (aVw j aNil)) ρ = some (.ok [.vw i, .vw j], ρ) := by simp only [aVw, aNil, hx, hy, bnd_ok]
  have p : putA ρ [.vw i, .vw j] [some x, some y] = ρ := by simp only [putA, hx, hy]
  simp only [eCall, a, bnd_ok, t, e, p]
theorem call1 (hx : ρ[i]? = some (some x)) (ix : im x = true) (e : D [x] = some (.ok d, [some x])) : eCall D (aVw i aNil) ρ = some (.ok d, ρ) := by
  have t : takeA ρ [.vw i] = some ([x], ρ) := by simp only [takeA, hx, ix, if_true]
  have a : (aVw i aNil) ρ = some (.ok [.vw i], ρ) := by simp only [aVw, aNil, hx, bnd_ok]
  have p : putA ρ [.vw i] [some x] = ρ := by simp only [putA, hx]
  simp only [eCall, a, bnd_ok, t, e, p]
theorem orF {a b : DE} (ha : a ρ = some (.ok (.bl true), ρ)) (hb : b ρ = some (.ok (.bl true), ρ)) : (cOr (cNot (eB a)) (cNot (eB b))) ρ = some (.ok false, ρ) := by
  have h1 : (cNot (eB a)) ρ = some (.ok false, ρ) := by simp only [cNot, eB, ha, bnd_ok, onB, Bool.not_true]
  have h2 : (cNot (eB b)) ρ = some (.ok false, ρ) := by simp only [cNot, eB, hb, bnd_ok, onB, Bool.not_true]
  simp only [cOr, h1, h2, bnd_ok, Bool.false_eq_true, if_false]
theorem these_ev (A : Ad) {k : Nat} {l : List Dat} {F : List Dat} (h11 : ρ[11]? = some (some (.fn k))) (h12 : ρ[12]? = some (some (.lst l))) (hi : ρ[i]? = some (some (.ob k F))) (hD : made A k = some D) (e : D [.ob k F] = some (.ok (.ol l), [some (.ob k F)])) (hl : frzs l = l) (h : Sm A l) :
    eCall (D_law_are_these A) (aE (eCallF 11 (made A) (aVw i aNil)) (aVw 12 aNil)) ρ = some (.ok (.bl true), ρ) := by
  obtain ⟨d, ev, e2, rfl, rfl⟩ := these_ok A hl h
  have c : (eCallF 11 (made A) (aVw i aNil)) ρ = some (.ok (.ol l), ρ) := by
    have := call1 hi rfl e
    simp only [eCallF, h11, hD, this]
  have a : (aE (eCallF 11 (made A) (aVw i aNil)) (aVw 12 aNil)) ρ = some (.ok [.dt (.ol l), .vw 12], ρ) := by
    simp only [aE, c, bnd_ok, aVw, h12, aNil]
  have t : takeA ρ [.dt (.ol l), .vw 12] = some ([.ol l, .lst l], ρ) := by
    have im1 : im (.lst l) = true := rfl
    simp only [takeA, h12, im1, if_true]
  have p : putA ρ [.dt (.ol l), .vw 12] [some (.ol l), some (.lst l)] = ρ := by simp only [putA, h12]
  generalize (aE (eCallF 11 (made A) (aVw i aNil)) (aVw 12 aNil)) = e4 at a
  simp only [eCall, a, bnd_ok, t, e2, p]
end
theorem ws_heldR {i : Nat} {v w : Str} {dm b : DS} {ρ R : Ev} {Q : Fl → Ev → Prop} (hi : i < ρ.length) (h : ∀ a : Addr, ∃ ρ1, dm (ρ.set i (some (.raw (.ref a)))) = some (.nx, ρ1) ∧ ρ1[i]? = some (some (.raw (.ref a))) ∧ ρ1.map (Option.map (sb a (.lst [.str v, .str w]))) = R) (q : WS b R Q) : WS (sSeq (sHeldR i v w dm) b) ρ Q := by
  have hc : i < ρ.length ∧ ∃ R, ∀ a : Addr, ∃ ρ1, dm (ρ.set i (some (.raw (.ref a)))) = some (.nx, ρ1) ∧ ρ1[i]? = some (some (.raw (.ref a))) ∧ ρ1.map (Option.map (sb a (.lst [.str v, .str w]))) = R := ⟨hi, R, h⟩
  have e : sHeldR i v w dm ρ = some (.nx, Classical.choose hc.2) := by unfold sHeldR; rw [dif_pos hc]
  have eR : Classical.choose hc.2 = R := by
    obtain ⟨ρ1, e1, _, e3⟩ := Classical.choose_spec hc.2 0
    obtain ⟨ρ2, e4, _, e6⟩ := h 0
    rw [e1] at e4
    have e5 : ρ1 = ρ2 := by
      have := Option.some.inj e4
      exact (Prod.mk.inj this).2
    rw [← e3, ← e6, e5]
  refine ws_seq (ws_ev e ?_)
  rw [eR]
  exact q
/-- nothing in it is told by where it lies -/
def NR (o : Option Dat) : Prop := ∀ a t, o.map (sb a t) = o
theorem nr_none : NR none := fun _ _ => rfl
theorem nr_d {d : Dat} (h : ∀ a t, sb a t d = d) : NR (some d) := fun a t => congrArg some (h a t)
theorem NR.d {d : Dat} (h : NR (some d)) : ∀ a t, sb a t d = d := fun a t => Option.some.inj (h a t)
theorem sbs_ints (a : Addr) (t : Dat) : ∀ xs : List Int, sbs a t (xs.map Dat.int) = xs.map Dat.int
  | [] => rfl
  | x :: xs => by rw [List.map_cons, sbs, sbs_ints a t xs]; rfl
theorem nr_ints (xs : List Int) : NR (some (.lst (xs.map Dat.int))) := nr_d fun a t => by
  show Dat.lst (sbs a t (xs.map Dat.int)) = _
  rw [sbs_ints]
theorem nr_st (s : SS) : NR (some (stD s)) := nr_d fun a t => by
  show Dat.ol [.ol (sbs a t (s.xs.map Dat.int)), .int s.a, .int s.b, .int s.c] = _
  rw [sbs_ints]; rfl
theorem sbs_some (a : Addr) (t : Dat) : sbs a t some0 = some0 := rfl
theorem sb_mem (a : Addr) (t : Dat) : ∀ {l : List Dat}, sbs a t l = l → ∀ x ∈ l, sb a t x = x
  | [], _, x, hx => nomatch hx
  | y :: l, e, x, hx => by
    rw [sbs] at e
    obtain ⟨e1, e2⟩ := List.cons.inj e
    rcases List.mem_cons.mp hx with rfl | hx
    · exact e1
    · exact sb_mem a t e2 x hx
theorem nr_of {x : Dat} (hx : x ∈ some0) : NR (some x) := nr_d fun a t => sb_mem a t (sbs_some a t) x hx
theorem nr_some : NR (some (.lst some0)) := nr_d fun a t => by
  show Dat.lst (sbs a t some0) = _
  rw [sbs_some]
theorem frzs_some : frzs some0 = some0 := rfl
theorem fr_mem : ∀ {l : List Dat}, frzs l = l → ∀ x ∈ l, frz x = x
  | [], _, x, hx => nomatch hx
  | y :: l, e, x, hx => by
    rw [frzs] at e
    obtain ⟨e1, e2⟩ := List.cons.inj e
    rcases List.mem_cons.mp hx with rfl | hx
    · exact e1
    · exact fr_mem e2 x hx
theorem im_mem : ∀ {l : List Dat}, ims l = true → ∀ x ∈ l, im x = true
  | [], _, x, hx => nomatch hx
  | y :: l, e, x, hx => by
    rw [ims, Bool.and_eq_true] at e
    rcases List.mem_cons.mp hx with rfl | hx
    · exact e.1
    · exact im_mem e.2 x hx
theorem ims_some : ims some0 = true := rfl
theorem pl_of {x : Dat} (hx : x ∈ some0) : Pl x := ⟨fr_mem frzs_some x hx, im_mem ims_some x hx⟩
section
variable {x y t : Dat} {a : Addr}
theorem sbs_flds (k : Nat) : sbs a t (flds x y k) = flds (sb a t x) (sb a t y) k := by
  unfold flds
  split
  · rfl
  · split <;> rfl
theorem sbs_due (k : Nat) : sbs a t (due x y k) = due (sb a t x) (sb a t y) k := by
  unfold due
  split
  · rfl
  · split <;> rfl
theorem sb_ent (k : Nat) : sb a t (ent x y k) = ent (sb a t x) (sb a t y) k := by
  show Dat.tup [.ob k (sbs a t (flds x y k)), .ob k (sbs a t (flds x y k)), .fn k, .ol (sbs a t (due x y k))] = _
  rw [sbs_flds, sbs_due]; rfl
theorem sb_entF (k : Nat) : sb a t (entF x y k) = entF (sb a t x) (sb a t y) k := by
  show Dat.tup [.ob k (sbs a t (flds x y k)), .ob k (sbs a t (flds x y k)), .fn k, .lst (sbs a t (due x y k))] = _
  rw [sbs_flds, sbs_due]; rfl
theorem sbs_app : ∀ l r : List Dat, sbs a t (l ++ r) = sbs a t l ++ sbs a t r
  | [], r => rfl
  | d :: l, r => by rw [List.cons_append, sbs, sbs, sbs_app l r]; rfl
theorem sbs_entFs : ∀ l : List Nat, sbs a t (l.map (entF x y)) = l.map (entF (sb a t x) (sb a t y))
  | [] => rfl
  | k :: l => by rw [List.map_cons, sbs, sb_entF, sbs_entFs l]; rfl
theorem sbs_ents : ∀ l : List Nat, sbs a t (l.map (ent x y)) = l.map (ent (sb a t x) (sb a t y))
  | [] => rfl
  | k :: l => by rw [List.map_cons, sbs, sb_ent, sbs_ents l]; rfl
theorem sb_allM : sb a t (.ol (allM x y)) = .ol (allM (sb a t x) (sb a t y)) := by
  show Dat.ol (sbs a t (allM x y)) = _
  unfold allM
  rw [sbs_app, sbs_entFs, sbs_ents]
end
end K00
set_option Elab.async false
set_option linter.all false
set_option maxRecDepth 100000
set_option maxHeartbeats 4000000
namespace K00
open PySem PySem.Spec PyProof.Rows L2 LamX B
variable [TabT]
theorem pickL_to {α : Type} (xs : List α) (k : Nat) : pickL xs none (some (k : Int)) none = xs.take k := by
  have hb : sliceBounds none (some (k : Int)) none xs.length = (((0 : Nat) : Int), ((min k xs.length : Nat) : Int), 1) := by
    unfold sliceBounds
    have h1 : ¬ ((k : Int) < 0) := by omega
    have h2 : max 0 (min (k : Int) (xs.length : Int)) = ((min k xs.length : Nat) : Int) := by omega
    simp [h1, h2]
  unfold pickL pickIx
  rw [hb]
  dsimp only
  rw [sliceRange_one]
  have : (List.range (min k xs.length - 0)).map (0 + ·) = List.range (min k xs.length) := by simp
  rw [this, pick_range _ _ (Nat.min_le_right _ _)]
  rcases Nat.le_total k xs.length with h | h
  · rw [Nat.min_eq_left h]
  · rw [Nat.min_eq_right h, List.take_length, List.take_of_length_le h]
theorem dSl_to {c : Dat} {ds : List Dat} (h : c = .lst ds ∨ c = .ol ds) (hi : ims ds = true) (k : Nat) : dSl false true false [c, .int (k : Int)] = some (.ol (ds.take k)) := by
  rcases h with rfl | rfl
  · show (if (decide ((none : Option Int) ≠ some 0) && ims ds) = true then some (Dat.ol (pickL ds none (some (k : Int)) none)) else none) = _
    rw [hi, pickL_to]; rfl
  · show (if (decide ((none : Option Int) ≠ some 0) && ims ds) = true then some (Dat.ol (pickL ds none (some (k : Int)) none)) else none) = _
    rw [hi, pickL_to]; rfl
theorem rng_mem {n : Nat} {d : Dat} (h : d ∈ rngD 0 n) : ∃ k : Nat, k < n ∧ d = .int (k : Int) := by
  obtain ⟨k, hk, rfl⟩ := List.mem_map.mp h
  exact ⟨k, List.mem_range.mp hk, by rw [Int.zero_add]⟩
theorem start_ok (A : Ad) (ns : List Int) : D_law_start A [.lst (ns.map Dat.int)] = some (.ok (stD ⟨ns, 0, 0, 37⟩), [some (.lst (ns.map Dat.int))]) := by
  have w : WD (D_law_start A) [.lst (ns.map Dat.int)] fun d ev => d = stD ⟨ns, 0, 0, 37⟩ ∧ ev = [some (.lst (ns.map Dat.int))] := by
    unfold D_law_start
    refine wd_fn rfl (ws_retq (we_lst (wa_e (we_op (wa_vw rfl (wa_nil ⟨_, rfl, _, dList_ok rfl (im_ints ns), ?_⟩))))))
    refine wa_e (we_c (wa_e (we_c (wa_e (we_c (wa_nil ⟨_, rfl, (by show (4 : Nat) ≤ 1000; decide), rfl, rfl⟩))))))
  obtain ⟨d, ev, e, rfl, rfl⟩ := w
  exact e
def someO : Dat := .ol [.non, .int 5, .int (-1), .bl true, .str "a", .str "", .ol [.int 1, .str "b"], .tup [.int 2, .non], .od false [.str "a"] [.int 1], .ol [.ol [.str "x"]], .int (10 ^ 30), .tup [.str "s", .int 3], .bl false, .int 0, .int 1]
theorem frz_someO : frz someO = .lst some0 := rfl
theorem nr_item {x y : Dat} (hx : ∀ a t, sb a t x = x) (hy : ∀ a t, sb a t y = y) (k : Nat) : NR (some (.ob k (flds x y k))) ∧ NR (some (.fn k)) ∧ NR (some (.lst (due x y k))) :=
  ⟨nr_d fun a t => by show Dat.ob k (sbs a t (flds x y k)) = _; rw [sbs_flds, hx, hy], nr_d fun a t => rfl, nr_d fun a t => by show Dat.lst (sbs a t (due x y k)) = _; rw [sbs_due, hx, hy]⟩
/-- the law's environment -/
def EV (sc : Dat) (s : SS) (b3 b4 b5 b6 b7 b8 b9 b10 b11 b12 b13 : Option Dat) : Ev := [some sc, some (stD s), some (.lst some0), b3, b4, b5, b6, b7, b8, b9, b10, b11, b12, b13, none]
def lw1 (A : Ad) : DS := (sSeq (sIf (cOr (cNot (eB (eCall (D_law_is_own A) (aVw 9 (aVw 8 aNil))))) (cNot (eB (eCall (D_law_is_own A) (aVw 10 (aVw 8 aNil)))))) (sSeq (sRet (eC (.bl false))) (sNx)) (sNx)) (sSeq (sIf (cOr (cNot (eB (eCall (D_law_are_these A) (aE (eCallF 11 (made A) (aVw 9 aNil)) (aVw 12 aNil))))) (cNot (eB (eCall (D_law_are_these A) (aE (eCallF 11 (made A) (aVw 10 aNil)) (aVw 12 aNil)))))) (sSeq (sRet (eC (.bl false))) (sNx)) (sNx)) (sNx)))
def lw2 (A : Ad) : DS := (sSeq (sIf (cOr (cNot (eB (eCall (D_law_are_these A) (aE (eCallF 11 (made A) (aVw 9 aNil)) (aVw 12 aNil))))) (cNot (eB (eCall (D_law_are_these A) (aE (eCallF 11 (made A) (aVw 10 aNil)) (aVw 12 aNil)))))) (sSeq (sRet (eC (.bl false))) (sNx)) (sNx)) (sNx))
section
variable {A : Ad} {sc : Dat} {s : SS} {b3 b4 b5 b6 b7 b8 b13 : Option Dat} {x y : Dat} {Q : Fl → Ev → Prop}
theorem lw2_ok (ON : ObF) {k : Nat} (hk : k < 63) (fx : frz x = x) (fy : frz y = y) (h : Sm A (due x y k))
    (q : Q .nx (EV sc s b3 b4 b5 b6 b7 b8 (some (.ob k (flds x y k))) (some (.ob k (flds x y k))) (some (.fn k)) (some (.lst (due x y k))) b13)) :
    WS (lw2 A) (EV sc s b3 b4 b5 b6 b7 b8 (some (.ob k (flds x y k))) (some (.ob k (flds x y k))) (some (.fn k)) (some (.lst (due x y k))) b13) Q := by
  obtain ⟨D, hD, d, ev, e, rfl, rfl⟩ := lm_all A ON (x := x) (y := y) k hk
  have c1 := these_ev (ρ := EV sc s b3 b4 b5 b6 b7 b8 (some (.ob k (flds x y k))) (some (.ob k (flds x y k))) (some (.fn k)) (some (.lst (due x y k))) b13) (i := 9) A rfl rfl rfl hD e (frzs_due fx fy k) h
  have c2 := these_ev (ρ := EV sc s b3 b4 b5 b6 b7 b8 (some (.ob k (flds x y k))) (some (.ob k (flds x y k))) (some (.fn k)) (some (.lst (due x y k))) b13) (i := 10) A rfl rfl rfl hD e (frzs_due fx fy k) h
  exact ws_seq (ws_if (wt_ev (orF c1 c2) ⟨fun z => (by cases z), fun _ => ws_nxs (ws_nx q)⟩))
theorem lw1_ok (ON : ObF) {k : Nat} (hk : k < 63) (fx : frz x = x) (fy : frz y = y) (h : Sm A (due x y k))
    (q : Q .nx (EV sc s b3 b4 b5 b6 b7 (some (.int (k : Int))) (some (.ob k (flds x y k))) (some (.ob k (flds x y k))) (some (.fn k)) (some (.lst (due x y k))) b13)) :
    WS (lw1 A) (EV sc s b3 b4 b5 b6 b7 (some (.int (k : Int))) (some (.ob k (flds x y k))) (some (.ob k (flds x y k))) (some (.fn k)) (some (.lst (due x y k))) b13) Q := by
  have o := own_ok A hk (flds x y k)
  have c1 := call2 (ρ := EV sc s b3 b4 b5 b6 b7 (some (.int (k : Int))) (some (.ob k (flds x y k))) (some (.ob k (flds x y k))) (some (.fn k)) (some (.lst (due x y k))) b13) (i := 9) (j := 8) (x := .ob k (flds x y k)) (y := .int (k : Int)) rfl rfl rfl rfl o
  have c2 := call2 (ρ := EV sc s b3 b4 b5 b6 b7 (some (.int (k : Int))) (some (.ob k (flds x y k))) (some (.ob k (flds x y k))) (some (.fn k)) (some (.lst (due x y k))) b13) (i := 10) (j := 8) (x := .ob k (flds x y k)) (y := .int (k : Int)) rfl rfl rfl rfl o
  exact ws_seq (ws_if (wt_ev (orF c1 c2) ⟨fun z => (by cases z), fun _ => ws_nxs (lw2_ok ON hk fx fy h q)⟩))
end
theorem three {l : List Dat} (h : l.length = 15) : ∃ x y z r, l = x :: y :: z :: r := match l, h with
  | x :: y :: z :: r, _ => ⟨x, y, z, r, rfl⟩
theorem perm_ims {l m : List Dat} (h : l.Perm m) : ims l = ims m := by
  induction h with
  | nil => rfl
  | cons x _ ih => rw [ims, ims, ih]
  | swap x y l => rw [ims, ims, ims, ims, ← Bool.and_assoc, ← Bool.and_assoc, Bool.and_comm (im y)]
  | trans _ _ h1 h2 => rw [h1, h2]
/-- a turn of the law -/
def lwT (A : Ad) : DS := (sSeq (sAsg (gUnpL 3 (gsCons (gSet 4) (gsCons (gSet 5) (gsCons (gSet 6) gsNil)))) (eOp (dSl false true false) (aE (eCall (D_law_mixed A) (aVw 1 (aVw 2 aNil))) (id (aI (eC (.int 3)) (id aNil)))))) (sSeq (sSet 7 (madeE A 4 5 6)) (sSeq (sDrop (extE A 4 5 6)) (sSeq (sFor (walkA fEnum (aE (eVM 7) aNil)) (gUnp 2 (gsCons (gSet 8) (gsCons (gUnp 4 (gsCons (gSet 9) (gsCons (gSet 10) (gsCons (gSet 11) (gsCons (gSet 12) gsNil))))) gsNil))) (lw1 A)) (sNx)))))
theorem lwT_ok (A : Ad) (ON : ObF) {sc : Dat} {s : SS} {n : Nat} (hok : OkS n s) (hn : n < 1000) {b3 b4 b5 b6 b8 b9 b10 b11 b12 : Option Dat} (hb : NR b8 ∧ NR b9 ∧ NR b10 ∧ NR b11 ∧ NR b12) {Q : Fl → Ev → Prop}
    (q : ∀ s' x y z b8 b9 b10 b11 b12, OkS (n + 15) s' → x ∈ some0 → y ∈ some0 → z ∈ some0 → (NR b8 ∧ NR b9 ∧ NR b10 ∧ NR b11 ∧ NR b12) → Q .nx (EV sc s' b3 (some x) (some y) (some z) none b8 b9 b10 b11 b12 none)) :
    WS (lwT A) (EV sc s b3 b4 b5 b6 none b8 b9 b10 b11 b12 none) Q := by
  unfold lwT
  refine ws_asg (we_op (wa_e (we_call (wa_vw (d := stD s) rfl (wa_vw (d := .lst some0) rfl (wa_nil ⟨[stD s, .lst some0], _, rfl, mixed_ok A hok (c := .lst some0) (ds := some0) rfl ims_some (by show (15 : Nat) ≤ 1000; decide) (by show n + 15 < 1000000; omega) fun es s2 hp h2 => ?_⟩))))))
  obtain ⟨x, y, z, r, rfl⟩ := three (hp.length_eq.trans rfl)
  have hx : x ∈ some0 := hp.mem_iff.mp (by simp)
  have hy : y ∈ some0 := hp.mem_iff.mp (by simp)
  have hz : z ∈ some0 := hp.mem_iff.mp (by simp)
  have px := pl_of hx
  have py := pl_of hy
  have pz := pl_of hz
  refine (show WA (aI (eC (.int 3)) aNil) _ _ from wa_i (we_c ⟨3, rfl, wa_nil ⟨_, rfl, _, dSl_to (k := 3) (.inr rfl) ((perm_ims hp).trans ims_some), ?_⟩⟩))
  refine ⟨EV sc s2 b3 (some x) (some y) (some z) none b8 b9 b10 b11 b12 none, ?_, ?_⟩
  · have : frz (.ol (List.take 3 (x :: y :: z :: r))) = .lst [x, y, z] := by
      show Dat.lst [frz x, frz y, frz z] = _
      rw [px.f, py.f, pz.f]
    rw [this]; rfl
  refine ws_set (we_ev (made_ev A ON (i := 4) (j := 5) (l := 6) rfl rfl rfl px py pz) ⟨by show (7 : Nat) < 15; decide, ?_⟩)
  refine ws_drop (we_ev (ext_ev A ON (i := 4) (j := 5) (l := 6) (x := x) (y := y) (z := z) rfl rfl rfl rfl px py pz) ?_)
  show WS _ (EV sc s2 b3 (some x) (some y) (some z) (some (.ol (allM x y))) b8 b9 b10 b11 b12 none) _
  refine ws_for (wi_walk (wa_e (we_mv (d := .ol (allM x y)) rfl rfl (wa_nil ⟨_, rfl, enumD 0 (frzs (allM x y)), rfl, ?_⟩))))
  rw [frzs_allM px.f py.f]
  show WS _ (EV sc s2 b3 (some x) (some y) (some z) none b8 b9 b10 b11 b12 none) _
  refine ws_forI (fun _ ρ => ∃ c8 c9 c10 c11 c12, ρ = EV sc s2 b3 (some x) (some y) (some z) none c8 c9 c10 c11 c12 none ∧ (NR c8 ∧ NR c9 ∧ NR c10 ∧ NR c11 ∧ NR c12)) ⟨b8, b9, b10, b11, b12, rfl, hb⟩ (fun k d ρ hd ⟨c8, c9, c10, c11, c12, hρ, hc⟩ => ?_) fun ρ ⟨c8, c9, c10, c11, c12, hρ, hc⟩ => ?_
  · subst hρ
    obtain ⟨hk, rfl⟩ := enum_at hd
    refine ⟨EV sc s2 b3 (some x) (some y) (some z) none (some (.int (k : Int))) (some (.ob k (flds x y k))) (some (.ob k (flds x y k))) (some (.fn k)) (some (.lst (due x y k))) none, rfl, ?_⟩
    obtain ⟨n1, n2, n3⟩ := nr_item (nr_of hx).d (nr_of hy).d k
    exact lw1_ok ON hk px.f py.f (same_due A hx hy k) ⟨.inl rfl, _, _, _, _, _, rfl, nr_d fun _ _ => rfl, n1, n1, n2, n3⟩
  · subst hρ
    exact ws_nx (q s2 x y z c8 c9 c10 c11 c12 h2 hx hy hz hc)
theorem ws_drop1 {e : DE} {d : Dat} {ρ ρ' : Ev} {Q : Fl → Ev → Prop} (h : e ρ = some (.ok d, ρ')) (q : Q .nx ρ') : WS (sDrop e) ρ Q := ws_ev (o := .nx) (ρ' := ρ') (by simp only [sDrop, h, bndS, sNx]) q
/-- all of it is true -/
theorem law_true (A : Ad) (ON : ObF) : ∀ ns : List Int, ns.length ≤ 63 → ∃ ev, D_law A [.lst (ns.map .int)] = some (.ok (.bl true), ev) := by
  intro ns hl
  have ok0 : OkS 0 ⟨ns, 0, 0, 37⟩ := ⟨hl, Int.le_refl 0, Int.le_refl 0, Int.le_refl 0, by show (0 : Int) ≤ 37; decide, by show (37 : Int) < 2147483647; decide⟩
  have hsc := nr_ints ns
  refine wd_eq ?_
  unfold D_law
  refine wd_fn rfl ?_
  refine ws_set (we_ev (call1 (D := D_law_start A) (i := 0) (x := .lst (ns.map .int)) rfl rfl (start_ok A ns)) ⟨by show (1 : Nat) < 15; decide, ?_⟩)
  show WS _ [some (.lst (ns.map .int)), some (stD ⟨ns, 0, 0, 37⟩), none, none, none, none, none, none, none, none, none, none, none, none, none] _
  generalize (Dat.lst (ns.map .int)) = sc at hsc
  refine ws_setF (we_ev (d := someO) (ρ' := [some sc, some (stD ⟨ns, 0, 0, 37⟩), none, none, none, none, none, none, none, none, none, none, none, none, none]) (by kernel_rfl) ⟨by show (2 : Nat) < 15; decide, ?_⟩)
  rw [frz_someO]
  show WS _ (EV sc ⟨ns, 0, 0, 37⟩ none none none none none none none none none none none) _
  refine ws_for (wi_range (wa_e (we_c (wa_nil ⟨2, rfl, by decide, ?_⟩))))
  have len : (rngD 0 (2 : Int).toNat).length = 2 := rfl
  refine ws_forI (fun k ρ => ∃ s' b3 b4 b5 b6 b8 b9 b10 b11 b12, ρ = EV sc s' b3 b4 b5 b6 none b8 b9 b10 b11 b12 none ∧ OkS (15 * k) s' ∧ (NR b3 ∧ NR b4 ∧ NR b5 ∧ NR b6) ∧ (NR b8 ∧ NR b9 ∧ NR b10 ∧ NR b11 ∧ NR b12))
    ⟨_, none, none, none, none, none, none, none, none, none, rfl, ok0, ⟨nr_none, nr_none, nr_none, nr_none⟩, nr_none, nr_none, nr_none, nr_none, nr_none⟩
    (fun k d ρ hd ⟨s', b3, b4, b5, b6, b8, b9, b10, b11, b12, hρ, hok, h3, h8⟩ => ?_) fun ρ ⟨s', b3, b4, b5, b6, b8, b9, b10, b11, b12, hρ, hok, h3, h8⟩ => ?_
  · subst hρ
    have hk := (List.getElem?_eq_some_iff.mp hd).1
    rw [len] at hk
    obtain ⟨j, _, rfl⟩ := rng_mem (n := 2) (List.mem_of_getElem? hd)
    refine ⟨EV sc s' (some (.int (j : Int))) b4 b5 b6 none b8 b9 b10 b11 b12 none, rfl, ?_⟩
    show WS (lwT A) _ _
    exact lwT_ok A ON hok (by omega) h8 fun s2 x y z c8 c9 c10 c11 c12 h2 hx hy hz hc => ⟨.inl rfl, s2, _, _, _, _, c8, c9, c10, c11, c12, rfl, h2.mono (by omega), ⟨nr_d fun _ _ => rfl, nr_of hx, nr_of hy, nr_of hz⟩, hc⟩
  · subst hρ
    have prw : ∀ a : Addr, Pl (.raw (.ref a)) := fun a => ⟨rfl, rfl⟩
    refine ws_heldR (R := EV sc s' b3 b4 b5 b6 (some (.ol (allM hW hW))) b8 b9 b10 b11 b12 (some hW)) (by show (13 : Nat) < 15; decide) (fun a => ?_) ?_
    · refine ⟨EV sc s' b3 b4 b5 b6 (some (.ol (allM (.raw (.ref a)) (.raw (.ref a))))) b8 b9 b10 b11 b12 (some (.raw (.ref a))), ?_, rfl, ?_⟩
      · have w : WS (sSeq (sSet 7 (madeE A 13 13 13)) (sDrop (extE A 13 13 13))) (EV sc s' b3 b4 b5 b6 none b8 b9 b10 b11 b12 (some (.raw (.ref a)))) fun o ρ => o = .nx ∧ ρ = EV sc s' b3 b4 b5 b6 (some (.ol (allM (.raw (.ref a)) (.raw (.ref a))))) b8 b9 b10 b11 b12 (some (.raw (.ref a))) :=
          ws_set (we_ev (made_ev A ON (i := 13) (j := 13) (l := 13) (x := .raw (.ref a)) (y := .raw (.ref a)) (z := .raw (.ref a)) rfl rfl rfl (prw a) (prw a) (prw a)) ⟨by show (7 : Nat) < 15; decide,
            ws_drop1 (ext_ev A ON (i := 13) (j := 13) (l := 13) (x := .raw (.ref a)) (y := .raw (.ref a)) (z := .raw (.ref a)) rfl rfl rfl rfl (prw a) (prw a) (prw a)) ⟨rfl, rfl⟩⟩)
        obtain ⟨o, ρ', e, rfl, rfl⟩ := w
        exact e
      · have er : sb a (.lst [.str "v", .str "w"]) (.raw (.ref a)) = hW := if_pos rfl
        have em : (some (Dat.ol (allM (.raw (.ref a)) (.raw (.ref a))))).map (sb a (.lst [.str "v", .str "w"])) = some (.ol (allM hW hW)) := by
          show some (sb a _ _) = _
          rw [sb_allM, er]
        have ed : (some (Dat.raw (.ref a))).map (sb a (.lst [.str "v", .str "w"])) = some hW := congrArg some er
        show [Option.map _ (some sc), Option.map _ (some (stD s')), Option.map _ (some (Dat.lst some0)), Option.map _ b3, Option.map _ b4, Option.map _ b5, Option.map _ b6, Option.map _ (some (Dat.ol (allM (.raw (.ref a)) (.raw (.ref a))))), Option.map _ b8, Option.map _ b9, Option.map _ b10, Option.map _ b11, Option.map _ b12, Option.map _ (some (Dat.raw (.ref a))), none] = _
        rw [hsc, nr_st, nr_some, h3.1, h3.2.1, h3.2.2.1, h3.2.2.2, em, h8.1, h8.2.1, h8.2.2.1, h8.2.2.2.1, h8.2.2.2.2, ed]; rfl
    · refine ws_for (wi_seq (we_mv (d := .ol (allM hW hW)) rfl rfl ⟨frzs (allM hW hW), rfl, ?_⟩))
      rw [frzs_allM (x := hW) (y := hW) rfl rfl]
      show WS _ (EV sc s' b3 b4 b5 b6 none b8 b9 b10 b11 b12 (some hW)) _
      refine ws_forI (fun _ ρ => ∃ c9 c10 c11 c12, ρ = EV sc s' b3 b4 b5 b6 none b8 c9 c10 c11 c12 (some hW)) ⟨b9, b10, b11, b12, rfl⟩ (fun k d ρ hd ⟨c9, c10, c11, c12, hρ⟩ => ?_) fun ρ ⟨c9, c10, c11, c12, hρ⟩ => ?_
      · subst hρ
        obtain ⟨hk, rfl⟩ := ents_at hd
        refine ⟨EV sc s' b3 b4 b5 b6 none b8 (some (.ob k (flds hW hW k))) (some (.ob k (flds hW hW k))) (some (.fn k)) (some (.lst (due hW hW k))) (some hW), rfl, ?_⟩
        show WS (lw2 A) _ _
        exact lw2_ok ON hk rfl rfl (held_0 A k) ⟨.inl rfl, _, _, _, _, rfl⟩
      · subst hρ
        refine ws_setF (we_op (wa_nil ⟨[], rfl, .ob 63 [], if_pos (by rw [ON 63]; rfl), by show (14 : Nat) < 15; decide, ?_⟩))
        refine ws_retq (we_and (we_op (wa_vw (d := .ob 63 []) rfl (wa_nil ⟨_, rfl, .bl true, rfl, true, rfl, fun _ => ?_, fun z => (by cases z)⟩))))
        exact we_op (wa_e (we_c (wa_e (we_ev (call1 (D := D_law_kinds A) (i := 14) (x := .ob 63 []) rfl rfl (base_kinds A)) (wa_nil ⟨_, rfl, .bl true, by kernel_rfl, rfl⟩)))))
end K00
set_option Elab.async false
set_option linter.all false
set_option maxRecDepth 100000
set_option maxHeartbeats 8000000
namespace K00
open PySem PySem.Spec PyProof.Rows L2 LamX B
def obC : List (Addr × List Str) := List.flatten ([
  ([(44, ([("index" : Str)] : List Str)), (63, ([("index" : Str)] : List Str)), (82, ([("thing" : Str)] : List Str)), (101, ([("thing" : Str)] : List Str)), (120, ([("thing" : Str)] : List Str)), (139, ([("thing" : Str)] : List Str)), (158, ([("index" : Str)] : List Str)), (177, ([("thing" : Str)] : List Str)), (196, ([("thing" : Str)] : List Str)), (215, ([("thing" : Str)] : List Str)), (234, ([("deed" : Str)] : List Str)), (253, ([("index" : Str)] : List Str)), (272, ([("index" : Str)] : List Str)), (291, ([("thing" : Str)] : List Str)), (310, ([("thing" : Str)] : List Str)), (329, ([("index" : Str)] : List Str))] : List (Addr × List Str)),
  ([(348, ([("thing" : Str)] : List Str)), (367, ([("index" : Str)] : List Str)), (386, ([("thing" : Str)] : List Str)), (405, ([("fault" : Str)] : List Str)), (424, ([("thing" : Str)] : List Str)), (443, ([("thing" : Str)] : List Str)), (462, ([("thing" : Str)] : List Str)), (481, ([("thing" : Str)] : List Str)), (500, ([("thing" : Str)] : List Str)), (519, ([("thing" : Str)] : List Str)), (538, ([("thing" : Str)] : List Str)), (557, ([("thing" : Str)] : List Str)), (576, ([("thing" : Str)] : List Str)), (595, ([("thing" : Str)] : List Str)), (614, ([("thing" : Str)] : List Str)), (633, ([("thing" : Str)] : List Str))] : List (Addr × List Str)),
  ([(652, ([("index" : Str)] : List Str)), (671, ([("thing" : Str)] : List Str)), (690, ([("thing" : Str)] : List Str)), (709, ([("thing" : Str)] : List Str)), (728, ([("thing" : Str)] : List Str)), (747, ([("index" : Str)] : List Str)), (766, ([("index" : Str)] : List Str)), (785, ([("sign" : Str), ("line" : Str)] : List Str)), (804, ([("thing" : Str)] : List Str)), (823, ([("index" : Str)] : List Str)), (842, ([("index" : Str)] : List Str)), (861, ([("thing" : Str)] : List Str)), (880, ([("thing" : Str)] : List Str)), (899, ([("thing" : Str)] : List Str)), (918, ([("index" : Str)] : List Str)), (937, ([("thing" : Str)] : List Str))] : List (Addr × List Str)),
  ([(956, ([("fault" : Str)] : List Str)), (975, ([("thing" : Str)] : List Str)), (994, ([("cell" : Str)] : List Str)), (1013, ([("question" : Str)] : List Str)), (1032, ([("question" : Str)] : List Str)), (1051, ([("thing" : Str)] : List Str)), (1063, ([] : List Str)), (1075, ([] : List Str)), (1087, ([] : List Str)), (1106, ([("other" : Str), ("cell" : Str)] : List Str)), (1118, ([] : List Str)), (1137, ([("why" : Str)] : List Str)), (1149, ([] : List Str)), (1168, ([("question" : Str)] : List Str)), (1187, ([("question" : Str)] : List Str)), (24, ([] : List Str))] : List (Addr × List Str))] : List (List (Addr × List Str)))
theorem kit1 (P : Params) : obC.map (fun p => (PySem.W.clsIn (HX.preT.heap_1 P) p.1).isSome) = List.replicate 64 true := by kernel_rfl
theorem kit2 (P : Params) : obC.map (fun p => PySem.W.findIn (HX.preT.heap_1 P) (.ref p.1) "__getattribute__") = List.replicate 64 (some (some (.builtin "BaseException.__getattribute__"))) := by kernel_rfl
theorem kit3 (P : Params) : obC.map (fun p => PySem.W.findIn (HX.preT.heap_1 P) (.ref p.1) "__getattr__") = List.replicate 64 (some none) := by kernel_rfl
theorem kit4 (P : Params) : obC.map (fun p => PySem.W.subIn (HX.preT.heap_1 P) (.ref p.1) (.type "BaseException")) = List.replicate 64 (some true) := by kernel_rfl
theorem kit5 (P : Params) : obC.map (fun p => PySem.W.findIn (HX.preT.heap_1 P) (.ref p.1) "__class__") = List.replicate 64 (some (some (.builtin "object.__class__"))) := by kernel_rfl
theorem kit6 (P : Params) : obC.map (fun p => PySem.W.mroIn (HX.preT.heap_1 P) p.1 (.type "object")) = List.replicate 64 (some true) := by kernel_rfl
theorem kit7 (P : Params) : PySem.W.specialIn (HX.preT.heap_1 P) (.builtin "object.__class__") "__get__" = some (some (.builtin "getset_descriptor.__get__")) := by kernel_rfl
theorem kit8 (P : Params) : PySem.W.takesIn (HX.preT.heap_1 P) (.builtin "object.__class__") = some true := by kernel_rfl
theorem kitA (P : Params) : ∀ p ∈ obC, KitE (HX.preT.heap_1 P) p.1 := kitE_mk (kit1 P) (kit2 P) (kit3 P) (kit4 P) (kit5 P) (kit6 P) (kit7 P) (kit8 P)
theorem kitC (P : Params) : (obC.map fun q => obC.map fun p => PySem.W.kitOne (HX.preT.heap_1 P) (.ref p.1) (.ref q.1)) = (List.range 64).map fun j => (List.range 64).map fun c => some (c == j || j == 63) := by kernel_rfl
theorem kitV (P : Params) : (obC.map fun p => PySem.W.kitOne (HX.preT.heap_1 P) (.ref p.1) (.type "ValueError")) = (List.range 64).map fun c => some true := by kernel_rfl
theorem kitL (P : Params) : (obC.map fun p => PySem.W.kitOne (HX.preT.heap_1 P) (.ref p.1) (.type "LookupError")) = (List.range 64).map fun c => some false := by kernel_rfl
theorem kitR (P : Params) : (obC.map fun p => PySem.W.kitOne (HX.preT.heap_1 P) (.ref p.1) (.type "ArithmeticError")) = (List.range 64).map fun c => some false := by kernel_rfl
theorem kitT (P : Params) : (obC.map fun p => PySem.W.kitOne (HX.preT.heap_1 P) (.ref p.1) (.type "TypeError")) = (List.range 64).map fun c => some false := by kernel_rfl
end K00
set_option Elab.async false
set_option linter.all false
set_option maxRecDepth 100000
set_option maxHeartbeats 8000000
namespace K00
open PySem PySem.Spec PyProof.Rows L2 LamX B
def ini (i : Nat) : Stmt := match top i with
  | .ClassDef _ _ _ b _ _ _ _ _ _ _ => b.getD 0 (.Pass ⟨0, 0, 0, 0⟩)
  | x => x
theorem si_BadBarred : FnScope ["self", "index"] ["self", "index"] (defScope (ini 2)) := ⟨rfl, rfl, rfl, by decide +kernel, rfl, by decide +kernel, by decide +kernel⟩
theorem si_BadBegins : FnScope ["self", "index"] ["self", "index"] (defScope (ini 3)) := ⟨rfl, rfl, rfl, by decide +kernel, rfl, by decide +kernel, by decide +kernel⟩
theorem si_BadBoard : FnScope ["self", "thing"] ["self", "thing"] (defScope (ini 4)) := ⟨rfl, rfl, rfl, by decide +kernel, rfl, by decide +kernel, by decide +kernel⟩
theorem si_BadBox : FnScope ["self", "thing"] ["self", "thing"] (defScope (ini 5)) := ⟨rfl, rfl, rfl, by decide +kernel, rfl, by decide +kernel, by decide +kernel⟩
theorem si_BadCell : FnScope ["self", "thing"] ["self", "thing"] (defScope (ini 6)) := ⟨rfl, rfl, rfl, by decide +kernel, rfl, by decide +kernel, by decide +kernel⟩
theorem si_BadChange : FnScope ["self", "thing"] ["self", "thing"] (defScope (ini 7)) := ⟨rfl, rfl, rfl, by decide +kernel, rfl, by decide +kernel, by decide +kernel⟩
theorem si_BadChoices : FnScope ["self", "index"] ["self", "index"] (defScope (ini 8)) := ⟨rfl, rfl, rfl, by decide +kernel, rfl, by decide +kernel, by decide +kernel⟩
theorem si_BadCorner : FnScope ["self", "thing"] ["self", "thing"] (defScope (ini 9)) := ⟨rfl, rfl, rfl, by decide +kernel, rfl, by decide +kernel, by decide +kernel⟩
theorem si_BadCosts : FnScope ["self", "thing"] ["self", "thing"] (defScope (ini 10)) := ⟨rfl, rfl, rfl, by decide +kernel, rfl, by decide +kernel, by decide +kernel⟩
theorem si_BadCovering : FnScope ["self", "thing"] ["self", "thing"] (defScope (ini 11)) := ⟨rfl, rfl, rfl, by decide +kernel, rfl, by decide +kernel, by decide +kernel⟩
theorem si_BadDeed : FnScope ["self", "deed"] ["self", "deed"] (defScope (ini 12)) := ⟨rfl, rfl, rfl, by decide +kernel, rfl, by decide +kernel, by decide +kernel⟩
theorem si_BadEnds : FnScope ["self", "index"] ["self", "index"] (defScope (ini 13)) := ⟨rfl, rfl, rfl, by decide +kernel, rfl, by decide +kernel, by decide +kernel⟩
theorem si_BadFloor : FnScope ["self", "index"] ["self", "index"] (defScope (ini 14)) := ⟨rfl, rfl, rfl, by decide +kernel, rfl, by decide +kernel, by decide +kernel⟩
theorem si_BadForm : FnScope ["self", "thing"] ["self", "thing"] (defScope (ini 15)) := ⟨rfl, rfl, rfl, by decide +kernel, rfl, by decide +kernel, by decide +kernel⟩
theorem si_BadGoal : FnScope ["self", "thing"] ["self", "thing"] (defScope (ini 16)) := ⟨rfl, rfl, rfl, by decide +kernel, rfl, by decide +kernel, by decide +kernel⟩
theorem si_BadGone : FnScope ["self", "index"] ["self", "index"] (defScope (ini 17)) := ⟨rfl, rfl, rfl, by decide +kernel, rfl, by decide +kernel, by decide +kernel⟩
theorem si_BadGreat : FnScope ["self", "thing"] ["self", "thing"] (defScope (ini 18)) := ⟨rfl, rfl, rfl, by decide +kernel, rfl, by decide +kernel, by decide +kernel⟩
theorem si_BadGround : FnScope ["self", "index"] ["self", "index"] (defScope (ini 19)) := ⟨rfl, rfl, rfl, by decide +kernel, rfl, by decide +kernel, by decide +kernel⟩
theorem si_BadHeap : FnScope ["self", "thing"] ["self", "thing"] (defScope (ini 20)) := ⟨rfl, rfl, rfl, by decide +kernel, rfl, by decide +kernel, by decide +kernel⟩
theorem si_BadHeights : FnScope ["self", "fault"] ["self", "fault"] (defScope (ini 21)) := ⟨rfl, rfl, rfl, by decide +kernel, rfl, by decide +kernel, by decide +kernel⟩
theorem si_BadHigh : FnScope ["self", "thing"] ["self", "thing"] (defScope (ini 22)) := ⟨rfl, rfl, rfl, by decide +kernel, rfl, by decide +kernel, by decide +kernel⟩
theorem si_BadKind : FnScope ["self", "thing"] ["self", "thing"] (defScope (ini 23)) := ⟨rfl, rfl, rfl, by decide +kernel, rfl, by decide +kernel, by decide +kernel⟩
theorem si_BadLaying : FnScope ["self", "thing"] ["self", "thing"] (defScope (ini 24)) := ⟨rfl, rfl, rfl, by decide +kernel, rfl, by decide +kernel, by decide +kernel⟩
theorem si_BadLine : FnScope ["self", "thing"] ["self", "thing"] (defScope (ini 25)) := ⟨rfl, rfl, rfl, by decide +kernel, rfl, by decide +kernel, by decide +kernel⟩
theorem si_BadMost : FnScope ["self", "thing"] ["self", "thing"] (defScope (ini 26)) := ⟨rfl, rfl, rfl, by decide +kernel, rfl, by decide +kernel, by decide +kernel⟩
theorem si_BadNumber : FnScope ["self", "thing"] ["self", "thing"] (defScope (ini 27)) := ⟨rfl, rfl, rfl, by decide +kernel, rfl, by decide +kernel, by decide +kernel⟩
theorem si_BadOne : FnScope ["self", "thing"] ["self", "thing"] (defScope (ini 28)) := ⟨rfl, rfl, rfl, by decide +kernel, rfl, by decide +kernel, by decide +kernel⟩
theorem si_BadOrder : FnScope ["self", "thing"] ["self", "thing"] (defScope (ini 29)) := ⟨rfl, rfl, rfl, by decide +kernel, rfl, by decide +kernel, by decide +kernel⟩
theorem si_BadOther : FnScope ["self", "thing"] ["self", "thing"] (defScope (ini 30)) := ⟨rfl, rfl, rfl, by decide +kernel, rfl, by decide +kernel, by decide +kernel⟩
theorem si_BadOut : FnScope ["self", "thing"] ["self", "thing"] (defScope (ini 31)) := ⟨rfl, rfl, rfl, by decide +kernel, rfl, by decide +kernel, by decide +kernel⟩
theorem si_BadPath : FnScope ["self", "thing"] ["self", "thing"] (defScope (ini 32)) := ⟨rfl, rfl, rfl, by decide +kernel, rfl, by decide +kernel, by decide +kernel⟩
theorem si_BadPoint : FnScope ["self", "thing"] ["self", "thing"] (defScope (ini 33)) := ⟨rfl, rfl, rfl, by decide +kernel, rfl, by decide +kernel, by decide +kernel⟩
theorem si_BadPoints : FnScope ["self", "index"] ["self", "index"] (defScope (ini 34)) := ⟨rfl, rfl, rfl, by decide +kernel, rfl, by decide +kernel, by decide +kernel⟩
theorem si_BadPrices : FnScope ["self", "thing"] ["self", "thing"] (defScope (ini 35)) := ⟨rfl, rfl, rfl, by decide +kernel, rfl, by decide +kernel, by decide +kernel⟩
theorem si_BadQuestion : FnScope ["self", "thing"] ["self", "thing"] (defScope (ini 36)) := ⟨rfl, rfl, rfl, by decide +kernel, rfl, by decide +kernel, by decide +kernel⟩
theorem si_BadRing : FnScope ["self", "thing"] ["self", "thing"] (defScope (ini 37)) := ⟨rfl, rfl, rfl, by decide +kernel, rfl, by decide +kernel, by decide +kernel⟩
theorem si_BadRoom : FnScope ["self", "thing"] ["self", "thing"] (defScope (ini 38)) := ⟨rfl, rfl, rfl, by decide +kernel, rfl, by decide +kernel, by decide +kernel⟩
theorem si_BadRoutes : FnScope ["self", "index"] ["self", "index"] (defScope (ini 39)) := ⟨rfl, rfl, rfl, by decide +kernel, rfl, by decide +kernel, by decide +kernel⟩
theorem si_BadTable : FnScope ["self", "index"] ["self", "index"] (defScope (ini 40)) := ⟨rfl, rfl, rfl, by decide +kernel, rfl, by decide +kernel, by decide +kernel⟩
theorem si_BadText : FnScope ["self", "line", "sign"] ["self", "line", "sign"] (defScope (ini 41)) := ⟨rfl, rfl, rfl, by decide +kernel, rfl, by decide +kernel, by decide +kernel⟩
theorem si_BadTie : FnScope ["self", "thing"] ["self", "thing"] (defScope (ini 42)) := ⟨rfl, rfl, rfl, by decide +kernel, rfl, by decide +kernel, by decide +kernel⟩
theorem si_BadTies : FnScope ["self", "index"] ["self", "index"] (defScope (ini 43)) := ⟨rfl, rfl, rfl, by decide +kernel, rfl, by decide +kernel, by decide +kernel⟩
theorem si_BadTold : FnScope ["self", "index"] ["self", "index"] (defScope (ini 44)) := ⟨rfl, rfl, rfl, by decide +kernel, rfl, by decide +kernel, by decide +kernel⟩
theorem si_BadTree : FnScope ["self", "thing"] ["self", "thing"] (defScope (ini 45)) := ⟨rfl, rfl, rfl, by decide +kernel, rfl, by decide +kernel, by decide +kernel⟩
theorem si_BadTriangle : FnScope ["self", "thing"] ["self", "thing"] (defScope (ini 46)) := ⟨rfl, rfl, rfl, by decide +kernel, rfl, by decide +kernel, by decide +kernel⟩
theorem si_BadTurn : FnScope ["self", "thing"] ["self", "thing"] (defScope (ini 47)) := ⟨rfl, rfl, rfl, by decide +kernel, rfl, by decide +kernel, by decide +kernel⟩
theorem si_BadTurns : FnScope ["self", "index"] ["self", "index"] (defScope (ini 48)) := ⟨rfl, rfl, rfl, by decide +kernel, rfl, by decide +kernel, by decide +kernel⟩
theorem si_BadWalk : FnScope ["self", "thing"] ["self", "thing"] (defScope (ini 49)) := ⟨rfl, rfl, rfl, by decide +kernel, rfl, by decide +kernel, by decide +kernel⟩
theorem si_BadWay : FnScope ["self", "fault"] ["self", "fault"] (defScope (ini 50)) := ⟨rfl, rfl, rfl, by decide +kernel, rfl, by decide +kernel, by decide +kernel⟩
theorem si_BadWide : FnScope ["self", "thing"] ["self", "thing"] (defScope (ini 51)) := ⟨rfl, rfl, rfl, by decide +kernel, rfl, by decide +kernel, by decide +kernel⟩
theorem si_CommonCell : FnScope ["self", "cell"] ["self", "cell"] (defScope (ini 52)) := ⟨rfl, rfl, rfl, by decide +kernel, rfl, by decide +kernel, by decide +kernel⟩
theorem si_InUse : FnScope ["self", "question"] ["self", "question"] (defScope (ini 53)) := ⟨rfl, rfl, rfl, by decide +kernel, rfl, by decide +kernel, by decide +kernel⟩
theorem si_IsWatched : FnScope ["self", "question"] ["self", "question"] (defScope (ini 54)) := ⟨rfl, rfl, rfl, by decide +kernel, rfl, by decide +kernel, by decide +kernel⟩
theorem si_NoCount : FnScope ["self", "thing"] ["self", "thing"] (defScope (ini 55)) := ⟨rfl, rfl, rfl, by decide +kernel, rfl, by decide +kernel, by decide +kernel⟩
theorem si_NotByTurns : FnScope ["self", "cell", "other"] ["self", "cell", "other"] (defScope (ini 59)) := ⟨rfl, rfl, rfl, by decide +kernel, rfl, by decide +kernel, by decide +kernel⟩
theorem si_NotNow : FnScope ["self", "why"] ["self", "why"] (defScope (ini 61)) := ⟨rfl, rfl, rfl, by decide +kernel, rfl, by decide +kernel, by decide +kernel⟩
theorem si_NotWatched : FnScope ["self", "question"] ["self", "question"] (defScope (ini 63)) := ⟨rfl, rfl, rfl, by decide +kernel, rfl, by decide +kernel, by decide +kernel⟩
theorem si_WouldChange : FnScope ["self", "question"] ["self", "question"] (defScope (ini 64)) := ⟨rfl, rfl, rfl, by decide +kernel, rfl, by decide +kernel, by decide +kernel⟩
theorem tu_0 {t0 t1 t2 t3 : Addr} {q0 q1 q2 q3 : Str} (h1_0 : t1 ≠ t0) (h2_0 : t2 ≠ t0) (h2_1 : t2 ≠ t1) (h3_0 : t3 ≠ t0) (h3_1 : t3 ≠ t1) (h3_2 : t3 ≠ t2) : ∀ p ∈ [(t0, q0), (t1, q1), (t2, q2), (t3, q3)], p.1 = t0 → p.2 = q0 := by
  intro p hp
  simp only [List.mem_cons, List.not_mem_nil, or_false] at hp
  rcases hp with rfl | rfl | rfl | rfl
  all_goals intro e
  all_goals first | rfl | (exfalso; first | exact h1_0 e | exact h1_0 e.symm | exact h2_0 e | exact h2_0 e.symm | exact h2_1 e | exact h2_1 e.symm | exact h3_0 e | exact h3_0 e.symm | exact h3_1 e | exact h3_1 e.symm | exact h3_2 e | exact h3_2 e.symm )
theorem tu_1 {t0 t1 t2 t3 : Addr} {q0 q1 q2 q3 : Str} (h1_0 : t1 ≠ t0) (h2_0 : t2 ≠ t0) (h2_1 : t2 ≠ t1) (h3_0 : t3 ≠ t0) (h3_1 : t3 ≠ t1) (h3_2 : t3 ≠ t2) : ∀ p ∈ [(t0, q0), (t1, q1), (t2, q2), (t3, q3)], p.1 = t1 → p.2 = q1 := by
  intro p hp
  simp only [List.mem_cons, List.not_mem_nil, or_false] at hp
  rcases hp with rfl | rfl | rfl | rfl
  all_goals intro e
  all_goals first | rfl | (exfalso; first | exact h1_0 e | exact h1_0 e.symm | exact h2_0 e | exact h2_0 e.symm | exact h2_1 e | exact h2_1 e.symm | exact h3_0 e | exact h3_0 e.symm | exact h3_1 e | exact h3_1 e.symm | exact h3_2 e | exact h3_2 e.symm )
theorem tu_2 {t0 t1 t2 t3 : Addr} {q0 q1 q2 q3 : Str} (h1_0 : t1 ≠ t0) (h2_0 : t2 ≠ t0) (h2_1 : t2 ≠ t1) (h3_0 : t3 ≠ t0) (h3_1 : t3 ≠ t1) (h3_2 : t3 ≠ t2) : ∀ p ∈ [(t0, q0), (t1, q1), (t2, q2), (t3, q3)], p.1 = t2 → p.2 = q2 := by
  intro p hp
  simp only [List.mem_cons, List.not_mem_nil, or_false] at hp
  rcases hp with rfl | rfl | rfl | rfl
  all_goals intro e
  all_goals first | rfl | (exfalso; first | exact h1_0 e | exact h1_0 e.symm | exact h2_0 e | exact h2_0 e.symm | exact h2_1 e | exact h2_1 e.symm | exact h3_0 e | exact h3_0 e.symm | exact h3_1 e | exact h3_1 e.symm | exact h3_2 e | exact h3_2 e.symm )
theorem tu_3 {t0 t1 t2 t3 : Addr} {q0 q1 q2 q3 : Str} (h1_0 : t1 ≠ t0) (h2_0 : t2 ≠ t0) (h2_1 : t2 ≠ t1) (h3_0 : t3 ≠ t0) (h3_1 : t3 ≠ t1) (h3_2 : t3 ≠ t2) : ∀ p ∈ [(t0, q0), (t1, q1), (t2, q2), (t3, q3)], p.1 = t3 → p.2 = q3 := by
  intro p hp
  simp only [List.mem_cons, List.not_mem_nil, or_false] at hp
  rcases hp with rfl | rfl | rfl | rfl
  all_goals intro e
  all_goals first | rfl | (exfalso; first | exact h1_0 e | exact h1_0 e.symm | exact h2_0 e | exact h2_0 e.symm | exact h2_1 e | exact h2_1 e.symm | exact h3_0 e | exact h3_0 e.symm | exact h3_1 e | exact h3_1 e.symm | exact h3_2 e | exact h3_2 e.symm )
theorem law_cx {w : World} {P : Program} : ∀ (H : Hp) (s : Shared) (e : Value) (s' : Shared), L2.CX P w [] H s (fun _ _ _ => False) e s' → False := fun H s e s' ⟨_, _, _, _, _, _, _, _, _, _, _, _, z⟩ => z
theorem law_obF (T : TabT) (h : T.toLamT.ob = fun c => obC.getD c (0, [])) : @ObF T := fun c => by
  show (T.toLamT.ob c).2 = _
  rw [h]
  show (obC.getD c (0, [])).2 = obN.getD c []
  have e : obC.map (·.2) = obN := by kernel_rfl
  rw [← e, List.getD_eq_getElem?_getD, List.getD_eq_getElem?_getD, List.getElem?_map]
  cases obC[c]? <;> rfl
end K00
open PySem PySem.W PyProof.Rows
theorem PySem.Challenge.cw_boardturns_k00_errors_made_holds : PySem.Challenge.rw_boardturns_k00_errors_made.Holds := by
  w_on; o_law
  refine HandSHeadRun.head_any (q := HX.qv) (H := HX.hk) (ob := HX.ob) (M := 17000) (loose := HX.loose) (d := HandSHeadRun.topDef HX.R.prog 81) (kwd := []) HX.ob_eq (by kernel_rfl) (fun s => by kernel_rfl) HX.runs (by kernel_rfl) (by kernel_rfl) (by kernel_rfl) (by rfl) (by first | assumption | decide +kernel) (by decide +kernel) ⟨rfl, rfl, rfl, rfl, rfl, by decide +kernel⟩ ?hw ?hc
  case hw => w_witness2
  delta HX.hk
  k_fill
  refine LamX.walk_ofTs (l := PySem.Challenge.rw_boardturns_k00_errors_made) (n := 63) (k := 19) (x := "script") (CX := fun w => L2.CX (PySem.Challenge.rw_boardturns_k00_errors_made).prog w) rfl (by decide) (by kernel_rfl) ⟨rfl, by decide, by decide⟩ (fun w h Y => PySem.W.km_in_of Y) ?F (fun w => K00.law_cx)
  intro w mg fa h Y X G hmg0
  have hmg : mg ("law" : PySem.Str) = some (.ref fa) := by
    have e : (HandSHeadRun.topDef (HX.R).prog 81).name = ("law" : PySem.Str) := by kernel_rfl
    rw [← e]
    exact hmg0
  refine' B.use_no (x := "isinstance") X G ?nb_isinstance ?_; (case nb_isinstance => k_is); intro b_isinstance
  refine' B.use_no (x := "len") X G ?nb_len ?_; (case nb_len => k_is); intro b_len
  refine' B.use_no (x := "abs") X G ?nb_abs ?_; (case nb_abs => k_is); intro b_abs
  refine' B.use_no (x := "int") X G ?nb_int ?_; (case nb_int => k_is); intro b_int
  refine' B.use_no (x := "max") X G ?nb_max ?_; (case nb_max => k_is); intro b_max
  refine' B.use_no (x := "min") X G ?nb_min ?_; (case nb_min => k_is); intro b_min
  refine' B.use_no (x := "sum") X G ?nb_sum ?_; (case nb_sum => k_is); intro b_sum
  refine' B.use_no (x := "sorted") X G ?nb_sorted ?_; (case nb_sorted => k_is); intro b_sorted
  refine' B.use_no (x := "all") X G ?nb_all ?_; (case nb_all => k_is); intro b_all
  refine' B.use_no (x := "any") X G ?nb_any ?_; (case nb_any => k_is); intro b_any
  refine' B.use_no (x := "list") X G ?nb_list ?_; (case nb_list => k_is); intro b_list
  refine' B.use_no (x := "tuple") X G ?nb_tuple ?_; (case nb_tuple => k_is); intro b_tuple
  refine' B.use_no (x := "dict") X G ?nb_dict ?_; (case nb_dict => k_is); intro b_dict
  refine' B.use_no (x := "range") X G ?nb_range ?_; (case nb_range => k_is); intro b_range
  refine' B.use_no (x := "enumerate") X G ?nb_enumerate ?_; (case nb_enumerate => k_is); intro b_enumerate
  refine' B.use_no (x := "zip") X G ?nb_zip ?_; (case nb_zip => k_is); intro b_zip
  refine' B.use_no (x := "bool") X G ?nb_bool ?_; (case nb_bool => k_is); intro b_bool
  refine' B.use_no (x := "str") X G ?nb_str ?_; (case nb_str => k_is); intro b_str
  refine' B.use_no (x := "ValueError") X G ?nb_ValueError ?_; (case nb_ValueError => k_is); intro b_ValueError
  refine' B.use_no (x := "LookupError") X G ?nb_LookupError ?_; (case nb_LookupError => k_is); intro b_LookupError
  refine' B.use_no (x := "ArithmeticError") X G ?nb_ArithmeticError ?_; (case nb_ArithmeticError => k_is); intro b_ArithmeticError
  refine' B.use_no (x := "TypeError") X G ?nb_TypeError ?_; (case nb_TypeError => k_is); intro b_TypeError
  refine' B.use_def (f := "_law_start") (st := K00.top 66) X G ?n_law_start ?l_law_start ?c_law_start ?k_law_start ?_; (case n_law_start => k_is); (case l_law_start => k_is); (case c_law_start => k_is); (case k_law_start => k_is); intro a_law_start fd_law_start f_law_start m_law_start o_law_start
  refine' B.use_def (f := "_law_draw") (st := K00.top 67) X G ?n_law_draw ?l_law_draw ?c_law_draw ?k_law_draw ?_; (case n_law_draw => k_is); (case l_law_draw => k_is); (case c_law_draw => k_is); (case k_law_draw => k_is); intro a_law_draw fd_law_draw f_law_draw m_law_draw o_law_draw
  refine' B.use_def (f := "_law_mixed") (st := K00.top 68) X G ?n_law_mixed ?l_law_mixed ?c_law_mixed ?k_law_mixed ?_; (case n_law_mixed => k_is); (case l_law_mixed => k_is); (case c_law_mixed => k_is); (case k_law_mixed => k_is); intro a_law_mixed fd_law_mixed f_law_mixed m_law_mixed o_law_mixed
  refine' B.use_def (f := "_law_kinds_a") (st := K00.top 73) X G ?n_law_kinds_a ?l_law_kinds_a ?c_law_kinds_a ?k_law_kinds_a ?_; (case n_law_kinds_a => k_is); (case l_law_kinds_a => k_is); (case c_law_kinds_a => k_is); (case k_law_kinds_a => k_is); intro a_law_kinds_a fd_law_kinds_a f_law_kinds_a m_law_kinds_a o_law_kinds_a
  refine' B.use_def (f := "_law_kinds_b") (st := K00.top 74) X G ?n_law_kinds_b ?l_law_kinds_b ?c_law_kinds_b ?k_law_kinds_b ?_; (case n_law_kinds_b => k_is); (case l_law_kinds_b => k_is); (case c_law_kinds_b => k_is); (case k_law_kinds_b => k_is); intro a_law_kinds_b fd_law_kinds_b f_law_kinds_b m_law_kinds_b o_law_kinds_b
  refine' B.use_def (f := "_law_kinds_c") (st := K00.top 75) X G ?n_law_kinds_c ?l_law_kinds_c ?c_law_kinds_c ?k_law_kinds_c ?_; (case n_law_kinds_c => k_is); (case l_law_kinds_c => k_is); (case c_law_kinds_c => k_is); (case k_law_kinds_c => k_is); intro a_law_kinds_c fd_law_kinds_c f_law_kinds_c m_law_kinds_c o_law_kinds_c
  refine' B.use_def (f := "_law_kinds_d") (st := K00.top 76) X G ?n_law_kinds_d ?l_law_kinds_d ?c_law_kinds_d ?k_law_kinds_d ?_; (case n_law_kinds_d => k_is); (case l_law_kinds_d => k_is); (case c_law_kinds_d => k_is); (case k_law_kinds_d => k_is); intro a_law_kinds_d fd_law_kinds_d f_law_kinds_d m_law_kinds_d o_law_kinds_d
  refine' B.use_def (f := "_law_kinds") (st := K00.top 77) X G ?n_law_kinds ?l_law_kinds ?c_law_kinds ?k_law_kinds ?_; (case n_law_kinds => k_is); (case l_law_kinds => k_is); (case c_law_kinds => k_is); (case k_law_kinds => k_is); intro a_law_kinds fd_law_kinds f_law_kinds m_law_kinds o_law_kinds
  refine' B.use_def (f := "_law_is_own") (st := K00.top 78) X G ?n_law_is_own ?l_law_is_own ?c_law_is_own ?k_law_is_own ?_; (case n_law_is_own => k_is); (case l_law_is_own => k_is); (case c_law_is_own => k_is); (case k_law_is_own => k_is); intro a_law_is_own fd_law_is_own f_law_is_own m_law_is_own o_law_is_own
  refine' B.use_def (f := "_law_same") (st := K00.top 79) X G ?n_law_same ?l_law_same ?c_law_same ?k_law_same ?_; (case n_law_same => k_is); (case l_law_same => k_is); (case c_law_same => k_is); (case k_law_same => k_is); intro a_law_same fd_law_same f_law_same m_law_same o_law_same
  refine' B.use_def (f := "_law_are_these") (st := K00.top 80) X G ?n_law_are_these ?l_law_are_these ?c_law_are_these ?k_law_are_these ?_; (case n_law_are_these => k_is); (case l_law_are_these => k_is); (case c_law_are_these => k_is); (case k_law_are_these => k_is); intro a_law_are_these fd_law_are_these f_law_are_these m_law_are_these o_law_are_these
  refine' B.use_def (f := "law") (st := K00.top 81) X G ?n_law ?l_law ?c_law ?k_law ?_; (case n_law => k_is); (case l_law => k_is); (case c_law => k_is); (case k_law => k_is); intro a_law fd_law f_law m_law o_law
  refine' B.use_lam (f := "_law_made_a") (st := K00.top 69) X G ?n_law_made_a ?l_law_made_a ?c_law_made_a ?k_law_made_a ?lc_law_made_a ?v_law_made_a ?hd_law_made_a ?nt_law_made_a ?_; (case n_law_made_a => k_is); (case l_law_made_a => k_is); (case c_law_made_a => k_is); (case k_law_made_a => k_is); (case lc_law_made_a => k_is); (case v_law_made_a => rfl); (case hd_law_made_a => kernel_rfl); (case nt_law_made_a => kernel_rfl); intro a_law_made_a k_law_made_a t_law_made_a fd_law_made_a et_law_made_a f_law_made_a m_law_made_a cd_law_made_a hd_law_made_a nt_law_made_a bt_law_made_a
  refine' B.use_lam (f := "_law_made_b") (st := K00.top 70) X G ?n_law_made_b ?l_law_made_b ?c_law_made_b ?k_law_made_b ?lc_law_made_b ?v_law_made_b ?hd_law_made_b ?nt_law_made_b ?_; (case n_law_made_b => k_is); (case l_law_made_b => k_is); (case c_law_made_b => k_is); (case k_law_made_b => k_is); (case lc_law_made_b => k_is); (case v_law_made_b => rfl); (case hd_law_made_b => kernel_rfl); (case nt_law_made_b => kernel_rfl); intro a_law_made_b k_law_made_b t_law_made_b fd_law_made_b et_law_made_b f_law_made_b m_law_made_b cd_law_made_b hd_law_made_b nt_law_made_b bt_law_made_b
  refine' B.use_lam (f := "_law_made_c") (st := K00.top 71) X G ?n_law_made_c ?l_law_made_c ?c_law_made_c ?k_law_made_c ?lc_law_made_c ?v_law_made_c ?hd_law_made_c ?nt_law_made_c ?_; (case n_law_made_c => k_is); (case l_law_made_c => k_is); (case c_law_made_c => k_is); (case k_law_made_c => k_is); (case lc_law_made_c => k_is); (case v_law_made_c => rfl); (case hd_law_made_c => kernel_rfl); (case nt_law_made_c => kernel_rfl); intro a_law_made_c k_law_made_c t_law_made_c fd_law_made_c et_law_made_c f_law_made_c m_law_made_c cd_law_made_c hd_law_made_c nt_law_made_c bt_law_made_c
  refine' B.use_lam (f := "_law_made_d") (st := K00.top 72) X G ?n_law_made_d ?l_law_made_d ?c_law_made_d ?k_law_made_d ?lc_law_made_d ?v_law_made_d ?hd_law_made_d ?nt_law_made_d ?_; (case n_law_made_d => k_is); (case l_law_made_d => k_is); (case c_law_made_d => k_is); (case k_law_made_d => k_is); (case lc_law_made_d => k_is); (case v_law_made_d => rfl); (case hd_law_made_d => kernel_rfl); (case nt_law_made_d => kernel_rfl); intro a_law_made_d k_law_made_d t_law_made_d fd_law_made_d et_law_made_d f_law_made_d m_law_made_d cd_law_made_d hd_law_made_d nt_law_made_d bt_law_made_d
  refine' B.use_cls1 (cn := "BadBarred") (fld := "index") (qual := "BadBarred.__init__") (st := K00.ini 2) X G ?aC_BadBarred ?xL_BadBarred ?rv_BadBarred ?sa_BadBarred ?exC_BadBarred ?tyC_BadBarred ?kC_BadBarred ?a1_BadBarred ?t1_BadBarred ?no_BadBarred ?l1_BadBarred ?c1_BadBarred ?k1_BadBarred ?ga_BadBarred ?gg_BadBarred ?hd_BadBarred K00.si_BadBarred (fun P w base fI cdv A outer s H E => ⟨_, _, _, _, rfl, L2.pe_var rfl (.inl rfl), L2.pe_var rfl (.inl rfl), rfl⟩) (fun _ _ _ _ _ _ us hl => match us, hl with | [_, _], _ => rfl) (fun _ _ _ _ _ _ us ws h1 h2 => match us, ws, h1, h2 with | [_], [_], _, _ => rfl) ?_
  (case aC_BadBarred => k_is); (case xL_BadBarred => k_is); (case rv_BadBarred => kernel_rfl); (case sa_BadBarred => k_is); (case exC_BadBarred => k_is); (case tyC_BadBarred => k_is); (case kC_BadBarred => k_is); (case a1_BadBarred => k_is); (case t1_BadBarred => k_is); (case no_BadBarred => k_is); (case l1_BadBarred => k_is); (case c1_BadBarred => k_is); (case k1_BadBarred => k_is); (case ga_BadBarred => k_is); (case gg_BadBarred => k_is); (case hd_BadBarred => k_is); intro c_BadBarred i_BadBarred q_BadBarred e_BadBarred x_BadBarred; subst q_BadBarred
  refine' B.use_cls1 (cn := "BadBegins") (fld := "index") (qual := "BadBegins.__init__") (st := K00.ini 3) X G ?aC_BadBegins ?xL_BadBegins ?rv_BadBegins ?sa_BadBegins ?exC_BadBegins ?tyC_BadBegins ?kC_BadBegins ?a1_BadBegins ?t1_BadBegins ?no_BadBegins ?l1_BadBegins ?c1_BadBegins ?k1_BadBegins ?ga_BadBegins ?gg_BadBegins ?hd_BadBegins K00.si_BadBegins (fun P w base fI cdv A outer s H E => ⟨_, _, _, _, rfl, L2.pe_var rfl (.inl rfl), L2.pe_var rfl (.inl rfl), rfl⟩) (fun _ _ _ _ _ _ us hl => match us, hl with | [_, _], _ => rfl) (fun _ _ _ _ _ _ us ws h1 h2 => match us, ws, h1, h2 with | [_], [_], _, _ => rfl) ?_
  (case aC_BadBegins => k_is); (case xL_BadBegins => k_is); (case rv_BadBegins => kernel_rfl); (case sa_BadBegins => k_is); (case exC_BadBegins => k_is); (case tyC_BadBegins => k_is); (case kC_BadBegins => k_is); (case a1_BadBegins => k_is); (case t1_BadBegins => k_is); (case no_BadBegins => k_is); (case l1_BadBegins => k_is); (case c1_BadBegins => k_is); (case k1_BadBegins => k_is); (case ga_BadBegins => k_is); (case gg_BadBegins => k_is); (case hd_BadBegins => k_is); intro c_BadBegins i_BadBegins q_BadBegins e_BadBegins x_BadBegins; subst q_BadBegins
  refine' B.use_cls1 (cn := "BadBoard") (fld := "thing") (qual := "BadBoard.__init__") (st := K00.ini 4) X G ?aC_BadBoard ?xL_BadBoard ?rv_BadBoard ?sa_BadBoard ?exC_BadBoard ?tyC_BadBoard ?kC_BadBoard ?a1_BadBoard ?t1_BadBoard ?no_BadBoard ?l1_BadBoard ?c1_BadBoard ?k1_BadBoard ?ga_BadBoard ?gg_BadBoard ?hd_BadBoard K00.si_BadBoard (fun P w base fI cdv A outer s H E => ⟨_, _, _, _, rfl, L2.pe_var rfl (.inl rfl), L2.pe_var rfl (.inl rfl), rfl⟩) (fun _ _ _ _ _ _ us hl => match us, hl with | [_, _], _ => rfl) (fun _ _ _ _ _ _ us ws h1 h2 => match us, ws, h1, h2 with | [_], [_], _, _ => rfl) ?_
  (case aC_BadBoard => k_is); (case xL_BadBoard => k_is); (case rv_BadBoard => kernel_rfl); (case sa_BadBoard => k_is); (case exC_BadBoard => k_is); (case tyC_BadBoard => k_is); (case kC_BadBoard => k_is); (case a1_BadBoard => k_is); (case t1_BadBoard => k_is); (case no_BadBoard => k_is); (case l1_BadBoard => k_is); (case c1_BadBoard => k_is); (case k1_BadBoard => k_is); (case ga_BadBoard => k_is); (case gg_BadBoard => k_is); (case hd_BadBoard => k_is); intro c_BadBoard i_BadBoard q_BadBoard e_BadBoard x_BadBoard; subst q_BadBoard
  refine' B.use_cls1 (cn := "BadBox") (fld := "thing") (qual := "BadBox.__init__") (st := K00.ini 5) X G ?aC_BadBox ?xL_BadBox ?rv_BadBox ?sa_BadBox ?exC_BadBox ?tyC_BadBox ?kC_BadBox ?a1_BadBox ?t1_BadBox ?no_BadBox ?l1_BadBox ?c1_BadBox ?k1_BadBox ?ga_BadBox ?gg_BadBox ?hd_BadBox K00.si_BadBox (fun P w base fI cdv A outer s H E => ⟨_, _, _, _, rfl, L2.pe_var rfl (.inl rfl), L2.pe_var rfl (.inl rfl), rfl⟩) (fun _ _ _ _ _ _ us hl => match us, hl with | [_, _], _ => rfl) (fun _ _ _ _ _ _ us ws h1 h2 => match us, ws, h1, h2 with | [_], [_], _, _ => rfl) ?_
  (case aC_BadBox => k_is); (case xL_BadBox => k_is); (case rv_BadBox => kernel_rfl); (case sa_BadBox => k_is); (case exC_BadBox => k_is); (case tyC_BadBox => k_is); (case kC_BadBox => k_is); (case a1_BadBox => k_is); (case t1_BadBox => k_is); (case no_BadBox => k_is); (case l1_BadBox => k_is); (case c1_BadBox => k_is); (case k1_BadBox => k_is); (case ga_BadBox => k_is); (case gg_BadBox => k_is); (case hd_BadBox => k_is); intro c_BadBox i_BadBox q_BadBox e_BadBox x_BadBox; subst q_BadBox
  refine' B.use_cls1 (cn := "BadCell") (fld := "thing") (qual := "BadCell.__init__") (st := K00.ini 6) X G ?aC_BadCell ?xL_BadCell ?rv_BadCell ?sa_BadCell ?exC_BadCell ?tyC_BadCell ?kC_BadCell ?a1_BadCell ?t1_BadCell ?no_BadCell ?l1_BadCell ?c1_BadCell ?k1_BadCell ?ga_BadCell ?gg_BadCell ?hd_BadCell K00.si_BadCell (fun P w base fI cdv A outer s H E => ⟨_, _, _, _, rfl, L2.pe_var rfl (.inl rfl), L2.pe_var rfl (.inl rfl), rfl⟩) (fun _ _ _ _ _ _ us hl => match us, hl with | [_, _], _ => rfl) (fun _ _ _ _ _ _ us ws h1 h2 => match us, ws, h1, h2 with | [_], [_], _, _ => rfl) ?_
  (case aC_BadCell => k_is); (case xL_BadCell => k_is); (case rv_BadCell => kernel_rfl); (case sa_BadCell => k_is); (case exC_BadCell => k_is); (case tyC_BadCell => k_is); (case kC_BadCell => k_is); (case a1_BadCell => k_is); (case t1_BadCell => k_is); (case no_BadCell => k_is); (case l1_BadCell => k_is); (case c1_BadCell => k_is); (case k1_BadCell => k_is); (case ga_BadCell => k_is); (case gg_BadCell => k_is); (case hd_BadCell => k_is); intro c_BadCell i_BadCell q_BadCell e_BadCell x_BadCell; subst q_BadCell
  refine' B.use_cls1 (cn := "BadChange") (fld := "thing") (qual := "BadChange.__init__") (st := K00.ini 7) X G ?aC_BadChange ?xL_BadChange ?rv_BadChange ?sa_BadChange ?exC_BadChange ?tyC_BadChange ?kC_BadChange ?a1_BadChange ?t1_BadChange ?no_BadChange ?l1_BadChange ?c1_BadChange ?k1_BadChange ?ga_BadChange ?gg_BadChange ?hd_BadChange K00.si_BadChange (fun P w base fI cdv A outer s H E => ⟨_, _, _, _, rfl, L2.pe_var rfl (.inl rfl), L2.pe_var rfl (.inl rfl), rfl⟩) (fun _ _ _ _ _ _ us hl => match us, hl with | [_, _], _ => rfl) (fun _ _ _ _ _ _ us ws h1 h2 => match us, ws, h1, h2 with | [_], [_], _, _ => rfl) ?_
  (case aC_BadChange => k_is); (case xL_BadChange => k_is); (case rv_BadChange => kernel_rfl); (case sa_BadChange => k_is); (case exC_BadChange => k_is); (case tyC_BadChange => k_is); (case kC_BadChange => k_is); (case a1_BadChange => k_is); (case t1_BadChange => k_is); (case no_BadChange => k_is); (case l1_BadChange => k_is); (case c1_BadChange => k_is); (case k1_BadChange => k_is); (case ga_BadChange => k_is); (case gg_BadChange => k_is); (case hd_BadChange => k_is); intro c_BadChange i_BadChange q_BadChange e_BadChange x_BadChange; subst q_BadChange
  refine' B.use_cls1 (cn := "BadChoices") (fld := "index") (qual := "BadChoices.__init__") (st := K00.ini 8) X G ?aC_BadChoices ?xL_BadChoices ?rv_BadChoices ?sa_BadChoices ?exC_BadChoices ?tyC_BadChoices ?kC_BadChoices ?a1_BadChoices ?t1_BadChoices ?no_BadChoices ?l1_BadChoices ?c1_BadChoices ?k1_BadChoices ?ga_BadChoices ?gg_BadChoices ?hd_BadChoices K00.si_BadChoices (fun P w base fI cdv A outer s H E => ⟨_, _, _, _, rfl, L2.pe_var rfl (.inl rfl), L2.pe_var rfl (.inl rfl), rfl⟩) (fun _ _ _ _ _ _ us hl => match us, hl with | [_, _], _ => rfl) (fun _ _ _ _ _ _ us ws h1 h2 => match us, ws, h1, h2 with | [_], [_], _, _ => rfl) ?_
  (case aC_BadChoices => k_is); (case xL_BadChoices => k_is); (case rv_BadChoices => kernel_rfl); (case sa_BadChoices => k_is); (case exC_BadChoices => k_is); (case tyC_BadChoices => k_is); (case kC_BadChoices => k_is); (case a1_BadChoices => k_is); (case t1_BadChoices => k_is); (case no_BadChoices => k_is); (case l1_BadChoices => k_is); (case c1_BadChoices => k_is); (case k1_BadChoices => k_is); (case ga_BadChoices => k_is); (case gg_BadChoices => k_is); (case hd_BadChoices => k_is); intro c_BadChoices i_BadChoices q_BadChoices e_BadChoices x_BadChoices; subst q_BadChoices
  refine' B.use_cls1 (cn := "BadCorner") (fld := "thing") (qual := "BadCorner.__init__") (st := K00.ini 9) X G ?aC_BadCorner ?xL_BadCorner ?rv_BadCorner ?sa_BadCorner ?exC_BadCorner ?tyC_BadCorner ?kC_BadCorner ?a1_BadCorner ?t1_BadCorner ?no_BadCorner ?l1_BadCorner ?c1_BadCorner ?k1_BadCorner ?ga_BadCorner ?gg_BadCorner ?hd_BadCorner K00.si_BadCorner (fun P w base fI cdv A outer s H E => ⟨_, _, _, _, rfl, L2.pe_var rfl (.inl rfl), L2.pe_var rfl (.inl rfl), rfl⟩) (fun _ _ _ _ _ _ us hl => match us, hl with | [_, _], _ => rfl) (fun _ _ _ _ _ _ us ws h1 h2 => match us, ws, h1, h2 with | [_], [_], _, _ => rfl) ?_
  (case aC_BadCorner => k_is); (case xL_BadCorner => k_is); (case rv_BadCorner => kernel_rfl); (case sa_BadCorner => k_is); (case exC_BadCorner => k_is); (case tyC_BadCorner => k_is); (case kC_BadCorner => k_is); (case a1_BadCorner => k_is); (case t1_BadCorner => k_is); (case no_BadCorner => k_is); (case l1_BadCorner => k_is); (case c1_BadCorner => k_is); (case k1_BadCorner => k_is); (case ga_BadCorner => k_is); (case gg_BadCorner => k_is); (case hd_BadCorner => k_is); intro c_BadCorner i_BadCorner q_BadCorner e_BadCorner x_BadCorner; subst q_BadCorner
  refine' B.use_cls1 (cn := "BadCosts") (fld := "thing") (qual := "BadCosts.__init__") (st := K00.ini 10) X G ?aC_BadCosts ?xL_BadCosts ?rv_BadCosts ?sa_BadCosts ?exC_BadCosts ?tyC_BadCosts ?kC_BadCosts ?a1_BadCosts ?t1_BadCosts ?no_BadCosts ?l1_BadCosts ?c1_BadCosts ?k1_BadCosts ?ga_BadCosts ?gg_BadCosts ?hd_BadCosts K00.si_BadCosts (fun P w base fI cdv A outer s H E => ⟨_, _, _, _, rfl, L2.pe_var rfl (.inl rfl), L2.pe_var rfl (.inl rfl), rfl⟩) (fun _ _ _ _ _ _ us hl => match us, hl with | [_, _], _ => rfl) (fun _ _ _ _ _ _ us ws h1 h2 => match us, ws, h1, h2 with | [_], [_], _, _ => rfl) ?_
  (case aC_BadCosts => k_is); (case xL_BadCosts => k_is); (case rv_BadCosts => kernel_rfl); (case sa_BadCosts => k_is); (case exC_BadCosts => k_is); (case tyC_BadCosts => k_is); (case kC_BadCosts => k_is); (case a1_BadCosts => k_is); (case t1_BadCosts => k_is); (case no_BadCosts => k_is); (case l1_BadCosts => k_is); (case c1_BadCosts => k_is); (case k1_BadCosts => k_is); (case ga_BadCosts => k_is); (case gg_BadCosts => k_is); (case hd_BadCosts => k_is); intro c_BadCosts i_BadCosts q_BadCosts e_BadCosts x_BadCosts; subst q_BadCosts
  refine' B.use_cls1 (cn := "BadCovering") (fld := "thing") (qual := "BadCovering.__init__") (st := K00.ini 11) X G ?aC_BadCovering ?xL_BadCovering ?rv_BadCovering ?sa_BadCovering ?exC_BadCovering ?tyC_BadCovering ?kC_BadCovering ?a1_BadCovering ?t1_BadCovering ?no_BadCovering ?l1_BadCovering ?c1_BadCovering ?k1_BadCovering ?ga_BadCovering ?gg_BadCovering ?hd_BadCovering K00.si_BadCovering (fun P w base fI cdv A outer s H E => ⟨_, _, _, _, rfl, L2.pe_var rfl (.inl rfl), L2.pe_var rfl (.inl rfl), rfl⟩) (fun _ _ _ _ _ _ us hl => match us, hl with | [_, _], _ => rfl) (fun _ _ _ _ _ _ us ws h1 h2 => match us, ws, h1, h2 with | [_], [_], _, _ => rfl) ?_
  (case aC_BadCovering => k_is); (case xL_BadCovering => k_is); (case rv_BadCovering => kernel_rfl); (case sa_BadCovering => k_is); (case exC_BadCovering => k_is); (case tyC_BadCovering => k_is); (case kC_BadCovering => k_is); (case a1_BadCovering => k_is); (case t1_BadCovering => k_is); (case no_BadCovering => k_is); (case l1_BadCovering => k_is); (case c1_BadCovering => k_is); (case k1_BadCovering => k_is); (case ga_BadCovering => k_is); (case gg_BadCovering => k_is); (case hd_BadCovering => k_is); intro c_BadCovering i_BadCovering q_BadCovering e_BadCovering x_BadCovering; subst q_BadCovering
  refine' B.use_cls1 (cn := "BadDeed") (fld := "deed") (qual := "BadDeed.__init__") (st := K00.ini 12) X G ?aC_BadDeed ?xL_BadDeed ?rv_BadDeed ?sa_BadDeed ?exC_BadDeed ?tyC_BadDeed ?kC_BadDeed ?a1_BadDeed ?t1_BadDeed ?no_BadDeed ?l1_BadDeed ?c1_BadDeed ?k1_BadDeed ?ga_BadDeed ?gg_BadDeed ?hd_BadDeed K00.si_BadDeed (fun P w base fI cdv A outer s H E => ⟨_, _, _, _, rfl, L2.pe_var rfl (.inl rfl), L2.pe_var rfl (.inl rfl), rfl⟩) (fun _ _ _ _ _ _ us hl => match us, hl with | [_, _], _ => rfl) (fun _ _ _ _ _ _ us ws h1 h2 => match us, ws, h1, h2 with | [_], [_], _, _ => rfl) ?_
  (case aC_BadDeed => k_is); (case xL_BadDeed => k_is); (case rv_BadDeed => kernel_rfl); (case sa_BadDeed => k_is); (case exC_BadDeed => k_is); (case tyC_BadDeed => k_is); (case kC_BadDeed => k_is); (case a1_BadDeed => k_is); (case t1_BadDeed => k_is); (case no_BadDeed => k_is); (case l1_BadDeed => k_is); (case c1_BadDeed => k_is); (case k1_BadDeed => k_is); (case ga_BadDeed => k_is); (case gg_BadDeed => k_is); (case hd_BadDeed => k_is); intro c_BadDeed i_BadDeed q_BadDeed e_BadDeed x_BadDeed; subst q_BadDeed
  refine' B.use_cls1 (cn := "BadEnds") (fld := "index") (qual := "BadEnds.__init__") (st := K00.ini 13) X G ?aC_BadEnds ?xL_BadEnds ?rv_BadEnds ?sa_BadEnds ?exC_BadEnds ?tyC_BadEnds ?kC_BadEnds ?a1_BadEnds ?t1_BadEnds ?no_BadEnds ?l1_BadEnds ?c1_BadEnds ?k1_BadEnds ?ga_BadEnds ?gg_BadEnds ?hd_BadEnds K00.si_BadEnds (fun P w base fI cdv A outer s H E => ⟨_, _, _, _, rfl, L2.pe_var rfl (.inl rfl), L2.pe_var rfl (.inl rfl), rfl⟩) (fun _ _ _ _ _ _ us hl => match us, hl with | [_, _], _ => rfl) (fun _ _ _ _ _ _ us ws h1 h2 => match us, ws, h1, h2 with | [_], [_], _, _ => rfl) ?_
  (case aC_BadEnds => k_is); (case xL_BadEnds => k_is); (case rv_BadEnds => kernel_rfl); (case sa_BadEnds => k_is); (case exC_BadEnds => k_is); (case tyC_BadEnds => k_is); (case kC_BadEnds => k_is); (case a1_BadEnds => k_is); (case t1_BadEnds => k_is); (case no_BadEnds => k_is); (case l1_BadEnds => k_is); (case c1_BadEnds => k_is); (case k1_BadEnds => k_is); (case ga_BadEnds => k_is); (case gg_BadEnds => k_is); (case hd_BadEnds => k_is); intro c_BadEnds i_BadEnds q_BadEnds e_BadEnds x_BadEnds; subst q_BadEnds
  refine' B.use_cls1 (cn := "BadFloor") (fld := "index") (qual := "BadFloor.__init__") (st := K00.ini 14) X G ?aC_BadFloor ?xL_BadFloor ?rv_BadFloor ?sa_BadFloor ?exC_BadFloor ?tyC_BadFloor ?kC_BadFloor ?a1_BadFloor ?t1_BadFloor ?no_BadFloor ?l1_BadFloor ?c1_BadFloor ?k1_BadFloor ?ga_BadFloor ?gg_BadFloor ?hd_BadFloor K00.si_BadFloor (fun P w base fI cdv A outer s H E => ⟨_, _, _, _, rfl, L2.pe_var rfl (.inl rfl), L2.pe_var rfl (.inl rfl), rfl⟩) (fun _ _ _ _ _ _ us hl => match us, hl with | [_, _], _ => rfl) (fun _ _ _ _ _ _ us ws h1 h2 => match us, ws, h1, h2 with | [_], [_], _, _ => rfl) ?_
  (case aC_BadFloor => k_is); (case xL_BadFloor => k_is); (case rv_BadFloor => kernel_rfl); (case sa_BadFloor => k_is); (case exC_BadFloor => k_is); (case tyC_BadFloor => k_is); (case kC_BadFloor => k_is); (case a1_BadFloor => k_is); (case t1_BadFloor => k_is); (case no_BadFloor => k_is); (case l1_BadFloor => k_is); (case c1_BadFloor => k_is); (case k1_BadFloor => k_is); (case ga_BadFloor => k_is); (case gg_BadFloor => k_is); (case hd_BadFloor => k_is); intro c_BadFloor i_BadFloor q_BadFloor e_BadFloor x_BadFloor; subst q_BadFloor
  refine' B.use_cls1 (cn := "BadForm") (fld := "thing") (qual := "BadForm.__init__") (st := K00.ini 15) X G ?aC_BadForm ?xL_BadForm ?rv_BadForm ?sa_BadForm ?exC_BadForm ?tyC_BadForm ?kC_BadForm ?a1_BadForm ?t1_BadForm ?no_BadForm ?l1_BadForm ?c1_BadForm ?k1_BadForm ?ga_BadForm ?gg_BadForm ?hd_BadForm K00.si_BadForm (fun P w base fI cdv A outer s H E => ⟨_, _, _, _, rfl, L2.pe_var rfl (.inl rfl), L2.pe_var rfl (.inl rfl), rfl⟩) (fun _ _ _ _ _ _ us hl => match us, hl with | [_, _], _ => rfl) (fun _ _ _ _ _ _ us ws h1 h2 => match us, ws, h1, h2 with | [_], [_], _, _ => rfl) ?_
  (case aC_BadForm => k_is); (case xL_BadForm => k_is); (case rv_BadForm => kernel_rfl); (case sa_BadForm => k_is); (case exC_BadForm => k_is); (case tyC_BadForm => k_is); (case kC_BadForm => k_is); (case a1_BadForm => k_is); (case t1_BadForm => k_is); (case no_BadForm => k_is); (case l1_BadForm => k_is); (case c1_BadForm => k_is); (case k1_BadForm => k_is); (case ga_BadForm => k_is); (case gg_BadForm => k_is); (case hd_BadForm => k_is); intro c_BadForm i_BadForm q_BadForm e_BadForm x_BadForm; subst q_BadForm
  refine' B.use_cls1 (cn := "BadGoal") (fld := "thing") (qual := "BadGoal.__init__") (st := K00.ini 16) X G ?aC_BadGoal ?xL_BadGoal ?rv_BadGoal ?sa_BadGoal ?exC_BadGoal ?tyC_BadGoal ?kC_BadGoal ?a1_BadGoal ?t1_BadGoal ?no_BadGoal ?l1_BadGoal ?c1_BadGoal ?k1_BadGoal ?ga_BadGoal ?gg_BadGoal ?hd_BadGoal K00.si_BadGoal (fun P w base fI cdv A outer s H E => ⟨_, _, _, _, rfl, L2.pe_var rfl (.inl rfl), L2.pe_var rfl (.inl rfl), rfl⟩) (fun _ _ _ _ _ _ us hl => match us, hl with | [_, _], _ => rfl) (fun _ _ _ _ _ _ us ws h1 h2 => match us, ws, h1, h2 with | [_], [_], _, _ => rfl) ?_
  (case aC_BadGoal => k_is); (case xL_BadGoal => k_is); (case rv_BadGoal => kernel_rfl); (case sa_BadGoal => k_is); (case exC_BadGoal => k_is); (case tyC_BadGoal => k_is); (case kC_BadGoal => k_is); (case a1_BadGoal => k_is); (case t1_BadGoal => k_is); (case no_BadGoal => k_is); (case l1_BadGoal => k_is); (case c1_BadGoal => k_is); (case k1_BadGoal => k_is); (case ga_BadGoal => k_is); (case gg_BadGoal => k_is); (case hd_BadGoal => k_is); intro c_BadGoal i_BadGoal q_BadGoal e_BadGoal x_BadGoal; subst q_BadGoal
  refine' B.use_cls1 (cn := "BadGone") (fld := "index") (qual := "BadGone.__init__") (st := K00.ini 17) X G ?aC_BadGone ?xL_BadGone ?rv_BadGone ?sa_BadGone ?exC_BadGone ?tyC_BadGone ?kC_BadGone ?a1_BadGone ?t1_BadGone ?no_BadGone ?l1_BadGone ?c1_BadGone ?k1_BadGone ?ga_BadGone ?gg_BadGone ?hd_BadGone K00.si_BadGone (fun P w base fI cdv A outer s H E => ⟨_, _, _, _, rfl, L2.pe_var rfl (.inl rfl), L2.pe_var rfl (.inl rfl), rfl⟩) (fun _ _ _ _ _ _ us hl => match us, hl with | [_, _], _ => rfl) (fun _ _ _ _ _ _ us ws h1 h2 => match us, ws, h1, h2 with | [_], [_], _, _ => rfl) ?_
  (case aC_BadGone => k_is); (case xL_BadGone => k_is); (case rv_BadGone => kernel_rfl); (case sa_BadGone => k_is); (case exC_BadGone => k_is); (case tyC_BadGone => k_is); (case kC_BadGone => k_is); (case a1_BadGone => k_is); (case t1_BadGone => k_is); (case no_BadGone => k_is); (case l1_BadGone => k_is); (case c1_BadGone => k_is); (case k1_BadGone => k_is); (case ga_BadGone => k_is); (case gg_BadGone => k_is); (case hd_BadGone => k_is); intro c_BadGone i_BadGone q_BadGone e_BadGone x_BadGone; subst q_BadGone
  refine' B.use_cls1 (cn := "BadGreat") (fld := "thing") (qual := "BadGreat.__init__") (st := K00.ini 18) X G ?aC_BadGreat ?xL_BadGreat ?rv_BadGreat ?sa_BadGreat ?exC_BadGreat ?tyC_BadGreat ?kC_BadGreat ?a1_BadGreat ?t1_BadGreat ?no_BadGreat ?l1_BadGreat ?c1_BadGreat ?k1_BadGreat ?ga_BadGreat ?gg_BadGreat ?hd_BadGreat K00.si_BadGreat (fun P w base fI cdv A outer s H E => ⟨_, _, _, _, rfl, L2.pe_var rfl (.inl rfl), L2.pe_var rfl (.inl rfl), rfl⟩) (fun _ _ _ _ _ _ us hl => match us, hl with | [_, _], _ => rfl) (fun _ _ _ _ _ _ us ws h1 h2 => match us, ws, h1, h2 with | [_], [_], _, _ => rfl) ?_
  (case aC_BadGreat => k_is); (case xL_BadGreat => k_is); (case rv_BadGreat => kernel_rfl); (case sa_BadGreat => k_is); (case exC_BadGreat => k_is); (case tyC_BadGreat => k_is); (case kC_BadGreat => k_is); (case a1_BadGreat => k_is); (case t1_BadGreat => k_is); (case no_BadGreat => k_is); (case l1_BadGreat => k_is); (case c1_BadGreat => k_is); (case k1_BadGreat => k_is); (case ga_BadGreat => k_is); (case gg_BadGreat => k_is); (case hd_BadGreat => k_is); intro c_BadGreat i_BadGreat q_BadGreat e_BadGreat x_BadGreat; subst q_BadGreat
  refine' B.use_cls1 (cn := "BadGround") (fld := "index") (qual := "BadGround.__init__") (st := K00.ini 19) X G ?aC_BadGround ?xL_BadGround ?rv_BadGround ?sa_BadGround ?exC_BadGround ?tyC_BadGround ?kC_BadGround ?a1_BadGround ?t1_BadGround ?no_BadGround ?l1_BadGround ?c1_BadGround ?k1_BadGround ?ga_BadGround ?gg_BadGround ?hd_BadGround K00.si_BadGround (fun P w base fI cdv A outer s H E => ⟨_, _, _, _, rfl, L2.pe_var rfl (.inl rfl), L2.pe_var rfl (.inl rfl), rfl⟩) (fun _ _ _ _ _ _ us hl => match us, hl with | [_, _], _ => rfl) (fun _ _ _ _ _ _ us ws h1 h2 => match us, ws, h1, h2 with | [_], [_], _, _ => rfl) ?_
  (case aC_BadGround => k_is); (case xL_BadGround => k_is); (case rv_BadGround => kernel_rfl); (case sa_BadGround => k_is); (case exC_BadGround => k_is); (case tyC_BadGround => k_is); (case kC_BadGround => k_is); (case a1_BadGround => k_is); (case t1_BadGround => k_is); (case no_BadGround => k_is); (case l1_BadGround => k_is); (case c1_BadGround => k_is); (case k1_BadGround => k_is); (case ga_BadGround => k_is); (case gg_BadGround => k_is); (case hd_BadGround => k_is); intro c_BadGround i_BadGround q_BadGround e_BadGround x_BadGround; subst q_BadGround
  refine' B.use_cls1 (cn := "BadHeap") (fld := "thing") (qual := "BadHeap.__init__") (st := K00.ini 20) X G ?aC_BadHeap ?xL_BadHeap ?rv_BadHeap ?sa_BadHeap ?exC_BadHeap ?tyC_BadHeap ?kC_BadHeap ?a1_BadHeap ?t1_BadHeap ?no_BadHeap ?l1_BadHeap ?c1_BadHeap ?k1_BadHeap ?ga_BadHeap ?gg_BadHeap ?hd_BadHeap K00.si_BadHeap (fun P w base fI cdv A outer s H E => ⟨_, _, _, _, rfl, L2.pe_var rfl (.inl rfl), L2.pe_var rfl (.inl rfl), rfl⟩) (fun _ _ _ _ _ _ us hl => match us, hl with | [_, _], _ => rfl) (fun _ _ _ _ _ _ us ws h1 h2 => match us, ws, h1, h2 with | [_], [_], _, _ => rfl) ?_
  (case aC_BadHeap => k_is); (case xL_BadHeap => k_is); (case rv_BadHeap => kernel_rfl); (case sa_BadHeap => k_is); (case exC_BadHeap => k_is); (case tyC_BadHeap => k_is); (case kC_BadHeap => k_is); (case a1_BadHeap => k_is); (case t1_BadHeap => k_is); (case no_BadHeap => k_is); (case l1_BadHeap => k_is); (case c1_BadHeap => k_is); (case k1_BadHeap => k_is); (case ga_BadHeap => k_is); (case gg_BadHeap => k_is); (case hd_BadHeap => k_is); intro c_BadHeap i_BadHeap q_BadHeap e_BadHeap x_BadHeap; subst q_BadHeap
  refine' B.use_cls1 (cn := "BadHeights") (fld := "fault") (qual := "BadHeights.__init__") (st := K00.ini 21) X G ?aC_BadHeights ?xL_BadHeights ?rv_BadHeights ?sa_BadHeights ?exC_BadHeights ?tyC_BadHeights ?kC_BadHeights ?a1_BadHeights ?t1_BadHeights ?no_BadHeights ?l1_BadHeights ?c1_BadHeights ?k1_BadHeights ?ga_BadHeights ?gg_BadHeights ?hd_BadHeights K00.si_BadHeights (fun P w base fI cdv A outer s H E => ⟨_, _, _, _, rfl, L2.pe_var rfl (.inl rfl), L2.pe_var rfl (.inl rfl), rfl⟩) (fun _ _ _ _ _ _ us hl => match us, hl with | [_, _], _ => rfl) (fun _ _ _ _ _ _ us ws h1 h2 => match us, ws, h1, h2 with | [_], [_], _, _ => rfl) ?_
  (case aC_BadHeights => k_is); (case xL_BadHeights => k_is); (case rv_BadHeights => kernel_rfl); (case sa_BadHeights => k_is); (case exC_BadHeights => k_is); (case tyC_BadHeights => k_is); (case kC_BadHeights => k_is); (case a1_BadHeights => k_is); (case t1_BadHeights => k_is); (case no_BadHeights => k_is); (case l1_BadHeights => k_is); (case c1_BadHeights => k_is); (case k1_BadHeights => k_is); (case ga_BadHeights => k_is); (case gg_BadHeights => k_is); (case hd_BadHeights => k_is); intro c_BadHeights i_BadHeights q_BadHeights e_BadHeights x_BadHeights; subst q_BadHeights
  refine' B.use_cls1 (cn := "BadHigh") (fld := "thing") (qual := "BadHigh.__init__") (st := K00.ini 22) X G ?aC_BadHigh ?xL_BadHigh ?rv_BadHigh ?sa_BadHigh ?exC_BadHigh ?tyC_BadHigh ?kC_BadHigh ?a1_BadHigh ?t1_BadHigh ?no_BadHigh ?l1_BadHigh ?c1_BadHigh ?k1_BadHigh ?ga_BadHigh ?gg_BadHigh ?hd_BadHigh K00.si_BadHigh (fun P w base fI cdv A outer s H E => ⟨_, _, _, _, rfl, L2.pe_var rfl (.inl rfl), L2.pe_var rfl (.inl rfl), rfl⟩) (fun _ _ _ _ _ _ us hl => match us, hl with | [_, _], _ => rfl) (fun _ _ _ _ _ _ us ws h1 h2 => match us, ws, h1, h2 with | [_], [_], _, _ => rfl) ?_
  (case aC_BadHigh => k_is); (case xL_BadHigh => k_is); (case rv_BadHigh => kernel_rfl); (case sa_BadHigh => k_is); (case exC_BadHigh => k_is); (case tyC_BadHigh => k_is); (case kC_BadHigh => k_is); (case a1_BadHigh => k_is); (case t1_BadHigh => k_is); (case no_BadHigh => k_is); (case l1_BadHigh => k_is); (case c1_BadHigh => k_is); (case k1_BadHigh => k_is); (case ga_BadHigh => k_is); (case gg_BadHigh => k_is); (case hd_BadHigh => k_is); intro c_BadHigh i_BadHigh q_BadHigh e_BadHigh x_BadHigh; subst q_BadHigh
  refine' B.use_cls1 (cn := "BadKind") (fld := "thing") (qual := "BadKind.__init__") (st := K00.ini 23) X G ?aC_BadKind ?xL_BadKind ?rv_BadKind ?sa_BadKind ?exC_BadKind ?tyC_BadKind ?kC_BadKind ?a1_BadKind ?t1_BadKind ?no_BadKind ?l1_BadKind ?c1_BadKind ?k1_BadKind ?ga_BadKind ?gg_BadKind ?hd_BadKind K00.si_BadKind (fun P w base fI cdv A outer s H E => ⟨_, _, _, _, rfl, L2.pe_var rfl (.inl rfl), L2.pe_var rfl (.inl rfl), rfl⟩) (fun _ _ _ _ _ _ us hl => match us, hl with | [_, _], _ => rfl) (fun _ _ _ _ _ _ us ws h1 h2 => match us, ws, h1, h2 with | [_], [_], _, _ => rfl) ?_
  (case aC_BadKind => k_is); (case xL_BadKind => k_is); (case rv_BadKind => kernel_rfl); (case sa_BadKind => k_is); (case exC_BadKind => k_is); (case tyC_BadKind => k_is); (case kC_BadKind => k_is); (case a1_BadKind => k_is); (case t1_BadKind => k_is); (case no_BadKind => k_is); (case l1_BadKind => k_is); (case c1_BadKind => k_is); (case k1_BadKind => k_is); (case ga_BadKind => k_is); (case gg_BadKind => k_is); (case hd_BadKind => k_is); intro c_BadKind i_BadKind q_BadKind e_BadKind x_BadKind; subst q_BadKind
  refine' B.use_cls1 (cn := "BadLaying") (fld := "thing") (qual := "BadLaying.__init__") (st := K00.ini 24) X G ?aC_BadLaying ?xL_BadLaying ?rv_BadLaying ?sa_BadLaying ?exC_BadLaying ?tyC_BadLaying ?kC_BadLaying ?a1_BadLaying ?t1_BadLaying ?no_BadLaying ?l1_BadLaying ?c1_BadLaying ?k1_BadLaying ?ga_BadLaying ?gg_BadLaying ?hd_BadLaying K00.si_BadLaying (fun P w base fI cdv A outer s H E => ⟨_, _, _, _, rfl, L2.pe_var rfl (.inl rfl), L2.pe_var rfl (.inl rfl), rfl⟩) (fun _ _ _ _ _ _ us hl => match us, hl with | [_, _], _ => rfl) (fun _ _ _ _ _ _ us ws h1 h2 => match us, ws, h1, h2 with | [_], [_], _, _ => rfl) ?_
  (case aC_BadLaying => k_is); (case xL_BadLaying => k_is); (case rv_BadLaying => kernel_rfl); (case sa_BadLaying => k_is); (case exC_BadLaying => k_is); (case tyC_BadLaying => k_is); (case kC_BadLaying => k_is); (case a1_BadLaying => k_is); (case t1_BadLaying => k_is); (case no_BadLaying => k_is); (case l1_BadLaying => k_is); (case c1_BadLaying => k_is); (case k1_BadLaying => k_is); (case ga_BadLaying => k_is); (case gg_BadLaying => k_is); (case hd_BadLaying => k_is); intro c_BadLaying i_BadLaying q_BadLaying e_BadLaying x_BadLaying; subst q_BadLaying
  refine' B.use_cls1 (cn := "BadLine") (fld := "thing") (qual := "BadLine.__init__") (st := K00.ini 25) X G ?aC_BadLine ?xL_BadLine ?rv_BadLine ?sa_BadLine ?exC_BadLine ?tyC_BadLine ?kC_BadLine ?a1_BadLine ?t1_BadLine ?no_BadLine ?l1_BadLine ?c1_BadLine ?k1_BadLine ?ga_BadLine ?gg_BadLine ?hd_BadLine K00.si_BadLine (fun P w base fI cdv A outer s H E => ⟨_, _, _, _, rfl, L2.pe_var rfl (.inl rfl), L2.pe_var rfl (.inl rfl), rfl⟩) (fun _ _ _ _ _ _ us hl => match us, hl with | [_, _], _ => rfl) (fun _ _ _ _ _ _ us ws h1 h2 => match us, ws, h1, h2 with | [_], [_], _, _ => rfl) ?_
  (case aC_BadLine => k_is); (case xL_BadLine => k_is); (case rv_BadLine => kernel_rfl); (case sa_BadLine => k_is); (case exC_BadLine => k_is); (case tyC_BadLine => k_is); (case kC_BadLine => k_is); (case a1_BadLine => k_is); (case t1_BadLine => k_is); (case no_BadLine => k_is); (case l1_BadLine => k_is); (case c1_BadLine => k_is); (case k1_BadLine => k_is); (case ga_BadLine => k_is); (case gg_BadLine => k_is); (case hd_BadLine => k_is); intro c_BadLine i_BadLine q_BadLine e_BadLine x_BadLine; subst q_BadLine
  refine' B.use_cls1 (cn := "BadMost") (fld := "thing") (qual := "BadMost.__init__") (st := K00.ini 26) X G ?aC_BadMost ?xL_BadMost ?rv_BadMost ?sa_BadMost ?exC_BadMost ?tyC_BadMost ?kC_BadMost ?a1_BadMost ?t1_BadMost ?no_BadMost ?l1_BadMost ?c1_BadMost ?k1_BadMost ?ga_BadMost ?gg_BadMost ?hd_BadMost K00.si_BadMost (fun P w base fI cdv A outer s H E => ⟨_, _, _, _, rfl, L2.pe_var rfl (.inl rfl), L2.pe_var rfl (.inl rfl), rfl⟩) (fun _ _ _ _ _ _ us hl => match us, hl with | [_, _], _ => rfl) (fun _ _ _ _ _ _ us ws h1 h2 => match us, ws, h1, h2 with | [_], [_], _, _ => rfl) ?_
  (case aC_BadMost => k_is); (case xL_BadMost => k_is); (case rv_BadMost => kernel_rfl); (case sa_BadMost => k_is); (case exC_BadMost => k_is); (case tyC_BadMost => k_is); (case kC_BadMost => k_is); (case a1_BadMost => k_is); (case t1_BadMost => k_is); (case no_BadMost => k_is); (case l1_BadMost => k_is); (case c1_BadMost => k_is); (case k1_BadMost => k_is); (case ga_BadMost => k_is); (case gg_BadMost => k_is); (case hd_BadMost => k_is); intro c_BadMost i_BadMost q_BadMost e_BadMost x_BadMost; subst q_BadMost
  refine' B.use_cls1 (cn := "BadNumber") (fld := "thing") (qual := "BadNumber.__init__") (st := K00.ini 27) X G ?aC_BadNumber ?xL_BadNumber ?rv_BadNumber ?sa_BadNumber ?exC_BadNumber ?tyC_BadNumber ?kC_BadNumber ?a1_BadNumber ?t1_BadNumber ?no_BadNumber ?l1_BadNumber ?c1_BadNumber ?k1_BadNumber ?ga_BadNumber ?gg_BadNumber ?hd_BadNumber K00.si_BadNumber (fun P w base fI cdv A outer s H E => ⟨_, _, _, _, rfl, L2.pe_var rfl (.inl rfl), L2.pe_var rfl (.inl rfl), rfl⟩) (fun _ _ _ _ _ _ us hl => match us, hl with | [_, _], _ => rfl) (fun _ _ _ _ _ _ us ws h1 h2 => match us, ws, h1, h2 with | [_], [_], _, _ => rfl) ?_
  (case aC_BadNumber => k_is); (case xL_BadNumber => k_is); (case rv_BadNumber => kernel_rfl); (case sa_BadNumber => k_is); (case exC_BadNumber => k_is); (case tyC_BadNumber => k_is); (case kC_BadNumber => k_is); (case a1_BadNumber => k_is); (case t1_BadNumber => k_is); (case no_BadNumber => k_is); (case l1_BadNumber => k_is); (case c1_BadNumber => k_is); (case k1_BadNumber => k_is); (case ga_BadNumber => k_is); (case gg_BadNumber => k_is); (case hd_BadNumber => k_is); intro c_BadNumber i_BadNumber q_BadNumber e_BadNumber x_BadNumber; subst q_BadNumber
  refine' B.use_cls1 (cn := "BadOne") (fld := "thing") (qual := "BadOne.__init__") (st := K00.ini 28) X G ?aC_BadOne ?xL_BadOne ?rv_BadOne ?sa_BadOne ?exC_BadOne ?tyC_BadOne ?kC_BadOne ?a1_BadOne ?t1_BadOne ?no_BadOne ?l1_BadOne ?c1_BadOne ?k1_BadOne ?ga_BadOne ?gg_BadOne ?hd_BadOne K00.si_BadOne (fun P w base fI cdv A outer s H E => ⟨_, _, _, _, rfl, L2.pe_var rfl (.inl rfl), L2.pe_var rfl (.inl rfl), rfl⟩) (fun _ _ _ _ _ _ us hl => match us, hl with | [_, _], _ => rfl) (fun _ _ _ _ _ _ us ws h1 h2 => match us, ws, h1, h2 with | [_], [_], _, _ => rfl) ?_
  (case aC_BadOne => k_is); (case xL_BadOne => k_is); (case rv_BadOne => kernel_rfl); (case sa_BadOne => k_is); (case exC_BadOne => k_is); (case tyC_BadOne => k_is); (case kC_BadOne => k_is); (case a1_BadOne => k_is); (case t1_BadOne => k_is); (case no_BadOne => k_is); (case l1_BadOne => k_is); (case c1_BadOne => k_is); (case k1_BadOne => k_is); (case ga_BadOne => k_is); (case gg_BadOne => k_is); (case hd_BadOne => k_is); intro c_BadOne i_BadOne q_BadOne e_BadOne x_BadOne; subst q_BadOne
  refine' B.use_cls1 (cn := "BadOrder") (fld := "thing") (qual := "BadOrder.__init__") (st := K00.ini 29) X G ?aC_BadOrder ?xL_BadOrder ?rv_BadOrder ?sa_BadOrder ?exC_BadOrder ?tyC_BadOrder ?kC_BadOrder ?a1_BadOrder ?t1_BadOrder ?no_BadOrder ?l1_BadOrder ?c1_BadOrder ?k1_BadOrder ?ga_BadOrder ?gg_BadOrder ?hd_BadOrder K00.si_BadOrder (fun P w base fI cdv A outer s H E => ⟨_, _, _, _, rfl, L2.pe_var rfl (.inl rfl), L2.pe_var rfl (.inl rfl), rfl⟩) (fun _ _ _ _ _ _ us hl => match us, hl with | [_, _], _ => rfl) (fun _ _ _ _ _ _ us ws h1 h2 => match us, ws, h1, h2 with | [_], [_], _, _ => rfl) ?_
  (case aC_BadOrder => k_is); (case xL_BadOrder => k_is); (case rv_BadOrder => kernel_rfl); (case sa_BadOrder => k_is); (case exC_BadOrder => k_is); (case tyC_BadOrder => k_is); (case kC_BadOrder => k_is); (case a1_BadOrder => k_is); (case t1_BadOrder => k_is); (case no_BadOrder => k_is); (case l1_BadOrder => k_is); (case c1_BadOrder => k_is); (case k1_BadOrder => k_is); (case ga_BadOrder => k_is); (case gg_BadOrder => k_is); (case hd_BadOrder => k_is); intro c_BadOrder i_BadOrder q_BadOrder e_BadOrder x_BadOrder; subst q_BadOrder
  refine' B.use_cls1 (cn := "BadOther") (fld := "thing") (qual := "BadOther.__init__") (st := K00.ini 30) X G ?aC_BadOther ?xL_BadOther ?rv_BadOther ?sa_BadOther ?exC_BadOther ?tyC_BadOther ?kC_BadOther ?a1_BadOther ?t1_BadOther ?no_BadOther ?l1_BadOther ?c1_BadOther ?k1_BadOther ?ga_BadOther ?gg_BadOther ?hd_BadOther K00.si_BadOther (fun P w base fI cdv A outer s H E => ⟨_, _, _, _, rfl, L2.pe_var rfl (.inl rfl), L2.pe_var rfl (.inl rfl), rfl⟩) (fun _ _ _ _ _ _ us hl => match us, hl with | [_, _], _ => rfl) (fun _ _ _ _ _ _ us ws h1 h2 => match us, ws, h1, h2 with | [_], [_], _, _ => rfl) ?_
  (case aC_BadOther => k_is); (case xL_BadOther => k_is); (case rv_BadOther => kernel_rfl); (case sa_BadOther => k_is); (case exC_BadOther => k_is); (case tyC_BadOther => k_is); (case kC_BadOther => k_is); (case a1_BadOther => k_is); (case t1_BadOther => k_is); (case no_BadOther => k_is); (case l1_BadOther => k_is); (case c1_BadOther => k_is); (case k1_BadOther => k_is); (case ga_BadOther => k_is); (case gg_BadOther => k_is); (case hd_BadOther => k_is); intro c_BadOther i_BadOther q_BadOther e_BadOther x_BadOther; subst q_BadOther
  refine' B.use_cls1 (cn := "BadOut") (fld := "thing") (qual := "BadOut.__init__") (st := K00.ini 31) X G ?aC_BadOut ?xL_BadOut ?rv_BadOut ?sa_BadOut ?exC_BadOut ?tyC_BadOut ?kC_BadOut ?a1_BadOut ?t1_BadOut ?no_BadOut ?l1_BadOut ?c1_BadOut ?k1_BadOut ?ga_BadOut ?gg_BadOut ?hd_BadOut K00.si_BadOut (fun P w base fI cdv A outer s H E => ⟨_, _, _, _, rfl, L2.pe_var rfl (.inl rfl), L2.pe_var rfl (.inl rfl), rfl⟩) (fun _ _ _ _ _ _ us hl => match us, hl with | [_, _], _ => rfl) (fun _ _ _ _ _ _ us ws h1 h2 => match us, ws, h1, h2 with | [_], [_], _, _ => rfl) ?_
  (case aC_BadOut => k_is); (case xL_BadOut => k_is); (case rv_BadOut => kernel_rfl); (case sa_BadOut => k_is); (case exC_BadOut => k_is); (case tyC_BadOut => k_is); (case kC_BadOut => k_is); (case a1_BadOut => k_is); (case t1_BadOut => k_is); (case no_BadOut => k_is); (case l1_BadOut => k_is); (case c1_BadOut => k_is); (case k1_BadOut => k_is); (case ga_BadOut => k_is); (case gg_BadOut => k_is); (case hd_BadOut => k_is); intro c_BadOut i_BadOut q_BadOut e_BadOut x_BadOut; subst q_BadOut
  refine' B.use_cls1 (cn := "BadPath") (fld := "thing") (qual := "BadPath.__init__") (st := K00.ini 32) X G ?aC_BadPath ?xL_BadPath ?rv_BadPath ?sa_BadPath ?exC_BadPath ?tyC_BadPath ?kC_BadPath ?a1_BadPath ?t1_BadPath ?no_BadPath ?l1_BadPath ?c1_BadPath ?k1_BadPath ?ga_BadPath ?gg_BadPath ?hd_BadPath K00.si_BadPath (fun P w base fI cdv A outer s H E => ⟨_, _, _, _, rfl, L2.pe_var rfl (.inl rfl), L2.pe_var rfl (.inl rfl), rfl⟩) (fun _ _ _ _ _ _ us hl => match us, hl with | [_, _], _ => rfl) (fun _ _ _ _ _ _ us ws h1 h2 => match us, ws, h1, h2 with | [_], [_], _, _ => rfl) ?_
  (case aC_BadPath => k_is); (case xL_BadPath => k_is); (case rv_BadPath => kernel_rfl); (case sa_BadPath => k_is); (case exC_BadPath => k_is); (case tyC_BadPath => k_is); (case kC_BadPath => k_is); (case a1_BadPath => k_is); (case t1_BadPath => k_is); (case no_BadPath => k_is); (case l1_BadPath => k_is); (case c1_BadPath => k_is); (case k1_BadPath => k_is); (case ga_BadPath => k_is); (case gg_BadPath => k_is); (case hd_BadPath => k_is); intro c_BadPath i_BadPath q_BadPath e_BadPath x_BadPath; subst q_BadPath
  refine' B.use_cls1 (cn := "BadPoint") (fld := "thing") (qual := "BadPoint.__init__") (st := K00.ini 33) X G ?aC_BadPoint ?xL_BadPoint ?rv_BadPoint ?sa_BadPoint ?exC_BadPoint ?tyC_BadPoint ?kC_BadPoint ?a1_BadPoint ?t1_BadPoint ?no_BadPoint ?l1_BadPoint ?c1_BadPoint ?k1_BadPoint ?ga_BadPoint ?gg_BadPoint ?hd_BadPoint K00.si_BadPoint (fun P w base fI cdv A outer s H E => ⟨_, _, _, _, rfl, L2.pe_var rfl (.inl rfl), L2.pe_var rfl (.inl rfl), rfl⟩) (fun _ _ _ _ _ _ us hl => match us, hl with | [_, _], _ => rfl) (fun _ _ _ _ _ _ us ws h1 h2 => match us, ws, h1, h2 with | [_], [_], _, _ => rfl) ?_
  (case aC_BadPoint => k_is); (case xL_BadPoint => k_is); (case rv_BadPoint => kernel_rfl); (case sa_BadPoint => k_is); (case exC_BadPoint => k_is); (case tyC_BadPoint => k_is); (case kC_BadPoint => k_is); (case a1_BadPoint => k_is); (case t1_BadPoint => k_is); (case no_BadPoint => k_is); (case l1_BadPoint => k_is); (case c1_BadPoint => k_is); (case k1_BadPoint => k_is); (case ga_BadPoint => k_is); (case gg_BadPoint => k_is); (case hd_BadPoint => k_is); intro c_BadPoint i_BadPoint q_BadPoint e_BadPoint x_BadPoint; subst q_BadPoint
  refine' B.use_cls1 (cn := "BadPoints") (fld := "index") (qual := "BadPoints.__init__") (st := K00.ini 34) X G ?aC_BadPoints ?xL_BadPoints ?rv_BadPoints ?sa_BadPoints ?exC_BadPoints ?tyC_BadPoints ?kC_BadPoints ?a1_BadPoints ?t1_BadPoints ?no_BadPoints ?l1_BadPoints ?c1_BadPoints ?k1_BadPoints ?ga_BadPoints ?gg_BadPoints ?hd_BadPoints K00.si_BadPoints (fun P w base fI cdv A outer s H E => ⟨_, _, _, _, rfl, L2.pe_var rfl (.inl rfl), L2.pe_var rfl (.inl rfl), rfl⟩) (fun _ _ _ _ _ _ us hl => match us, hl with | [_, _], _ => rfl) (fun _ _ _ _ _ _ us ws h1 h2 => match us, ws, h1, h2 with | [_], [_], _, _ => rfl) ?_
  (case aC_BadPoints => k_is); (case xL_BadPoints => k_is); (case rv_BadPoints => kernel_rfl); (case sa_BadPoints => k_is); (case exC_BadPoints => k_is); (case tyC_BadPoints => k_is); (case kC_BadPoints => k_is); (case a1_BadPoints => k_is); (case t1_BadPoints => k_is); (case no_BadPoints => k_is); (case l1_BadPoints => k_is); (case c1_BadPoints => k_is); (case k1_BadPoints => k_is); (case ga_BadPoints => k_is); (case gg_BadPoints => k_is); (case hd_BadPoints => k_is); intro c_BadPoints i_BadPoints q_BadPoints e_BadPoints x_BadPoints; subst q_BadPoints
  refine' B.use_cls1 (cn := "BadPrices") (fld := "thing") (qual := "BadPrices.__init__") (st := K00.ini 35) X G ?aC_BadPrices ?xL_BadPrices ?rv_BadPrices ?sa_BadPrices ?exC_BadPrices ?tyC_BadPrices ?kC_BadPrices ?a1_BadPrices ?t1_BadPrices ?no_BadPrices ?l1_BadPrices ?c1_BadPrices ?k1_BadPrices ?ga_BadPrices ?gg_BadPrices ?hd_BadPrices K00.si_BadPrices (fun P w base fI cdv A outer s H E => ⟨_, _, _, _, rfl, L2.pe_var rfl (.inl rfl), L2.pe_var rfl (.inl rfl), rfl⟩) (fun _ _ _ _ _ _ us hl => match us, hl with | [_, _], _ => rfl) (fun _ _ _ _ _ _ us ws h1 h2 => match us, ws, h1, h2 with | [_], [_], _, _ => rfl) ?_
  (case aC_BadPrices => k_is); (case xL_BadPrices => k_is); (case rv_BadPrices => kernel_rfl); (case sa_BadPrices => k_is); (case exC_BadPrices => k_is); (case tyC_BadPrices => k_is); (case kC_BadPrices => k_is); (case a1_BadPrices => k_is); (case t1_BadPrices => k_is); (case no_BadPrices => k_is); (case l1_BadPrices => k_is); (case c1_BadPrices => k_is); (case k1_BadPrices => k_is); (case ga_BadPrices => k_is); (case gg_BadPrices => k_is); (case hd_BadPrices => k_is); intro c_BadPrices i_BadPrices q_BadPrices e_BadPrices x_BadPrices; subst q_BadPrices
  refine' B.use_cls1 (cn := "BadQuestion") (fld := "thing") (qual := "BadQuestion.__init__") (st := K00.ini 36) X G ?aC_BadQuestion ?xL_BadQuestion ?rv_BadQuestion ?sa_BadQuestion ?exC_BadQuestion ?tyC_BadQuestion ?kC_BadQuestion ?a1_BadQuestion ?t1_BadQuestion ?no_BadQuestion ?l1_BadQuestion ?c1_BadQuestion ?k1_BadQuestion ?ga_BadQuestion ?gg_BadQuestion ?hd_BadQuestion K00.si_BadQuestion (fun P w base fI cdv A outer s H E => ⟨_, _, _, _, rfl, L2.pe_var rfl (.inl rfl), L2.pe_var rfl (.inl rfl), rfl⟩) (fun _ _ _ _ _ _ us hl => match us, hl with | [_, _], _ => rfl) (fun _ _ _ _ _ _ us ws h1 h2 => match us, ws, h1, h2 with | [_], [_], _, _ => rfl) ?_
  (case aC_BadQuestion => k_is); (case xL_BadQuestion => k_is); (case rv_BadQuestion => kernel_rfl); (case sa_BadQuestion => k_is); (case exC_BadQuestion => k_is); (case tyC_BadQuestion => k_is); (case kC_BadQuestion => k_is); (case a1_BadQuestion => k_is); (case t1_BadQuestion => k_is); (case no_BadQuestion => k_is); (case l1_BadQuestion => k_is); (case c1_BadQuestion => k_is); (case k1_BadQuestion => k_is); (case ga_BadQuestion => k_is); (case gg_BadQuestion => k_is); (case hd_BadQuestion => k_is); intro c_BadQuestion i_BadQuestion q_BadQuestion e_BadQuestion x_BadQuestion; subst q_BadQuestion
  refine' B.use_cls1 (cn := "BadRing") (fld := "thing") (qual := "BadRing.__init__") (st := K00.ini 37) X G ?aC_BadRing ?xL_BadRing ?rv_BadRing ?sa_BadRing ?exC_BadRing ?tyC_BadRing ?kC_BadRing ?a1_BadRing ?t1_BadRing ?no_BadRing ?l1_BadRing ?c1_BadRing ?k1_BadRing ?ga_BadRing ?gg_BadRing ?hd_BadRing K00.si_BadRing (fun P w base fI cdv A outer s H E => ⟨_, _, _, _, rfl, L2.pe_var rfl (.inl rfl), L2.pe_var rfl (.inl rfl), rfl⟩) (fun _ _ _ _ _ _ us hl => match us, hl with | [_, _], _ => rfl) (fun _ _ _ _ _ _ us ws h1 h2 => match us, ws, h1, h2 with | [_], [_], _, _ => rfl) ?_
  (case aC_BadRing => k_is); (case xL_BadRing => k_is); (case rv_BadRing => kernel_rfl); (case sa_BadRing => k_is); (case exC_BadRing => k_is); (case tyC_BadRing => k_is); (case kC_BadRing => k_is); (case a1_BadRing => k_is); (case t1_BadRing => k_is); (case no_BadRing => k_is); (case l1_BadRing => k_is); (case c1_BadRing => k_is); (case k1_BadRing => k_is); (case ga_BadRing => k_is); (case gg_BadRing => k_is); (case hd_BadRing => k_is); intro c_BadRing i_BadRing q_BadRing e_BadRing x_BadRing; subst q_BadRing
  refine' B.use_cls1 (cn := "BadRoom") (fld := "thing") (qual := "BadRoom.__init__") (st := K00.ini 38) X G ?aC_BadRoom ?xL_BadRoom ?rv_BadRoom ?sa_BadRoom ?exC_BadRoom ?tyC_BadRoom ?kC_BadRoom ?a1_BadRoom ?t1_BadRoom ?no_BadRoom ?l1_BadRoom ?c1_BadRoom ?k1_BadRoom ?ga_BadRoom ?gg_BadRoom ?hd_BadRoom K00.si_BadRoom (fun P w base fI cdv A outer s H E => ⟨_, _, _, _, rfl, L2.pe_var rfl (.inl rfl), L2.pe_var rfl (.inl rfl), rfl⟩) (fun _ _ _ _ _ _ us hl => match us, hl with | [_, _], _ => rfl) (fun _ _ _ _ _ _ us ws h1 h2 => match us, ws, h1, h2 with | [_], [_], _, _ => rfl) ?_
  (case aC_BadRoom => k_is); (case xL_BadRoom => k_is); (case rv_BadRoom => kernel_rfl); (case sa_BadRoom => k_is); (case exC_BadRoom => k_is); (case tyC_BadRoom => k_is); (case kC_BadRoom => k_is); (case a1_BadRoom => k_is); (case t1_BadRoom => k_is); (case no_BadRoom => k_is); (case l1_BadRoom => k_is); (case c1_BadRoom => k_is); (case k1_BadRoom => k_is); (case ga_BadRoom => k_is); (case gg_BadRoom => k_is); (case hd_BadRoom => k_is); intro c_BadRoom i_BadRoom q_BadRoom e_BadRoom x_BadRoom; subst q_BadRoom
  refine' B.use_cls1 (cn := "BadRoutes") (fld := "index") (qual := "BadRoutes.__init__") (st := K00.ini 39) X G ?aC_BadRoutes ?xL_BadRoutes ?rv_BadRoutes ?sa_BadRoutes ?exC_BadRoutes ?tyC_BadRoutes ?kC_BadRoutes ?a1_BadRoutes ?t1_BadRoutes ?no_BadRoutes ?l1_BadRoutes ?c1_BadRoutes ?k1_BadRoutes ?ga_BadRoutes ?gg_BadRoutes ?hd_BadRoutes K00.si_BadRoutes (fun P w base fI cdv A outer s H E => ⟨_, _, _, _, rfl, L2.pe_var rfl (.inl rfl), L2.pe_var rfl (.inl rfl), rfl⟩) (fun _ _ _ _ _ _ us hl => match us, hl with | [_, _], _ => rfl) (fun _ _ _ _ _ _ us ws h1 h2 => match us, ws, h1, h2 with | [_], [_], _, _ => rfl) ?_
  (case aC_BadRoutes => k_is); (case xL_BadRoutes => k_is); (case rv_BadRoutes => kernel_rfl); (case sa_BadRoutes => k_is); (case exC_BadRoutes => k_is); (case tyC_BadRoutes => k_is); (case kC_BadRoutes => k_is); (case a1_BadRoutes => k_is); (case t1_BadRoutes => k_is); (case no_BadRoutes => k_is); (case l1_BadRoutes => k_is); (case c1_BadRoutes => k_is); (case k1_BadRoutes => k_is); (case ga_BadRoutes => k_is); (case gg_BadRoutes => k_is); (case hd_BadRoutes => k_is); intro c_BadRoutes i_BadRoutes q_BadRoutes e_BadRoutes x_BadRoutes; subst q_BadRoutes
  refine' B.use_cls1 (cn := "BadTable") (fld := "index") (qual := "BadTable.__init__") (st := K00.ini 40) X G ?aC_BadTable ?xL_BadTable ?rv_BadTable ?sa_BadTable ?exC_BadTable ?tyC_BadTable ?kC_BadTable ?a1_BadTable ?t1_BadTable ?no_BadTable ?l1_BadTable ?c1_BadTable ?k1_BadTable ?ga_BadTable ?gg_BadTable ?hd_BadTable K00.si_BadTable (fun P w base fI cdv A outer s H E => ⟨_, _, _, _, rfl, L2.pe_var rfl (.inl rfl), L2.pe_var rfl (.inl rfl), rfl⟩) (fun _ _ _ _ _ _ us hl => match us, hl with | [_, _], _ => rfl) (fun _ _ _ _ _ _ us ws h1 h2 => match us, ws, h1, h2 with | [_], [_], _, _ => rfl) ?_
  (case aC_BadTable => k_is); (case xL_BadTable => k_is); (case rv_BadTable => kernel_rfl); (case sa_BadTable => k_is); (case exC_BadTable => k_is); (case tyC_BadTable => k_is); (case kC_BadTable => k_is); (case a1_BadTable => k_is); (case t1_BadTable => k_is); (case no_BadTable => k_is); (case l1_BadTable => k_is); (case c1_BadTable => k_is); (case k1_BadTable => k_is); (case ga_BadTable => k_is); (case gg_BadTable => k_is); (case hd_BadTable => k_is); intro c_BadTable i_BadTable q_BadTable e_BadTable x_BadTable; subst q_BadTable
  refine' B.use_cls2 (cn := "BadText") (f1 := "line") (f2 := "sign") (qual := "BadText.__init__") (st := K00.ini 41) X G ?aC_BadText ?xL_BadText ?rv_BadText ?sa_BadText ?exC_BadText ?tyC_BadText ?kC_BadText ?a1_BadText ?t1_BadText ?no_BadText ?no2_BadText ?l1_BadText ?c1_BadText ?k1_BadText ?ga_BadText ?gg_BadText ?hd_BadText K00.si_BadText (fun P w base fI cdv A outer s H E => ⟨_, _, _, _, _, _, _, _, rfl, L2.pe_var rfl (.inl rfl), L2.pe_var rfl (.inl rfl), rfl, L2.pe_var rfl (.inl rfl), L2.pe_var rfl (.inl rfl), rfl⟩) (fun _ _ _ _ _ _ us hl => match us, hl with | [_, _, _], _ => rfl) (fun _ _ _ _ _ _ us ws h1 h2 => match us, ws, h1, h2 with | [_], [_, _], _, _ => rfl) ?_
  (case aC_BadText => k_is); (case xL_BadText => k_is); (case rv_BadText => kernel_rfl); (case sa_BadText => k_is); (case exC_BadText => k_is); (case tyC_BadText => k_is); (case kC_BadText => k_is); (case a1_BadText => k_is); (case t1_BadText => k_is); (case no_BadText => k_is); (case no2_BadText => k_is); (case l1_BadText => k_is); (case c1_BadText => k_is); (case k1_BadText => k_is); (case ga_BadText => k_is); (case gg_BadText => k_is); (case hd_BadText => k_is); intro c_BadText i_BadText q_BadText e_BadText x_BadText; subst q_BadText
  refine' B.use_cls1 (cn := "BadTie") (fld := "thing") (qual := "BadTie.__init__") (st := K00.ini 42) X G ?aC_BadTie ?xL_BadTie ?rv_BadTie ?sa_BadTie ?exC_BadTie ?tyC_BadTie ?kC_BadTie ?a1_BadTie ?t1_BadTie ?no_BadTie ?l1_BadTie ?c1_BadTie ?k1_BadTie ?ga_BadTie ?gg_BadTie ?hd_BadTie K00.si_BadTie (fun P w base fI cdv A outer s H E => ⟨_, _, _, _, rfl, L2.pe_var rfl (.inl rfl), L2.pe_var rfl (.inl rfl), rfl⟩) (fun _ _ _ _ _ _ us hl => match us, hl with | [_, _], _ => rfl) (fun _ _ _ _ _ _ us ws h1 h2 => match us, ws, h1, h2 with | [_], [_], _, _ => rfl) ?_
  (case aC_BadTie => k_is); (case xL_BadTie => k_is); (case rv_BadTie => kernel_rfl); (case sa_BadTie => k_is); (case exC_BadTie => k_is); (case tyC_BadTie => k_is); (case kC_BadTie => k_is); (case a1_BadTie => k_is); (case t1_BadTie => k_is); (case no_BadTie => k_is); (case l1_BadTie => k_is); (case c1_BadTie => k_is); (case k1_BadTie => k_is); (case ga_BadTie => k_is); (case gg_BadTie => k_is); (case hd_BadTie => k_is); intro c_BadTie i_BadTie q_BadTie e_BadTie x_BadTie; subst q_BadTie
  refine' B.use_cls1 (cn := "BadTies") (fld := "index") (qual := "BadTies.__init__") (st := K00.ini 43) X G ?aC_BadTies ?xL_BadTies ?rv_BadTies ?sa_BadTies ?exC_BadTies ?tyC_BadTies ?kC_BadTies ?a1_BadTies ?t1_BadTies ?no_BadTies ?l1_BadTies ?c1_BadTies ?k1_BadTies ?ga_BadTies ?gg_BadTies ?hd_BadTies K00.si_BadTies (fun P w base fI cdv A outer s H E => ⟨_, _, _, _, rfl, L2.pe_var rfl (.inl rfl), L2.pe_var rfl (.inl rfl), rfl⟩) (fun _ _ _ _ _ _ us hl => match us, hl with | [_, _], _ => rfl) (fun _ _ _ _ _ _ us ws h1 h2 => match us, ws, h1, h2 with | [_], [_], _, _ => rfl) ?_
  (case aC_BadTies => k_is); (case xL_BadTies => k_is); (case rv_BadTies => kernel_rfl); (case sa_BadTies => k_is); (case exC_BadTies => k_is); (case tyC_BadTies => k_is); (case kC_BadTies => k_is); (case a1_BadTies => k_is); (case t1_BadTies => k_is); (case no_BadTies => k_is); (case l1_BadTies => k_is); (case c1_BadTies => k_is); (case k1_BadTies => k_is); (case ga_BadTies => k_is); (case gg_BadTies => k_is); (case hd_BadTies => k_is); intro c_BadTies i_BadTies q_BadTies e_BadTies x_BadTies; subst q_BadTies
  refine' B.use_cls1 (cn := "BadTold") (fld := "index") (qual := "BadTold.__init__") (st := K00.ini 44) X G ?aC_BadTold ?xL_BadTold ?rv_BadTold ?sa_BadTold ?exC_BadTold ?tyC_BadTold ?kC_BadTold ?a1_BadTold ?t1_BadTold ?no_BadTold ?l1_BadTold ?c1_BadTold ?k1_BadTold ?ga_BadTold ?gg_BadTold ?hd_BadTold K00.si_BadTold (fun P w base fI cdv A outer s H E => ⟨_, _, _, _, rfl, L2.pe_var rfl (.inl rfl), L2.pe_var rfl (.inl rfl), rfl⟩) (fun _ _ _ _ _ _ us hl => match us, hl with | [_, _], _ => rfl) (fun _ _ _ _ _ _ us ws h1 h2 => match us, ws, h1, h2 with | [_], [_], _, _ => rfl) ?_
  (case aC_BadTold => k_is); (case xL_BadTold => k_is); (case rv_BadTold => kernel_rfl); (case sa_BadTold => k_is); (case exC_BadTold => k_is); (case tyC_BadTold => k_is); (case kC_BadTold => k_is); (case a1_BadTold => k_is); (case t1_BadTold => k_is); (case no_BadTold => k_is); (case l1_BadTold => k_is); (case c1_BadTold => k_is); (case k1_BadTold => k_is); (case ga_BadTold => k_is); (case gg_BadTold => k_is); (case hd_BadTold => k_is); intro c_BadTold i_BadTold q_BadTold e_BadTold x_BadTold; subst q_BadTold
  refine' B.use_cls1 (cn := "BadTree") (fld := "thing") (qual := "BadTree.__init__") (st := K00.ini 45) X G ?aC_BadTree ?xL_BadTree ?rv_BadTree ?sa_BadTree ?exC_BadTree ?tyC_BadTree ?kC_BadTree ?a1_BadTree ?t1_BadTree ?no_BadTree ?l1_BadTree ?c1_BadTree ?k1_BadTree ?ga_BadTree ?gg_BadTree ?hd_BadTree K00.si_BadTree (fun P w base fI cdv A outer s H E => ⟨_, _, _, _, rfl, L2.pe_var rfl (.inl rfl), L2.pe_var rfl (.inl rfl), rfl⟩) (fun _ _ _ _ _ _ us hl => match us, hl with | [_, _], _ => rfl) (fun _ _ _ _ _ _ us ws h1 h2 => match us, ws, h1, h2 with | [_], [_], _, _ => rfl) ?_
  (case aC_BadTree => k_is); (case xL_BadTree => k_is); (case rv_BadTree => kernel_rfl); (case sa_BadTree => k_is); (case exC_BadTree => k_is); (case tyC_BadTree => k_is); (case kC_BadTree => k_is); (case a1_BadTree => k_is); (case t1_BadTree => k_is); (case no_BadTree => k_is); (case l1_BadTree => k_is); (case c1_BadTree => k_is); (case k1_BadTree => k_is); (case ga_BadTree => k_is); (case gg_BadTree => k_is); (case hd_BadTree => k_is); intro c_BadTree i_BadTree q_BadTree e_BadTree x_BadTree; subst q_BadTree
  refine' B.use_cls1 (cn := "BadTriangle") (fld := "thing") (qual := "BadTriangle.__init__") (st := K00.ini 46) X G ?aC_BadTriangle ?xL_BadTriangle ?rv_BadTriangle ?sa_BadTriangle ?exC_BadTriangle ?tyC_BadTriangle ?kC_BadTriangle ?a1_BadTriangle ?t1_BadTriangle ?no_BadTriangle ?l1_BadTriangle ?c1_BadTriangle ?k1_BadTriangle ?ga_BadTriangle ?gg_BadTriangle ?hd_BadTriangle K00.si_BadTriangle (fun P w base fI cdv A outer s H E => ⟨_, _, _, _, rfl, L2.pe_var rfl (.inl rfl), L2.pe_var rfl (.inl rfl), rfl⟩) (fun _ _ _ _ _ _ us hl => match us, hl with | [_, _], _ => rfl) (fun _ _ _ _ _ _ us ws h1 h2 => match us, ws, h1, h2 with | [_], [_], _, _ => rfl) ?_
  (case aC_BadTriangle => k_is); (case xL_BadTriangle => k_is); (case rv_BadTriangle => kernel_rfl); (case sa_BadTriangle => k_is); (case exC_BadTriangle => k_is); (case tyC_BadTriangle => k_is); (case kC_BadTriangle => k_is); (case a1_BadTriangle => k_is); (case t1_BadTriangle => k_is); (case no_BadTriangle => k_is); (case l1_BadTriangle => k_is); (case c1_BadTriangle => k_is); (case k1_BadTriangle => k_is); (case ga_BadTriangle => k_is); (case gg_BadTriangle => k_is); (case hd_BadTriangle => k_is); intro c_BadTriangle i_BadTriangle q_BadTriangle e_BadTriangle x_BadTriangle; subst q_BadTriangle
  refine' B.use_cls1 (cn := "BadTurn") (fld := "thing") (qual := "BadTurn.__init__") (st := K00.ini 47) X G ?aC_BadTurn ?xL_BadTurn ?rv_BadTurn ?sa_BadTurn ?exC_BadTurn ?tyC_BadTurn ?kC_BadTurn ?a1_BadTurn ?t1_BadTurn ?no_BadTurn ?l1_BadTurn ?c1_BadTurn ?k1_BadTurn ?ga_BadTurn ?gg_BadTurn ?hd_BadTurn K00.si_BadTurn (fun P w base fI cdv A outer s H E => ⟨_, _, _, _, rfl, L2.pe_var rfl (.inl rfl), L2.pe_var rfl (.inl rfl), rfl⟩) (fun _ _ _ _ _ _ us hl => match us, hl with | [_, _], _ => rfl) (fun _ _ _ _ _ _ us ws h1 h2 => match us, ws, h1, h2 with | [_], [_], _, _ => rfl) ?_
  (case aC_BadTurn => k_is); (case xL_BadTurn => k_is); (case rv_BadTurn => kernel_rfl); (case sa_BadTurn => k_is); (case exC_BadTurn => k_is); (case tyC_BadTurn => k_is); (case kC_BadTurn => k_is); (case a1_BadTurn => k_is); (case t1_BadTurn => k_is); (case no_BadTurn => k_is); (case l1_BadTurn => k_is); (case c1_BadTurn => k_is); (case k1_BadTurn => k_is); (case ga_BadTurn => k_is); (case gg_BadTurn => k_is); (case hd_BadTurn => k_is); intro c_BadTurn i_BadTurn q_BadTurn e_BadTurn x_BadTurn; subst q_BadTurn
  refine' B.use_cls1 (cn := "BadTurns") (fld := "index") (qual := "BadTurns.__init__") (st := K00.ini 48) X G ?aC_BadTurns ?xL_BadTurns ?rv_BadTurns ?sa_BadTurns ?exC_BadTurns ?tyC_BadTurns ?kC_BadTurns ?a1_BadTurns ?t1_BadTurns ?no_BadTurns ?l1_BadTurns ?c1_BadTurns ?k1_BadTurns ?ga_BadTurns ?gg_BadTurns ?hd_BadTurns K00.si_BadTurns (fun P w base fI cdv A outer s H E => ⟨_, _, _, _, rfl, L2.pe_var rfl (.inl rfl), L2.pe_var rfl (.inl rfl), rfl⟩) (fun _ _ _ _ _ _ us hl => match us, hl with | [_, _], _ => rfl) (fun _ _ _ _ _ _ us ws h1 h2 => match us, ws, h1, h2 with | [_], [_], _, _ => rfl) ?_
  (case aC_BadTurns => k_is); (case xL_BadTurns => k_is); (case rv_BadTurns => kernel_rfl); (case sa_BadTurns => k_is); (case exC_BadTurns => k_is); (case tyC_BadTurns => k_is); (case kC_BadTurns => k_is); (case a1_BadTurns => k_is); (case t1_BadTurns => k_is); (case no_BadTurns => k_is); (case l1_BadTurns => k_is); (case c1_BadTurns => k_is); (case k1_BadTurns => k_is); (case ga_BadTurns => k_is); (case gg_BadTurns => k_is); (case hd_BadTurns => k_is); intro c_BadTurns i_BadTurns q_BadTurns e_BadTurns x_BadTurns; subst q_BadTurns
  refine' B.use_cls1 (cn := "BadWalk") (fld := "thing") (qual := "BadWalk.__init__") (st := K00.ini 49) X G ?aC_BadWalk ?xL_BadWalk ?rv_BadWalk ?sa_BadWalk ?exC_BadWalk ?tyC_BadWalk ?kC_BadWalk ?a1_BadWalk ?t1_BadWalk ?no_BadWalk ?l1_BadWalk ?c1_BadWalk ?k1_BadWalk ?ga_BadWalk ?gg_BadWalk ?hd_BadWalk K00.si_BadWalk (fun P w base fI cdv A outer s H E => ⟨_, _, _, _, rfl, L2.pe_var rfl (.inl rfl), L2.pe_var rfl (.inl rfl), rfl⟩) (fun _ _ _ _ _ _ us hl => match us, hl with | [_, _], _ => rfl) (fun _ _ _ _ _ _ us ws h1 h2 => match us, ws, h1, h2 with | [_], [_], _, _ => rfl) ?_
  (case aC_BadWalk => k_is); (case xL_BadWalk => k_is); (case rv_BadWalk => kernel_rfl); (case sa_BadWalk => k_is); (case exC_BadWalk => k_is); (case tyC_BadWalk => k_is); (case kC_BadWalk => k_is); (case a1_BadWalk => k_is); (case t1_BadWalk => k_is); (case no_BadWalk => k_is); (case l1_BadWalk => k_is); (case c1_BadWalk => k_is); (case k1_BadWalk => k_is); (case ga_BadWalk => k_is); (case gg_BadWalk => k_is); (case hd_BadWalk => k_is); intro c_BadWalk i_BadWalk q_BadWalk e_BadWalk x_BadWalk; subst q_BadWalk
  refine' B.use_cls1 (cn := "BadWay") (fld := "fault") (qual := "BadWay.__init__") (st := K00.ini 50) X G ?aC_BadWay ?xL_BadWay ?rv_BadWay ?sa_BadWay ?exC_BadWay ?tyC_BadWay ?kC_BadWay ?a1_BadWay ?t1_BadWay ?no_BadWay ?l1_BadWay ?c1_BadWay ?k1_BadWay ?ga_BadWay ?gg_BadWay ?hd_BadWay K00.si_BadWay (fun P w base fI cdv A outer s H E => ⟨_, _, _, _, rfl, L2.pe_var rfl (.inl rfl), L2.pe_var rfl (.inl rfl), rfl⟩) (fun _ _ _ _ _ _ us hl => match us, hl with | [_, _], _ => rfl) (fun _ _ _ _ _ _ us ws h1 h2 => match us, ws, h1, h2 with | [_], [_], _, _ => rfl) ?_
  (case aC_BadWay => k_is); (case xL_BadWay => k_is); (case rv_BadWay => kernel_rfl); (case sa_BadWay => k_is); (case exC_BadWay => k_is); (case tyC_BadWay => k_is); (case kC_BadWay => k_is); (case a1_BadWay => k_is); (case t1_BadWay => k_is); (case no_BadWay => k_is); (case l1_BadWay => k_is); (case c1_BadWay => k_is); (case k1_BadWay => k_is); (case ga_BadWay => k_is); (case gg_BadWay => k_is); (case hd_BadWay => k_is); intro c_BadWay i_BadWay q_BadWay e_BadWay x_BadWay; subst q_BadWay
  refine' B.use_cls1 (cn := "BadWide") (fld := "thing") (qual := "BadWide.__init__") (st := K00.ini 51) X G ?aC_BadWide ?xL_BadWide ?rv_BadWide ?sa_BadWide ?exC_BadWide ?tyC_BadWide ?kC_BadWide ?a1_BadWide ?t1_BadWide ?no_BadWide ?l1_BadWide ?c1_BadWide ?k1_BadWide ?ga_BadWide ?gg_BadWide ?hd_BadWide K00.si_BadWide (fun P w base fI cdv A outer s H E => ⟨_, _, _, _, rfl, L2.pe_var rfl (.inl rfl), L2.pe_var rfl (.inl rfl), rfl⟩) (fun _ _ _ _ _ _ us hl => match us, hl with | [_, _], _ => rfl) (fun _ _ _ _ _ _ us ws h1 h2 => match us, ws, h1, h2 with | [_], [_], _, _ => rfl) ?_
  (case aC_BadWide => k_is); (case xL_BadWide => k_is); (case rv_BadWide => kernel_rfl); (case sa_BadWide => k_is); (case exC_BadWide => k_is); (case tyC_BadWide => k_is); (case kC_BadWide => k_is); (case a1_BadWide => k_is); (case t1_BadWide => k_is); (case no_BadWide => k_is); (case l1_BadWide => k_is); (case c1_BadWide => k_is); (case k1_BadWide => k_is); (case ga_BadWide => k_is); (case gg_BadWide => k_is); (case hd_BadWide => k_is); intro c_BadWide i_BadWide q_BadWide e_BadWide x_BadWide; subst q_BadWide
  refine' B.use_cls1 (cn := "CommonCell") (fld := "cell") (qual := "CommonCell.__init__") (st := K00.ini 52) X G ?aC_CommonCell ?xL_CommonCell ?rv_CommonCell ?sa_CommonCell ?exC_CommonCell ?tyC_CommonCell ?kC_CommonCell ?a1_CommonCell ?t1_CommonCell ?no_CommonCell ?l1_CommonCell ?c1_CommonCell ?k1_CommonCell ?ga_CommonCell ?gg_CommonCell ?hd_CommonCell K00.si_CommonCell (fun P w base fI cdv A outer s H E => ⟨_, _, _, _, rfl, L2.pe_var rfl (.inl rfl), L2.pe_var rfl (.inl rfl), rfl⟩) (fun _ _ _ _ _ _ us hl => match us, hl with | [_, _], _ => rfl) (fun _ _ _ _ _ _ us ws h1 h2 => match us, ws, h1, h2 with | [_], [_], _, _ => rfl) ?_
  (case aC_CommonCell => k_is); (case xL_CommonCell => k_is); (case rv_CommonCell => kernel_rfl); (case sa_CommonCell => k_is); (case exC_CommonCell => k_is); (case tyC_CommonCell => k_is); (case kC_CommonCell => k_is); (case a1_CommonCell => k_is); (case t1_CommonCell => k_is); (case no_CommonCell => k_is); (case l1_CommonCell => k_is); (case c1_CommonCell => k_is); (case k1_CommonCell => k_is); (case ga_CommonCell => k_is); (case gg_CommonCell => k_is); (case hd_CommonCell => k_is); intro c_CommonCell i_CommonCell q_CommonCell e_CommonCell x_CommonCell; subst q_CommonCell
  refine' B.use_cls1 (cn := "InUse") (fld := "question") (qual := "InUse.__init__") (st := K00.ini 53) X G ?aC_InUse ?xL_InUse ?rv_InUse ?sa_InUse ?exC_InUse ?tyC_InUse ?kC_InUse ?a1_InUse ?t1_InUse ?no_InUse ?l1_InUse ?c1_InUse ?k1_InUse ?ga_InUse ?gg_InUse ?hd_InUse K00.si_InUse (fun P w base fI cdv A outer s H E => ⟨_, _, _, _, rfl, L2.pe_var rfl (.inl rfl), L2.pe_var rfl (.inl rfl), rfl⟩) (fun _ _ _ _ _ _ us hl => match us, hl with | [_, _], _ => rfl) (fun _ _ _ _ _ _ us ws h1 h2 => match us, ws, h1, h2 with | [_], [_], _, _ => rfl) ?_
  (case aC_InUse => k_is); (case xL_InUse => k_is); (case rv_InUse => kernel_rfl); (case sa_InUse => k_is); (case exC_InUse => k_is); (case tyC_InUse => k_is); (case kC_InUse => k_is); (case a1_InUse => k_is); (case t1_InUse => k_is); (case no_InUse => k_is); (case l1_InUse => k_is); (case c1_InUse => k_is); (case k1_InUse => k_is); (case ga_InUse => k_is); (case gg_InUse => k_is); (case hd_InUse => k_is); intro c_InUse i_InUse q_InUse e_InUse x_InUse; subst q_InUse
  refine' B.use_cls1 (cn := "IsWatched") (fld := "question") (qual := "IsWatched.__init__") (st := K00.ini 54) X G ?aC_IsWatched ?xL_IsWatched ?rv_IsWatched ?sa_IsWatched ?exC_IsWatched ?tyC_IsWatched ?kC_IsWatched ?a1_IsWatched ?t1_IsWatched ?no_IsWatched ?l1_IsWatched ?c1_IsWatched ?k1_IsWatched ?ga_IsWatched ?gg_IsWatched ?hd_IsWatched K00.si_IsWatched (fun P w base fI cdv A outer s H E => ⟨_, _, _, _, rfl, L2.pe_var rfl (.inl rfl), L2.pe_var rfl (.inl rfl), rfl⟩) (fun _ _ _ _ _ _ us hl => match us, hl with | [_, _], _ => rfl) (fun _ _ _ _ _ _ us ws h1 h2 => match us, ws, h1, h2 with | [_], [_], _, _ => rfl) ?_
  (case aC_IsWatched => k_is); (case xL_IsWatched => k_is); (case rv_IsWatched => kernel_rfl); (case sa_IsWatched => k_is); (case exC_IsWatched => k_is); (case tyC_IsWatched => k_is); (case kC_IsWatched => k_is); (case a1_IsWatched => k_is); (case t1_IsWatched => k_is); (case no_IsWatched => k_is); (case l1_IsWatched => k_is); (case c1_IsWatched => k_is); (case k1_IsWatched => k_is); (case ga_IsWatched => k_is); (case gg_IsWatched => k_is); (case hd_IsWatched => k_is); intro c_IsWatched i_IsWatched q_IsWatched e_IsWatched x_IsWatched; subst q_IsWatched
  refine' B.use_cls1 (cn := "NoCount") (fld := "thing") (qual := "NoCount.__init__") (st := K00.ini 55) X G ?aC_NoCount ?xL_NoCount ?rv_NoCount ?sa_NoCount ?exC_NoCount ?tyC_NoCount ?kC_NoCount ?a1_NoCount ?t1_NoCount ?no_NoCount ?l1_NoCount ?c1_NoCount ?k1_NoCount ?ga_NoCount ?gg_NoCount ?hd_NoCount K00.si_NoCount (fun P w base fI cdv A outer s H E => ⟨_, _, _, _, rfl, L2.pe_var rfl (.inl rfl), L2.pe_var rfl (.inl rfl), rfl⟩) (fun _ _ _ _ _ _ us hl => match us, hl with | [_, _], _ => rfl) (fun _ _ _ _ _ _ us ws h1 h2 => match us, ws, h1, h2 with | [_], [_], _, _ => rfl) ?_
  (case aC_NoCount => k_is); (case xL_NoCount => k_is); (case rv_NoCount => kernel_rfl); (case sa_NoCount => k_is); (case exC_NoCount => k_is); (case tyC_NoCount => k_is); (case kC_NoCount => k_is); (case a1_NoCount => k_is); (case t1_NoCount => k_is); (case no_NoCount => k_is); (case l1_NoCount => k_is); (case c1_NoCount => k_is); (case k1_NoCount => k_is); (case ga_NoCount => k_is); (case gg_NoCount => k_is); (case hd_NoCount => k_is); intro c_NoCount i_NoCount q_NoCount e_NoCount x_NoCount; subst q_NoCount
  refine' B.use_cls0 (cn := "NoFlip") X G ?aC_NoFlip ?q_NoFlip ?kC_NoFlip ?_; (case aC_NoFlip => k_is); (case q_NoFlip => kernel_rfl); (case kC_NoFlip => k_is); intro c_NoFlip q_NoFlip e_NoFlip; subst q_NoFlip
  refine' B.use_cls0 (cn := "NoLaying") X G ?aC_NoLaying ?q_NoLaying ?kC_NoLaying ?_; (case aC_NoLaying => k_is); (case q_NoLaying => kernel_rfl); (case kC_NoLaying => k_is); intro c_NoLaying q_NoLaying e_NoLaying; subst q_NoLaying
  refine' B.use_cls0 (cn := "NoTree") X G ?aC_NoTree ?q_NoTree ?kC_NoTree ?_; (case aC_NoTree => k_is); (case q_NoTree => kernel_rfl); (case kC_NoTree => k_is); intro c_NoTree q_NoTree e_NoTree; subst q_NoTree
  refine' B.use_cls2 (cn := "NotByTurns") (f1 := "cell") (f2 := "other") (qual := "NotByTurns.__init__") (st := K00.ini 59) X G ?aC_NotByTurns ?xL_NotByTurns ?rv_NotByTurns ?sa_NotByTurns ?exC_NotByTurns ?tyC_NotByTurns ?kC_NotByTurns ?a1_NotByTurns ?t1_NotByTurns ?no_NotByTurns ?no2_NotByTurns ?l1_NotByTurns ?c1_NotByTurns ?k1_NotByTurns ?ga_NotByTurns ?gg_NotByTurns ?hd_NotByTurns K00.si_NotByTurns (fun P w base fI cdv A outer s H E => ⟨_, _, _, _, _, _, _, _, rfl, L2.pe_var rfl (.inl rfl), L2.pe_var rfl (.inl rfl), rfl, L2.pe_var rfl (.inl rfl), L2.pe_var rfl (.inl rfl), rfl⟩) (fun _ _ _ _ _ _ us hl => match us, hl with | [_, _, _], _ => rfl) (fun _ _ _ _ _ _ us ws h1 h2 => match us, ws, h1, h2 with | [_], [_, _], _, _ => rfl) ?_
  (case aC_NotByTurns => k_is); (case xL_NotByTurns => k_is); (case rv_NotByTurns => kernel_rfl); (case sa_NotByTurns => k_is); (case exC_NotByTurns => k_is); (case tyC_NotByTurns => k_is); (case kC_NotByTurns => k_is); (case a1_NotByTurns => k_is); (case t1_NotByTurns => k_is); (case no_NotByTurns => k_is); (case no2_NotByTurns => k_is); (case l1_NotByTurns => k_is); (case c1_NotByTurns => k_is); (case k1_NotByTurns => k_is); (case ga_NotByTurns => k_is); (case gg_NotByTurns => k_is); (case hd_NotByTurns => k_is); intro c_NotByTurns i_NotByTurns q_NotByTurns e_NotByTurns x_NotByTurns; subst q_NotByTurns
  refine' B.use_cls0 (cn := "NotCheapest") X G ?aC_NotCheapest ?q_NotCheapest ?kC_NotCheapest ?_; (case aC_NotCheapest => k_is); (case q_NotCheapest => kernel_rfl); (case kC_NotCheapest => k_is); intro c_NotCheapest q_NotCheapest e_NotCheapest; subst q_NotCheapest
  refine' B.use_cls1 (cn := "NotNow") (fld := "why") (qual := "NotNow.__init__") (st := K00.ini 61) X G ?aC_NotNow ?xL_NotNow ?rv_NotNow ?sa_NotNow ?exC_NotNow ?tyC_NotNow ?kC_NotNow ?a1_NotNow ?t1_NotNow ?no_NotNow ?l1_NotNow ?c1_NotNow ?k1_NotNow ?ga_NotNow ?gg_NotNow ?hd_NotNow K00.si_NotNow (fun P w base fI cdv A outer s H E => ⟨_, _, _, _, rfl, L2.pe_var rfl (.inl rfl), L2.pe_var rfl (.inl rfl), rfl⟩) (fun _ _ _ _ _ _ us hl => match us, hl with | [_, _], _ => rfl) (fun _ _ _ _ _ _ us ws h1 h2 => match us, ws, h1, h2 with | [_], [_], _, _ => rfl) ?_
  (case aC_NotNow => k_is); (case xL_NotNow => k_is); (case rv_NotNow => kernel_rfl); (case sa_NotNow => k_is); (case exC_NotNow => k_is); (case tyC_NotNow => k_is); (case kC_NotNow => k_is); (case a1_NotNow => k_is); (case t1_NotNow => k_is); (case no_NotNow => k_is); (case l1_NotNow => k_is); (case c1_NotNow => k_is); (case k1_NotNow => k_is); (case ga_NotNow => k_is); (case gg_NotNow => k_is); (case hd_NotNow => k_is); intro c_NotNow i_NotNow q_NotNow e_NotNow x_NotNow; subst q_NotNow
  refine' B.use_cls0 (cn := "NotPlain") X G ?aC_NotPlain ?q_NotPlain ?kC_NotPlain ?_; (case aC_NotPlain => k_is); (case q_NotPlain => kernel_rfl); (case kC_NotPlain => k_is); intro c_NotPlain q_NotPlain e_NotPlain; subst q_NotPlain
  refine' B.use_cls1 (cn := "NotWatched") (fld := "question") (qual := "NotWatched.__init__") (st := K00.ini 63) X G ?aC_NotWatched ?xL_NotWatched ?rv_NotWatched ?sa_NotWatched ?exC_NotWatched ?tyC_NotWatched ?kC_NotWatched ?a1_NotWatched ?t1_NotWatched ?no_NotWatched ?l1_NotWatched ?c1_NotWatched ?k1_NotWatched ?ga_NotWatched ?gg_NotWatched ?hd_NotWatched K00.si_NotWatched (fun P w base fI cdv A outer s H E => ⟨_, _, _, _, rfl, L2.pe_var rfl (.inl rfl), L2.pe_var rfl (.inl rfl), rfl⟩) (fun _ _ _ _ _ _ us hl => match us, hl with | [_, _], _ => rfl) (fun _ _ _ _ _ _ us ws h1 h2 => match us, ws, h1, h2 with | [_], [_], _, _ => rfl) ?_
  (case aC_NotWatched => k_is); (case xL_NotWatched => k_is); (case rv_NotWatched => kernel_rfl); (case sa_NotWatched => k_is); (case exC_NotWatched => k_is); (case tyC_NotWatched => k_is); (case kC_NotWatched => k_is); (case a1_NotWatched => k_is); (case t1_NotWatched => k_is); (case no_NotWatched => k_is); (case l1_NotWatched => k_is); (case c1_NotWatched => k_is); (case k1_NotWatched => k_is); (case ga_NotWatched => k_is); (case gg_NotWatched => k_is); (case hd_NotWatched => k_is); intro c_NotWatched i_NotWatched q_NotWatched e_NotWatched x_NotWatched; subst q_NotWatched
  refine' B.use_cls1 (cn := "WouldChange") (fld := "question") (qual := "WouldChange.__init__") (st := K00.ini 64) X G ?aC_WouldChange ?xL_WouldChange ?rv_WouldChange ?sa_WouldChange ?exC_WouldChange ?tyC_WouldChange ?kC_WouldChange ?a1_WouldChange ?t1_WouldChange ?no_WouldChange ?l1_WouldChange ?c1_WouldChange ?k1_WouldChange ?ga_WouldChange ?gg_WouldChange ?hd_WouldChange K00.si_WouldChange (fun P w base fI cdv A outer s H E => ⟨_, _, _, _, rfl, L2.pe_var rfl (.inl rfl), L2.pe_var rfl (.inl rfl), rfl⟩) (fun _ _ _ _ _ _ us hl => match us, hl with | [_, _], _ => rfl) (fun _ _ _ _ _ _ us ws h1 h2 => match us, ws, h1, h2 with | [_], [_], _, _ => rfl) ?_
  (case aC_WouldChange => k_is); (case xL_WouldChange => k_is); (case rv_WouldChange => kernel_rfl); (case sa_WouldChange => k_is); (case exC_WouldChange => k_is); (case tyC_WouldChange => k_is); (case kC_WouldChange => k_is); (case a1_WouldChange => k_is); (case t1_WouldChange => k_is); (case no_WouldChange => k_is); (case l1_WouldChange => k_is); (case c1_WouldChange => k_is); (case k1_WouldChange => k_is); (case ga_WouldChange => k_is); (case gg_WouldChange => k_is); (case hd_WouldChange => k_is); intro c_WouldChange i_WouldChange q_WouldChange e_WouldChange x_WouldChange; subst q_WouldChange
  refine' B.use_cls0 (cn := "BoardError") X G ?aC_BoardError ?q_BoardError ?kC_BoardError ?_; (case aC_BoardError => k_is); (case q_BoardError => kernel_rfl); (case kC_BoardError => k_is); intro c_BoardError q_BoardError e_BoardError; subst q_BoardError
  have H4 : ∀ us : List PySem.Value, us.length = 1 → PySem.bindArgs fd_law ⟨us, []⟩ = pure ([("script" : PySem.Str)].zip us) := by
    obtain ⟨_, _, _, _, _, _, _, _, _, rfl, _, _⟩ := f_law.ex
    exact fun us hl => match us, hl with | [_], _ => rfl
  let A : K00.Ad := { a_law_start := a_law_start, fd_law_start := fd_law_start, a_law_draw := a_law_draw, fd_law_draw := fd_law_draw, a_law_mixed := a_law_mixed, fd_law_mixed := fd_law_mixed, a_law_made_a := a_law_made_a, fd_law_made_a := fd_law_made_a, a_law_made_b := a_law_made_b, fd_law_made_b := fd_law_made_b, a_law_made_c := a_law_made_c, fd_law_made_c := fd_law_made_c, a_law_made_d := a_law_made_d, fd_law_made_d := fd_law_made_d, a_law_kinds_a := a_law_kinds_a, fd_law_kinds_a := fd_law_kinds_a, a_law_kinds_b := a_law_kinds_b, fd_law_kinds_b := fd_law_kinds_b, a_law_kinds_c := a_law_kinds_c, fd_law_kinds_c := fd_law_kinds_c, a_law_kinds_d := a_law_kinds_d, fd_law_kinds_d := fd_law_kinds_d, a_law_kinds := a_law_kinds, fd_law_kinds := fd_law_kinds, a_law_is_own := a_law_is_own, fd_law_is_own := fd_law_is_own, a_law_same := a_law_same, fd_law_same := fd_law_same, a_law_are_these := a_law_are_these, fd_law_are_these := fd_law_are_these, a_law := a_law, fd_law := fd_law, c_BadBarred := 44, i_BadBarred := i_BadBarred, c_BadBegins := 63, i_BadBegins := i_BadBegins, c_BadBoard := 82, i_BadBoard := i_BadBoard, c_BadBox := 101, i_BadBox := i_BadBox, c_BadCell := 120, i_BadCell := i_BadCell, c_BadChange := 139, i_BadChange := i_BadChange, c_BadChoices := 158, i_BadChoices := i_BadChoices, c_BadCorner := 177, i_BadCorner := i_BadCorner, c_BadCosts := 196, i_BadCosts := i_BadCosts, c_BadCovering := 215, i_BadCovering := i_BadCovering, c_BadDeed := 234, i_BadDeed := i_BadDeed, c_BadEnds := 253, i_BadEnds := i_BadEnds, c_BadFloor := 272, i_BadFloor := i_BadFloor, c_BadForm := 291, i_BadForm := i_BadForm, c_BadGoal := 310, i_BadGoal := i_BadGoal, c_BadGone := 329, i_BadGone := i_BadGone, c_BadGreat := 348, i_BadGreat := i_BadGreat, c_BadGround := 367, i_BadGround := i_BadGround, c_BadHeap := 386, i_BadHeap := i_BadHeap, c_BadHeights := 405, i_BadHeights := i_BadHeights, c_BadHigh := 424, i_BadHigh := i_BadHigh, c_BadKind := 443, i_BadKind := i_BadKind, c_BadLaying := 462, i_BadLaying := i_BadLaying, c_BadLine := 481, i_BadLine := i_BadLine, c_BadMost := 500, i_BadMost := i_BadMost, c_BadNumber := 519, i_BadNumber := i_BadNumber, c_BadOne := 538, i_BadOne := i_BadOne, c_BadOrder := 557, i_BadOrder := i_BadOrder, c_BadOther := 576, i_BadOther := i_BadOther, c_BadOut := 595, i_BadOut := i_BadOut, c_BadPath := 614, i_BadPath := i_BadPath, c_BadPoint := 633, i_BadPoint := i_BadPoint, c_BadPoints := 652, i_BadPoints := i_BadPoints, c_BadPrices := 671, i_BadPrices := i_BadPrices, c_BadQuestion := 690, i_BadQuestion := i_BadQuestion, c_BadRing := 709, i_BadRing := i_BadRing, c_BadRoom := 728, i_BadRoom := i_BadRoom, c_BadRoutes := 747, i_BadRoutes := i_BadRoutes, c_BadTable := 766, i_BadTable := i_BadTable, c_BadText := 785, i_BadText := i_BadText, c_BadTie := 804, i_BadTie := i_BadTie, c_BadTies := 823, i_BadTies := i_BadTies, c_BadTold := 842, i_BadTold := i_BadTold, c_BadTree := 861, i_BadTree := i_BadTree, c_BadTriangle := 880, i_BadTriangle := i_BadTriangle, c_BadTurn := 899, i_BadTurn := i_BadTurn, c_BadTurns := 918, i_BadTurns := i_BadTurns, c_BadWalk := 937, i_BadWalk := i_BadWalk, c_BadWay := 956, i_BadWay := i_BadWay, c_BadWide := 975, i_BadWide := i_BadWide, c_CommonCell := 994, i_CommonCell := i_CommonCell, c_InUse := 1013, i_InUse := i_InUse, c_IsWatched := 1032, i_IsWatched := i_IsWatched, c_NoCount := 1051, i_NoCount := i_NoCount, c_NoFlip := 1063, i_NoFlip := 0, c_NoLaying := 1075, i_NoLaying := 0, c_NoTree := 1087, i_NoTree := 0, c_NotByTurns := 1106, i_NotByTurns := i_NotByTurns, c_NotCheapest := 1118, i_NotCheapest := 0, c_NotNow := 1137, i_NotNow := i_NotNow, c_NotPlain := 1149, i_NotPlain := 0, c_NotWatched := 1168, i_NotWatched := i_NotWatched, c_WouldChange := 1187, i_WouldChange := i_WouldChange, c_BoardError := 24, i_BoardError := 0, k_law_made_a := k_law_made_a, t_law_made_a := t_law_made_a, k_law_made_b := k_law_made_b, t_law_made_b := t_law_made_b, k_law_made_c := k_law_made_c, t_law_made_c := t_law_made_c, k_law_made_d := k_law_made_d, t_law_made_d := t_law_made_d }
  letI : B.TabT := { lam := K00.lamI, ob := fun c => K00.obC.getD c (0, []), tabs := [(t_law_made_a, (PyProof.Rows.envOfC "_law_made_a" (L2.defScope (K00.top 69)) 0 a_law_made_a (.ref k_law_made_a)).qual ++ "<lambda>"), (t_law_made_b, (PyProof.Rows.envOfC "_law_made_b" (L2.defScope (K00.top 70)) 0 a_law_made_b (.ref k_law_made_b)).qual ++ "<lambda>"), (t_law_made_c, (PyProof.Rows.envOfC "_law_made_c" (L2.defScope (K00.top 71)) 0 a_law_made_c (.ref k_law_made_c)).qual ++ "<lambda>"), (t_law_made_d, (PyProof.Rows.envOfC "_law_made_d" (L2.defScope (K00.top 72)) 0 a_law_made_d (.ref k_law_made_d)).qual ++ "<lambda>")], fns := [] }
  have FN := B.withK X (fun K => B.FnsOk K) <| fun f hf => by
      have hf : f ∈ ([] : List Addr) := hf
      cases hf
  have HOB : ∀ c, B.LamT.ob c = K00.obC.getD c (0, []) := fun _ => rfl
  have KIT := K00.kitA w.params
  have KC := K00.kitC w.params
  have HL : K00.obC.length = 64 := by kernel_rfl
  have OB := B.withK X (fun K => ∀ c, (B.LamT.ob c).2 ≠ [] → B.ObOk K c) <| B.obOk_mk (obL := K00.obC) HOB (fun p hp => by
      simp only [K00.obC, List.flatten_cons, List.flatten_nil, List.append_nil, List.cons_append, List.nil_append, List.mem_cons, List.not_mem_nil, or_false] at hp
      rcases hp with rfl | rfl | rfl | rfl | rfl | rfl | rfl | rfl | rfl | rfl | rfl | rfl | rfl | rfl | rfl | rfl | rfl | rfl | rfl | rfl | rfl | rfl | rfl | rfl | rfl | rfl | rfl | rfl | rfl | rfl | rfl | rfl | rfl | rfl | rfl | rfl | rfl | rfl | rfl | rfl | rfl | rfl | rfl | rfl | rfl | rfl | rfl | rfl | rfl | rfl | rfl | rfl | rfl | rfl | rfl | rfl | rfl | rfl | rfl | rfl | rfl | rfl | rfl | rfl
      · exact fun _ => ⟨x_BadBarred, fun f hf => by rw [List.mem_singleton] at hf; subst hf; exact (e_BadBarred (PySem.Challenge.rw_boardturns_k00_errors_made).prog w h).no⟩
      · exact fun _ => ⟨x_BadBegins, fun f hf => by rw [List.mem_singleton] at hf; subst hf; exact (e_BadBegins (PySem.Challenge.rw_boardturns_k00_errors_made).prog w h).no⟩
      · exact fun _ => ⟨x_BadBoard, fun f hf => by rw [List.mem_singleton] at hf; subst hf; exact (e_BadBoard (PySem.Challenge.rw_boardturns_k00_errors_made).prog w h).no⟩
      · exact fun _ => ⟨x_BadBox, fun f hf => by rw [List.mem_singleton] at hf; subst hf; exact (e_BadBox (PySem.Challenge.rw_boardturns_k00_errors_made).prog w h).no⟩
      · exact fun _ => ⟨x_BadCell, fun f hf => by rw [List.mem_singleton] at hf; subst hf; exact (e_BadCell (PySem.Challenge.rw_boardturns_k00_errors_made).prog w h).no⟩
      · exact fun _ => ⟨x_BadChange, fun f hf => by rw [List.mem_singleton] at hf; subst hf; exact (e_BadChange (PySem.Challenge.rw_boardturns_k00_errors_made).prog w h).no⟩
      · exact fun _ => ⟨x_BadChoices, fun f hf => by rw [List.mem_singleton] at hf; subst hf; exact (e_BadChoices (PySem.Challenge.rw_boardturns_k00_errors_made).prog w h).no⟩
      · exact fun _ => ⟨x_BadCorner, fun f hf => by rw [List.mem_singleton] at hf; subst hf; exact (e_BadCorner (PySem.Challenge.rw_boardturns_k00_errors_made).prog w h).no⟩
      · exact fun _ => ⟨x_BadCosts, fun f hf => by rw [List.mem_singleton] at hf; subst hf; exact (e_BadCosts (PySem.Challenge.rw_boardturns_k00_errors_made).prog w h).no⟩
      · exact fun _ => ⟨x_BadCovering, fun f hf => by rw [List.mem_singleton] at hf; subst hf; exact (e_BadCovering (PySem.Challenge.rw_boardturns_k00_errors_made).prog w h).no⟩
      · exact fun _ => ⟨x_BadDeed, fun f hf => by rw [List.mem_singleton] at hf; subst hf; exact (e_BadDeed (PySem.Challenge.rw_boardturns_k00_errors_made).prog w h).no⟩
      · exact fun _ => ⟨x_BadEnds, fun f hf => by rw [List.mem_singleton] at hf; subst hf; exact (e_BadEnds (PySem.Challenge.rw_boardturns_k00_errors_made).prog w h).no⟩
      · exact fun _ => ⟨x_BadFloor, fun f hf => by rw [List.mem_singleton] at hf; subst hf; exact (e_BadFloor (PySem.Challenge.rw_boardturns_k00_errors_made).prog w h).no⟩
      · exact fun _ => ⟨x_BadForm, fun f hf => by rw [List.mem_singleton] at hf; subst hf; exact (e_BadForm (PySem.Challenge.rw_boardturns_k00_errors_made).prog w h).no⟩
      · exact fun _ => ⟨x_BadGoal, fun f hf => by rw [List.mem_singleton] at hf; subst hf; exact (e_BadGoal (PySem.Challenge.rw_boardturns_k00_errors_made).prog w h).no⟩
      · exact fun _ => ⟨x_BadGone, fun f hf => by rw [List.mem_singleton] at hf; subst hf; exact (e_BadGone (PySem.Challenge.rw_boardturns_k00_errors_made).prog w h).no⟩
      · exact fun _ => ⟨x_BadGreat, fun f hf => by rw [List.mem_singleton] at hf; subst hf; exact (e_BadGreat (PySem.Challenge.rw_boardturns_k00_errors_made).prog w h).no⟩
      · exact fun _ => ⟨x_BadGround, fun f hf => by rw [List.mem_singleton] at hf; subst hf; exact (e_BadGround (PySem.Challenge.rw_boardturns_k00_errors_made).prog w h).no⟩
      · exact fun _ => ⟨x_BadHeap, fun f hf => by rw [List.mem_singleton] at hf; subst hf; exact (e_BadHeap (PySem.Challenge.rw_boardturns_k00_errors_made).prog w h).no⟩
      · exact fun _ => ⟨x_BadHeights, fun f hf => by rw [List.mem_singleton] at hf; subst hf; exact (e_BadHeights (PySem.Challenge.rw_boardturns_k00_errors_made).prog w h).no⟩
      · exact fun _ => ⟨x_BadHigh, fun f hf => by rw [List.mem_singleton] at hf; subst hf; exact (e_BadHigh (PySem.Challenge.rw_boardturns_k00_errors_made).prog w h).no⟩
      · exact fun _ => ⟨x_BadKind, fun f hf => by rw [List.mem_singleton] at hf; subst hf; exact (e_BadKind (PySem.Challenge.rw_boardturns_k00_errors_made).prog w h).no⟩
      · exact fun _ => ⟨x_BadLaying, fun f hf => by rw [List.mem_singleton] at hf; subst hf; exact (e_BadLaying (PySem.Challenge.rw_boardturns_k00_errors_made).prog w h).no⟩
      · exact fun _ => ⟨x_BadLine, fun f hf => by rw [List.mem_singleton] at hf; subst hf; exact (e_BadLine (PySem.Challenge.rw_boardturns_k00_errors_made).prog w h).no⟩
      · exact fun _ => ⟨x_BadMost, fun f hf => by rw [List.mem_singleton] at hf; subst hf; exact (e_BadMost (PySem.Challenge.rw_boardturns_k00_errors_made).prog w h).no⟩
      · exact fun _ => ⟨x_BadNumber, fun f hf => by rw [List.mem_singleton] at hf; subst hf; exact (e_BadNumber (PySem.Challenge.rw_boardturns_k00_errors_made).prog w h).no⟩
      · exact fun _ => ⟨x_BadOne, fun f hf => by rw [List.mem_singleton] at hf; subst hf; exact (e_BadOne (PySem.Challenge.rw_boardturns_k00_errors_made).prog w h).no⟩
      · exact fun _ => ⟨x_BadOrder, fun f hf => by rw [List.mem_singleton] at hf; subst hf; exact (e_BadOrder (PySem.Challenge.rw_boardturns_k00_errors_made).prog w h).no⟩
      · exact fun _ => ⟨x_BadOther, fun f hf => by rw [List.mem_singleton] at hf; subst hf; exact (e_BadOther (PySem.Challenge.rw_boardturns_k00_errors_made).prog w h).no⟩
      · exact fun _ => ⟨x_BadOut, fun f hf => by rw [List.mem_singleton] at hf; subst hf; exact (e_BadOut (PySem.Challenge.rw_boardturns_k00_errors_made).prog w h).no⟩
      · exact fun _ => ⟨x_BadPath, fun f hf => by rw [List.mem_singleton] at hf; subst hf; exact (e_BadPath (PySem.Challenge.rw_boardturns_k00_errors_made).prog w h).no⟩
      · exact fun _ => ⟨x_BadPoint, fun f hf => by rw [List.mem_singleton] at hf; subst hf; exact (e_BadPoint (PySem.Challenge.rw_boardturns_k00_errors_made).prog w h).no⟩
      · exact fun _ => ⟨x_BadPoints, fun f hf => by rw [List.mem_singleton] at hf; subst hf; exact (e_BadPoints (PySem.Challenge.rw_boardturns_k00_errors_made).prog w h).no⟩
      · exact fun _ => ⟨x_BadPrices, fun f hf => by rw [List.mem_singleton] at hf; subst hf; exact (e_BadPrices (PySem.Challenge.rw_boardturns_k00_errors_made).prog w h).no⟩
      · exact fun _ => ⟨x_BadQuestion, fun f hf => by rw [List.mem_singleton] at hf; subst hf; exact (e_BadQuestion (PySem.Challenge.rw_boardturns_k00_errors_made).prog w h).no⟩
      · exact fun _ => ⟨x_BadRing, fun f hf => by rw [List.mem_singleton] at hf; subst hf; exact (e_BadRing (PySem.Challenge.rw_boardturns_k00_errors_made).prog w h).no⟩
      · exact fun _ => ⟨x_BadRoom, fun f hf => by rw [List.mem_singleton] at hf; subst hf; exact (e_BadRoom (PySem.Challenge.rw_boardturns_k00_errors_made).prog w h).no⟩
      · exact fun _ => ⟨x_BadRoutes, fun f hf => by rw [List.mem_singleton] at hf; subst hf; exact (e_BadRoutes (PySem.Challenge.rw_boardturns_k00_errors_made).prog w h).no⟩
      · exact fun _ => ⟨x_BadTable, fun f hf => by rw [List.mem_singleton] at hf; subst hf; exact (e_BadTable (PySem.Challenge.rw_boardturns_k00_errors_made).prog w h).no⟩
      · exact fun _ => ⟨x_BadText, fun f hf => by
          simp only [List.mem_cons, List.not_mem_nil, or_false] at hf
          rcases hf with rfl | rfl
          · exact (e_BadText (PySem.Challenge.rw_boardturns_k00_errors_made).prog w h).no2
          · exact (e_BadText (PySem.Challenge.rw_boardturns_k00_errors_made).prog w h).no1⟩
      · exact fun _ => ⟨x_BadTie, fun f hf => by rw [List.mem_singleton] at hf; subst hf; exact (e_BadTie (PySem.Challenge.rw_boardturns_k00_errors_made).prog w h).no⟩
      · exact fun _ => ⟨x_BadTies, fun f hf => by rw [List.mem_singleton] at hf; subst hf; exact (e_BadTies (PySem.Challenge.rw_boardturns_k00_errors_made).prog w h).no⟩
      · exact fun _ => ⟨x_BadTold, fun f hf => by rw [List.mem_singleton] at hf; subst hf; exact (e_BadTold (PySem.Challenge.rw_boardturns_k00_errors_made).prog w h).no⟩
      · exact fun _ => ⟨x_BadTree, fun f hf => by rw [List.mem_singleton] at hf; subst hf; exact (e_BadTree (PySem.Challenge.rw_boardturns_k00_errors_made).prog w h).no⟩
      · exact fun _ => ⟨x_BadTriangle, fun f hf => by rw [List.mem_singleton] at hf; subst hf; exact (e_BadTriangle (PySem.Challenge.rw_boardturns_k00_errors_made).prog w h).no⟩
      · exact fun _ => ⟨x_BadTurn, fun f hf => by rw [List.mem_singleton] at hf; subst hf; exact (e_BadTurn (PySem.Challenge.rw_boardturns_k00_errors_made).prog w h).no⟩
      · exact fun _ => ⟨x_BadTurns, fun f hf => by rw [List.mem_singleton] at hf; subst hf; exact (e_BadTurns (PySem.Challenge.rw_boardturns_k00_errors_made).prog w h).no⟩
      · exact fun _ => ⟨x_BadWalk, fun f hf => by rw [List.mem_singleton] at hf; subst hf; exact (e_BadWalk (PySem.Challenge.rw_boardturns_k00_errors_made).prog w h).no⟩
      · exact fun _ => ⟨x_BadWay, fun f hf => by rw [List.mem_singleton] at hf; subst hf; exact (e_BadWay (PySem.Challenge.rw_boardturns_k00_errors_made).prog w h).no⟩
      · exact fun _ => ⟨x_BadWide, fun f hf => by rw [List.mem_singleton] at hf; subst hf; exact (e_BadWide (PySem.Challenge.rw_boardturns_k00_errors_made).prog w h).no⟩
      · exact fun _ => ⟨x_CommonCell, fun f hf => by rw [List.mem_singleton] at hf; subst hf; exact (e_CommonCell (PySem.Challenge.rw_boardturns_k00_errors_made).prog w h).no⟩
      · exact fun _ => ⟨x_InUse, fun f hf => by rw [List.mem_singleton] at hf; subst hf; exact (e_InUse (PySem.Challenge.rw_boardturns_k00_errors_made).prog w h).no⟩
      · exact fun _ => ⟨x_IsWatched, fun f hf => by rw [List.mem_singleton] at hf; subst hf; exact (e_IsWatched (PySem.Challenge.rw_boardturns_k00_errors_made).prog w h).no⟩
      · exact fun _ => ⟨x_NoCount, fun f hf => by rw [List.mem_singleton] at hf; subst hf; exact (e_NoCount (PySem.Challenge.rw_boardturns_k00_errors_made).prog w h).no⟩
      · exact fun z => absurd rfl z
      · exact fun z => absurd rfl z
      · exact fun z => absurd rfl z
      · exact fun _ => ⟨x_NotByTurns, fun f hf => by
          simp only [List.mem_cons, List.not_mem_nil, or_false] at hf
          rcases hf with rfl | rfl
          · exact (e_NotByTurns (PySem.Challenge.rw_boardturns_k00_errors_made).prog w h).no2
          · exact (e_NotByTurns (PySem.Challenge.rw_boardturns_k00_errors_made).prog w h).no1⟩
      · exact fun z => absurd rfl z
      · exact fun _ => ⟨x_NotNow, fun f hf => by rw [List.mem_singleton] at hf; subst hf; exact (e_NotNow (PySem.Challenge.rw_boardturns_k00_errors_made).prog w h).no⟩
      · exact fun z => absurd rfl z
      · exact fun _ => ⟨x_NotWatched, fun f hf => by rw [List.mem_singleton] at hf; subst hf; exact (e_NotWatched (PySem.Challenge.rw_boardturns_k00_errors_made).prog w h).no⟩
      · exact fun _ => ⟨x_WouldChange, fun f hf => by rw [List.mem_singleton] at hf; subst hf; exact (e_WouldChange (PySem.Challenge.rw_boardturns_k00_errors_made).prog w h).no⟩
      · exact fun z => absurd rfl z)
  have FX := fun (base : PySem.Heap) (TB : ∀ p ∈ ([(k_law_made_a, t_law_made_a), (k_law_made_b, t_law_made_b), (k_law_made_c, t_law_made_c), (k_law_made_d, t_law_made_d)] : List (Addr × Addr)), LamX.TabB base mg p.1 p.2) => B.withK X (fun K => K00.Fx (PySem.Challenge.rw_boardturns_k00_errors_made).prog w K mg base A) {
      blt := ⟨b_isinstance, b_len, b_abs, b_int, b_max, b_min, b_sum, b_sorted, b_all, b_any, b_list, b_tuple, b_dict, b_range, b_enumerate, b_zip, b_bool, b_str⟩,
      fns := FN,
      f_law_start := f_law_start,
      m_law_start := m_law_start,
      f_law_draw := f_law_draw,
      m_law_draw := m_law_draw,
      f_law_mixed := f_law_mixed,
      m_law_mixed := m_law_mixed,
      f_law_made_a := f_law_made_a,
      m_law_made_a := m_law_made_a,
      f_law_made_b := f_law_made_b,
      m_law_made_b := m_law_made_b,
      f_law_made_c := f_law_made_c,
      m_law_made_c := m_law_made_c,
      f_law_made_d := f_law_made_d,
      m_law_made_d := m_law_made_d,
      f_law_kinds_a := f_law_kinds_a,
      m_law_kinds_a := m_law_kinds_a,
      f_law_kinds_b := f_law_kinds_b,
      m_law_kinds_b := m_law_kinds_b,
      f_law_kinds_c := f_law_kinds_c,
      m_law_kinds_c := m_law_kinds_c,
      f_law_kinds_d := f_law_kinds_d,
      m_law_kinds_d := m_law_kinds_d,
      f_law_kinds := f_law_kinds,
      m_law_kinds := m_law_kinds,
      f_law_is_own := f_law_is_own,
      m_law_is_own := m_law_is_own,
      f_law_same := f_law_same,
      m_law_same := m_law_same,
      f_law_are_these := f_law_are_these,
      m_law_are_these := m_law_are_these,
      f_law := f_law,
      m_law := m_law,
      ek_BadBarred := e_BadBarred _ w base,
      ob_BadBarred := rfl,
      is_BadBarred := B.is_one HOB HL KIT KC (j := 0) (by decide) rfl,
      ek_BadBegins := e_BadBegins _ w base,
      ob_BadBegins := rfl,
      is_BadBegins := B.is_one HOB HL KIT KC (j := 1) (by decide) rfl,
      ek_BadBoard := e_BadBoard _ w base,
      ob_BadBoard := rfl,
      is_BadBoard := B.is_one HOB HL KIT KC (j := 2) (by decide) rfl,
      ek_BadBox := e_BadBox _ w base,
      ob_BadBox := rfl,
      is_BadBox := B.is_one HOB HL KIT KC (j := 3) (by decide) rfl,
      ek_BadCell := e_BadCell _ w base,
      ob_BadCell := rfl,
      is_BadCell := B.is_one HOB HL KIT KC (j := 4) (by decide) rfl,
      ek_BadChange := e_BadChange _ w base,
      ob_BadChange := rfl,
      is_BadChange := B.is_one HOB HL KIT KC (j := 5) (by decide) rfl,
      ek_BadChoices := e_BadChoices _ w base,
      ob_BadChoices := rfl,
      is_BadChoices := B.is_one HOB HL KIT KC (j := 6) (by decide) rfl,
      ek_BadCorner := e_BadCorner _ w base,
      ob_BadCorner := rfl,
      is_BadCorner := B.is_one HOB HL KIT KC (j := 7) (by decide) rfl,
      ek_BadCosts := e_BadCosts _ w base,
      ob_BadCosts := rfl,
      is_BadCosts := B.is_one HOB HL KIT KC (j := 8) (by decide) rfl,
      ek_BadCovering := e_BadCovering _ w base,
      ob_BadCovering := rfl,
      is_BadCovering := B.is_one HOB HL KIT KC (j := 9) (by decide) rfl,
      ek_BadDeed := e_BadDeed _ w base,
      ob_BadDeed := rfl,
      is_BadDeed := B.is_one HOB HL KIT KC (j := 10) (by decide) rfl,
      ek_BadEnds := e_BadEnds _ w base,
      ob_BadEnds := rfl,
      is_BadEnds := B.is_one HOB HL KIT KC (j := 11) (by decide) rfl,
      ek_BadFloor := e_BadFloor _ w base,
      ob_BadFloor := rfl,
      is_BadFloor := B.is_one HOB HL KIT KC (j := 12) (by decide) rfl,
      ek_BadForm := e_BadForm _ w base,
      ob_BadForm := rfl,
      is_BadForm := B.is_one HOB HL KIT KC (j := 13) (by decide) rfl,
      ek_BadGoal := e_BadGoal _ w base,
      ob_BadGoal := rfl,
      is_BadGoal := B.is_one HOB HL KIT KC (j := 14) (by decide) rfl,
      ek_BadGone := e_BadGone _ w base,
      ob_BadGone := rfl,
      is_BadGone := B.is_one HOB HL KIT KC (j := 15) (by decide) rfl,
      ek_BadGreat := e_BadGreat _ w base,
      ob_BadGreat := rfl,
      is_BadGreat := B.is_one HOB HL KIT KC (j := 16) (by decide) rfl,
      ek_BadGround := e_BadGround _ w base,
      ob_BadGround := rfl,
      is_BadGround := B.is_one HOB HL KIT KC (j := 17) (by decide) rfl,
      ek_BadHeap := e_BadHeap _ w base,
      ob_BadHeap := rfl,
      is_BadHeap := B.is_one HOB HL KIT KC (j := 18) (by decide) rfl,
      ek_BadHeights := e_BadHeights _ w base,
      ob_BadHeights := rfl,
      is_BadHeights := B.is_one HOB HL KIT KC (j := 19) (by decide) rfl,
      ek_BadHigh := e_BadHigh _ w base,
      ob_BadHigh := rfl,
      is_BadHigh := B.is_one HOB HL KIT KC (j := 20) (by decide) rfl,
      ek_BadKind := e_BadKind _ w base,
      ob_BadKind := rfl,
      is_BadKind := B.is_one HOB HL KIT KC (j := 21) (by decide) rfl,
      ek_BadLaying := e_BadLaying _ w base,
      ob_BadLaying := rfl,
      is_BadLaying := B.is_one HOB HL KIT KC (j := 22) (by decide) rfl,
      ek_BadLine := e_BadLine _ w base,
      ob_BadLine := rfl,
      is_BadLine := B.is_one HOB HL KIT KC (j := 23) (by decide) rfl,
      ek_BadMost := e_BadMost _ w base,
      ob_BadMost := rfl,
      is_BadMost := B.is_one HOB HL KIT KC (j := 24) (by decide) rfl,
      ek_BadNumber := e_BadNumber _ w base,
      ob_BadNumber := rfl,
      is_BadNumber := B.is_one HOB HL KIT KC (j := 25) (by decide) rfl,
      ek_BadOne := e_BadOne _ w base,
      ob_BadOne := rfl,
      is_BadOne := B.is_one HOB HL KIT KC (j := 26) (by decide) rfl,
      ek_BadOrder := e_BadOrder _ w base,
      ob_BadOrder := rfl,
      is_BadOrder := B.is_one HOB HL KIT KC (j := 27) (by decide) rfl,
      ek_BadOther := e_BadOther _ w base,
      ob_BadOther := rfl,
      is_BadOther := B.is_one HOB HL KIT KC (j := 28) (by decide) rfl,
      ek_BadOut := e_BadOut _ w base,
      ob_BadOut := rfl,
      is_BadOut := B.is_one HOB HL KIT KC (j := 29) (by decide) rfl,
      ek_BadPath := e_BadPath _ w base,
      ob_BadPath := rfl,
      is_BadPath := B.is_one HOB HL KIT KC (j := 30) (by decide) rfl,
      ek_BadPoint := e_BadPoint _ w base,
      ob_BadPoint := rfl,
      is_BadPoint := B.is_one HOB HL KIT KC (j := 31) (by decide) rfl,
      ek_BadPoints := e_BadPoints _ w base,
      ob_BadPoints := rfl,
      is_BadPoints := B.is_one HOB HL KIT KC (j := 32) (by decide) rfl,
      ek_BadPrices := e_BadPrices _ w base,
      ob_BadPrices := rfl,
      is_BadPrices := B.is_one HOB HL KIT KC (j := 33) (by decide) rfl,
      ek_BadQuestion := e_BadQuestion _ w base,
      ob_BadQuestion := rfl,
      is_BadQuestion := B.is_one HOB HL KIT KC (j := 34) (by decide) rfl,
      ek_BadRing := e_BadRing _ w base,
      ob_BadRing := rfl,
      is_BadRing := B.is_one HOB HL KIT KC (j := 35) (by decide) rfl,
      ek_BadRoom := e_BadRoom _ w base,
      ob_BadRoom := rfl,
      is_BadRoom := B.is_one HOB HL KIT KC (j := 36) (by decide) rfl,
      ek_BadRoutes := e_BadRoutes _ w base,
      ob_BadRoutes := rfl,
      is_BadRoutes := B.is_one HOB HL KIT KC (j := 37) (by decide) rfl,
      ek_BadTable := e_BadTable _ w base,
      ob_BadTable := rfl,
      is_BadTable := B.is_one HOB HL KIT KC (j := 38) (by decide) rfl,
      ek_BadText := e_BadText _ w base,
      ob_BadText := rfl,
      is_BadText := B.is_one HOB HL KIT KC (j := 39) (by decide) rfl,
      ek_BadTie := e_BadTie _ w base,
      ob_BadTie := rfl,
      is_BadTie := B.is_one HOB HL KIT KC (j := 40) (by decide) rfl,
      ek_BadTies := e_BadTies _ w base,
      ob_BadTies := rfl,
      is_BadTies := B.is_one HOB HL KIT KC (j := 41) (by decide) rfl,
      ek_BadTold := e_BadTold _ w base,
      ob_BadTold := rfl,
      is_BadTold := B.is_one HOB HL KIT KC (j := 42) (by decide) rfl,
      ek_BadTree := e_BadTree _ w base,
      ob_BadTree := rfl,
      is_BadTree := B.is_one HOB HL KIT KC (j := 43) (by decide) rfl,
      ek_BadTriangle := e_BadTriangle _ w base,
      ob_BadTriangle := rfl,
      is_BadTriangle := B.is_one HOB HL KIT KC (j := 44) (by decide) rfl,
      ek_BadTurn := e_BadTurn _ w base,
      ob_BadTurn := rfl,
      is_BadTurn := B.is_one HOB HL KIT KC (j := 45) (by decide) rfl,
      ek_BadTurns := e_BadTurns _ w base,
      ob_BadTurns := rfl,
      is_BadTurns := B.is_one HOB HL KIT KC (j := 46) (by decide) rfl,
      ek_BadWalk := e_BadWalk _ w base,
      ob_BadWalk := rfl,
      is_BadWalk := B.is_one HOB HL KIT KC (j := 47) (by decide) rfl,
      ek_BadWay := e_BadWay _ w base,
      ob_BadWay := rfl,
      is_BadWay := B.is_one HOB HL KIT KC (j := 48) (by decide) rfl,
      ek_BadWide := e_BadWide _ w base,
      ob_BadWide := rfl,
      is_BadWide := B.is_one HOB HL KIT KC (j := 49) (by decide) rfl,
      ek_CommonCell := e_CommonCell _ w base,
      ob_CommonCell := rfl,
      is_CommonCell := B.is_one HOB HL KIT KC (j := 50) (by decide) rfl,
      ek_InUse := e_InUse _ w base,
      ob_InUse := rfl,
      is_InUse := B.is_one HOB HL KIT KC (j := 51) (by decide) rfl,
      ek_IsWatched := e_IsWatched _ w base,
      ob_IsWatched := rfl,
      is_IsWatched := B.is_one HOB HL KIT KC (j := 52) (by decide) rfl,
      ek_NoCount := e_NoCount _ w base,
      ob_NoCount := rfl,
      is_NoCount := B.is_one HOB HL KIT KC (j := 53) (by decide) rfl,
      ez_NoFlip := e_NoFlip,
      ob_NoFlip := rfl,
      is_NoFlip := B.is_one HOB HL KIT KC (j := 54) (by decide) rfl,
      ez_NoLaying := e_NoLaying,
      ob_NoLaying := rfl,
      is_NoLaying := B.is_one HOB HL KIT KC (j := 55) (by decide) rfl,
      ez_NoTree := e_NoTree,
      ob_NoTree := rfl,
      is_NoTree := B.is_one HOB HL KIT KC (j := 56) (by decide) rfl,
      ek_NotByTurns := e_NotByTurns _ w base,
      ob_NotByTurns := rfl,
      is_NotByTurns := B.is_one HOB HL KIT KC (j := 57) (by decide) rfl,
      ez_NotCheapest := e_NotCheapest,
      ob_NotCheapest := rfl,
      is_NotCheapest := B.is_one HOB HL KIT KC (j := 58) (by decide) rfl,
      ek_NotNow := e_NotNow _ w base,
      ob_NotNow := rfl,
      is_NotNow := B.is_one HOB HL KIT KC (j := 59) (by decide) rfl,
      ez_NotPlain := e_NotPlain,
      ob_NotPlain := rfl,
      is_NotPlain := B.is_one HOB HL KIT KC (j := 60) (by decide) rfl,
      ek_NotWatched := e_NotWatched _ w base,
      ob_NotWatched := rfl,
      is_NotWatched := B.is_one HOB HL KIT KC (j := 61) (by decide) rfl,
      ek_WouldChange := e_WouldChange _ w base,
      ob_WouldChange := rfl,
      is_WouldChange := B.is_one HOB HL KIT KC (j := 62) (by decide) rfl,
      ez_BoardError := e_BoardError,
      ob_BoardError := rfl,
      is_BoardError := B.is_base HOB HL KIT KC (l := []) rfl,
      hob := OB,
      bv_ValueError := b_ValueError,
      is_ValueError := B.isC_mk HOB HL KIT rfl (K00.kitV w.params),
      bv_LookupError := b_LookupError,
      is_LookupError := B.isC_mk HOB HL KIT rfl (K00.kitL w.params),
      bv_ArithmeticError := b_ArithmeticError,
      is_ArithmeticError := B.isC_mk HOB HL KIT rfl (K00.kitR w.params),
      bv_TypeError := b_TypeError,
      is_TypeError := B.isC_mk HOB HL KIT rfl (K00.kitT w.params),
      lam := fun _ => rfl,
      TB_law_made_a := TB (k_law_made_a, t_law_made_a) (List.mem_cons_self ..),
      tm_law_made_a := List.mem_cons_self ..,
      tu_law_made_a := K00.tu_0 (by rw [et_law_made_b, et_law_made_a]; decide) (by rw [et_law_made_c, et_law_made_a]; decide) (by rw [et_law_made_c, et_law_made_b]; decide) (by rw [et_law_made_d, et_law_made_a]; decide) (by rw [et_law_made_d, et_law_made_b]; decide) (by rw [et_law_made_d, et_law_made_c]; decide),
      cd_law_made_a := cd_law_made_a,
      TB_law_made_b := TB (k_law_made_b, t_law_made_b) (List.mem_cons_of_mem _ (List.mem_cons_self ..)),
      tm_law_made_b := List.mem_cons_of_mem _ (List.mem_cons_self ..),
      tu_law_made_b := K00.tu_1 (by rw [et_law_made_b, et_law_made_a]; decide) (by rw [et_law_made_c, et_law_made_a]; decide) (by rw [et_law_made_c, et_law_made_b]; decide) (by rw [et_law_made_d, et_law_made_a]; decide) (by rw [et_law_made_d, et_law_made_b]; decide) (by rw [et_law_made_d, et_law_made_c]; decide),
      cd_law_made_b := cd_law_made_b,
      TB_law_made_c := TB (k_law_made_c, t_law_made_c) (List.mem_cons_of_mem _ (List.mem_cons_of_mem _ (List.mem_cons_self ..))),
      tm_law_made_c := List.mem_cons_of_mem _ (List.mem_cons_of_mem _ (List.mem_cons_self ..)),
      tu_law_made_c := K00.tu_2 (by rw [et_law_made_b, et_law_made_a]; decide) (by rw [et_law_made_c, et_law_made_a]; decide) (by rw [et_law_made_c, et_law_made_b]; decide) (by rw [et_law_made_d, et_law_made_a]; decide) (by rw [et_law_made_d, et_law_made_b]; decide) (by rw [et_law_made_d, et_law_made_c]; decide),
      cd_law_made_c := cd_law_made_c,
      TB_law_made_d := TB (k_law_made_d, t_law_made_d) (List.mem_cons_of_mem _ (List.mem_cons_of_mem _ (List.mem_cons_of_mem _ (List.mem_cons_self ..)))),
      tm_law_made_d := List.mem_cons_of_mem _ (List.mem_cons_of_mem _ (List.mem_cons_of_mem _ (List.mem_cons_self ..))),
      tu_law_made_d := K00.tu_3 (by rw [et_law_made_b, et_law_made_a]; decide) (by rw [et_law_made_c, et_law_made_a]; decide) (by rw [et_law_made_c, et_law_made_b]; decide) (by rw [et_law_made_d, et_law_made_a]; decide) (by rw [et_law_made_d, et_law_made_b]; decide) (by rw [et_law_made_d, et_law_made_c]; decide),
      cd_law_made_d := cd_law_made_d }
  have ea : a_law = fa := by
      have := m_law.symm.trans hmg
      cases this; rfl
  subst ea
  refine ⟨fd_law, [(k_law_made_a, t_law_made_a), (k_law_made_b, t_law_made_b), (k_law_made_c, t_law_made_c), (k_law_made_d, t_law_made_d)], B.spD (PySem.Challenge.rw_boardturns_k00_errors_made).prog w _ mg (K00.D_law A), ?h1, ?h2, ?h3, fun s u => .of_eq (H4 [u] rfl), fun H a ns hl _ hT hS => B.end_sp (B.noLists ?h5) (K00.law_true A (K00.law_obF _ rfl)) H a ns hl (fun p hp => ?h6) hS, fun base _ _ TB => K00.ok_law (FX base TB)⟩
  case h1 =>
    intro p hp
    simp only [List.mem_cons, List.not_mem_nil, or_false] at hp
    rcases hp with rfl | rfl | rfl | rfl
    · subst et_law_made_a; exact PySem.W.km_tabs_of Y _ (by simp [HX.tabs])
    · subst et_law_made_b; exact PySem.W.km_tabs_of Y _ (by simp [HX.tabs])
    · subst et_law_made_c; exact PySem.W.km_tabs_of Y _ (by simp [HX.tabs])
    · subst et_law_made_d; exact PySem.W.km_tabs_of Y _ (by simp [HX.tabs])
  case h2 =>
    intro p hp
    simp only [List.mem_cons, List.not_mem_nil, or_false] at hp
    rcases hp with rfl | rfl | rfl | rfl
    · exact nt_law_made_a
    · exact nt_law_made_b
    · exact nt_law_made_c
    · exact nt_law_made_d
  case h3 =>
    intro p hp
    simp only [List.mem_cons, List.not_mem_nil, or_false] at hp
    rcases hp with rfl | rfl | rfl | rfl
    · exact hd_law_made_a
    · exact hd_law_made_b
    · exact hd_law_made_c
    · exact hd_law_made_d
  case h5 => kernel_rfl
  case h6 =>
    have hp : p ∈ [(t_law_made_a, (PyProof.Rows.envOfC "_law_made_a" (L2.defScope (K00.top 69)) 0 a_law_made_a (.ref k_law_made_a)).qual ++ "<lambda>"), (t_law_made_b, (PyProof.Rows.envOfC "_law_made_b" (L2.defScope (K00.top 70)) 0 a_law_made_b (.ref k_law_made_b)).qual ++ "<lambda>"), (t_law_made_c, (PyProof.Rows.envOfC "_law_made_c" (L2.defScope (K00.top 71)) 0 a_law_made_c (.ref k_law_made_c)).qual ++ "<lambda>"), (t_law_made_d, (PyProof.Rows.envOfC "_law_made_d" (L2.defScope (K00.top 72)) 0 a_law_made_d (.ref k_law_made_d)).qual ++ "<lambda>")] := hp
    simp only [List.mem_cons, List.not_mem_nil, or_false] at hp
    rcases hp with rfl | rfl | rfl | rfl
    · exact hT (k_law_made_a, t_law_made_a) (by simp)
    · exact hT (k_law_made_b, t_law_made_b) (by simp)
    · exact hT (k_law_made_c, t_law_made_c) (by simp)
    · exact hT (k_law_made_d, t_law_made_d) (by simp)
