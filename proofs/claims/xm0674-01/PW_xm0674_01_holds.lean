import PyProof.Rows.All
import Wide.All
import OpenK.AllK
import Wide.FinOn
import Lean
import PySem.Challenge.RW_xm0674_01
set_option Elab.async false
set_option linter.all false
namespace Mine
set_option maxRecDepth 100000

section -- H0
open PySem PySem.W PyProof.Rows
set_option maxHeartbeats 0
section
local macro_rules | `(tactic| o_head (kHook $_ $_ $_)) => `(tactic| assumption)
theorem frag (h : PySem.Challenge.rw_xm0674_01.row.Holds) : PySem.Challenge.rw_xm0674_01.row.Holds := by
  x_head
end
end

section -- KKd
open PySem PySem.W PyProof.Rows PySem.Calls
set_option maxHeartbeats 0
noncomputable def Two (_ : Params → Frag) (_ : OpenLaw) : Prop := True
theorem fill_0 : Two Mine.frag.heap_1 PySem.Challenge.rw_xm0674_01 := by
  k_fill
  trivial
noncomputable def KK : Params → Frag := fun P =>
  (nat_lit 0, Subtype.val (⟨_, by k_is⟩ : { o : Obj // List.lookup (nat_lit 0) (frag.heap_1 P) = some o })) ::
  (nat_lit 2, Subtype.val (⟨_, by k_is⟩ : { o : Obj // List.lookup (nat_lit 2) (frag.heap_1 P) = some o })) ::
  (nat_lit 3, Subtype.val (⟨_, by k_is⟩ : { o : Obj // List.lookup (nat_lit 3) (frag.heap_1 P) = some o })) ::
  (nat_lit 52, Subtype.val (⟨_, by k_is⟩ : { o : Obj // List.lookup (nat_lit 52) (frag.heap_1 P) = some o })) ::
  (nat_lit 53, Subtype.val (⟨_, by k_is⟩ : { o : Obj // List.lookup (nat_lit 53) (frag.heap_1 P) = some o })) ::
  (nat_lit 166, Subtype.val (⟨_, by k_is⟩ : { o : Obj // List.lookup (nat_lit 166) (frag.heap_1 P) = some o })) ::
  (nat_lit 172, Subtype.val (⟨_, by k_is⟩ : { o : Obj // List.lookup (nat_lit 172) (frag.heap_1 P) = some o })) ::
  (nat_lit 173, Subtype.val (⟨_, by k_is⟩ : { o : Obj // List.lookup (nat_lit 173) (frag.heap_1 P) = some o })) ::
  (nat_lit 196, Subtype.val (⟨_, by k_is⟩ : { o : Obj // List.lookup (nat_lit 196) (frag.heap_1 P) = some o })) ::
  (nat_lit 197, Subtype.val (⟨_, by k_is⟩ : { o : Obj // List.lookup (nat_lit 197) (frag.heap_1 P) = some o })) ::
  (nat_lit 201, Subtype.val (⟨_, by k_is⟩ : { o : Obj // List.lookup (nat_lit 201) (frag.heap_1 P) = some o })) ::
  (nat_lit 202, Subtype.val (⟨_, by k_is⟩ : { o : Obj // List.lookup (nat_lit 202) (frag.heap_1 P) = some o })) ::
  (nat_lit 208, Subtype.val (⟨_, by k_is⟩ : { o : Obj // List.lookup (nat_lit 208) (frag.heap_1 P) = some o })) ::
  (nat_lit 209, Subtype.val (⟨_, by k_is⟩ : { o : Obj // List.lookup (nat_lit 209) (frag.heap_1 P) = some o })) ::
  (nat_lit 288, Subtype.val (⟨_, by k_is⟩ : { o : Obj // List.lookup (nat_lit 288) (frag.heap_1 P) = some o })) ::
  (nat_lit 289, Subtype.val (⟨_, by k_is⟩ : { o : Obj // List.lookup (nat_lit 289) (frag.heap_1 P) = some o })) ::
  (nat_lit 291, Subtype.val (⟨_, by k_is⟩ : { o : Obj // List.lookup (nat_lit 291) (frag.heap_1 P) = some o })) ::
  (nat_lit 292, Subtype.val (⟨_, by k_is⟩ : { o : Obj // List.lookup (nat_lit 292) (frag.heap_1 P) = some o })) ::
  (nat_lit 293, Subtype.val (⟨_, by k_is⟩ : { o : Obj // List.lookup (nat_lit 293) (frag.heap_1 P) = some o })) ::
  (nat_lit 304, Subtype.val (⟨_, by k_is⟩ : { o : Obj // List.lookup (nat_lit 304) (frag.heap_1 P) = some o })) ::
  (nat_lit 305, Subtype.val (⟨_, by k_is⟩ : { o : Obj // List.lookup (nat_lit 305) (frag.heap_1 P) = some o })) ::
  (nat_lit 316, Subtype.val (⟨_, by k_is⟩ : { o : Obj // List.lookup (nat_lit 316) (frag.heap_1 P) = some o })) ::
  (nat_lit 317, Subtype.val (⟨_, by k_is⟩ : { o : Obj // List.lookup (nat_lit 317) (frag.heap_1 P) = some o })) ::
  (nat_lit 328, Subtype.val (⟨_, by k_is⟩ : { o : Obj // List.lookup (nat_lit 328) (frag.heap_1 P) = some o })) ::
  (nat_lit 329, Subtype.val (⟨_, by k_is⟩ : { o : Obj // List.lookup (nat_lit 329) (frag.heap_1 P) = some o })) ::
  (nat_lit 708, Subtype.val (⟨_, by k_is⟩ : { o : Obj // List.lookup (nat_lit 708) (frag.heap_1 P) = some o })) ::
  (nat_lit 709, Subtype.val (⟨_, by k_is⟩ : { o : Obj // List.lookup (nat_lit 709) (frag.heap_1 P) = some o })) ::
  (nat_lit 718, Subtype.val (⟨_, by k_is⟩ : { o : Obj // List.lookup (nat_lit 718) (frag.heap_1 P) = some o })) ::
  (nat_lit 719, Subtype.val (⟨_, by k_is⟩ : { o : Obj // List.lookup (nat_lit 719) (frag.heap_1 P) = some o })) ::
  (nat_lit 720, Subtype.val (⟨_, by k_is⟩ : { o : Obj // List.lookup (nat_lit 720) (frag.heap_1 P) = some o })) ::
  (nat_lit 721, Subtype.val (⟨_, by k_is⟩ : { o : Obj // List.lookup (nat_lit 721) (frag.heap_1 P) = some o })) ::
  (nat_lit 736, Subtype.val (⟨_, by k_is⟩ : { o : Obj // List.lookup (nat_lit 736) (frag.heap_1 P) = some o })) ::
  (nat_lit 737, Subtype.val (⟨_, by k_is⟩ : { o : Obj // List.lookup (nat_lit 737) (frag.heap_1 P) = some o })) ::
  (nat_lit 746, Subtype.val (⟨_, by k_is⟩ : { o : Obj // List.lookup (nat_lit 746) (frag.heap_1 P) = some o })) ::
  (nat_lit 747, Subtype.val (⟨_, by k_is⟩ : { o : Obj // List.lookup (nat_lit 747) (frag.heap_1 P) = some o })) ::
  (nat_lit 748, Subtype.val (⟨_, by k_is⟩ : { o : Obj // List.lookup (nat_lit 748) (frag.heap_1 P) = some o })) ::
  (nat_lit 749, Subtype.val (⟨_, by k_is⟩ : { o : Obj // List.lookup (nat_lit 749) (frag.heap_1 P) = some o })) ::
  (nat_lit 764, Subtype.val (⟨_, by k_is⟩ : { o : Obj // List.lookup (nat_lit 764) (frag.heap_1 P) = some o })) ::
  (nat_lit 765, Subtype.val (⟨_, by k_is⟩ : { o : Obj // List.lookup (nat_lit 765) (frag.heap_1 P) = some o })) ::
  (nat_lit 774, Subtype.val (⟨_, by k_is⟩ : { o : Obj // List.lookup (nat_lit 774) (frag.heap_1 P) = some o })) ::
  (nat_lit 775, Subtype.val (⟨_, by k_is⟩ : { o : Obj // List.lookup (nat_lit 775) (frag.heap_1 P) = some o })) ::
  (nat_lit 776, Subtype.val (⟨_, by k_is⟩ : { o : Obj // List.lookup (nat_lit 776) (frag.heap_1 P) = some o })) ::
  (nat_lit 777, Subtype.val (⟨_, by k_is⟩ : { o : Obj // List.lookup (nat_lit 777) (frag.heap_1 P) = some o })) ::
  (nat_lit 802, Subtype.val (⟨_, by k_is⟩ : { o : Obj // List.lookup (nat_lit 802) (frag.heap_1 P) = some o })) ::
  (nat_lit 803, Subtype.val (⟨_, by k_is⟩ : { o : Obj // List.lookup (nat_lit 803) (frag.heap_1 P) = some o })) ::
  (nat_lit 804, Subtype.val (⟨_, by k_is⟩ : { o : Obj // List.lookup (nat_lit 804) (frag.heap_1 P) = some o })) ::
  (nat_lit 805, Subtype.val (⟨_, by k_is⟩ : { o : Obj // List.lookup (nat_lit 805) (frag.heap_1 P) = some o })) ::
  (nat_lit 830, Subtype.val (⟨_, by k_is⟩ : { o : Obj // List.lookup (nat_lit 830) (frag.heap_1 P) = some o })) ::
  (nat_lit 831, Subtype.val (⟨_, by k_is⟩ : { o : Obj // List.lookup (nat_lit 831) (frag.heap_1 P) = some o })) ::
  (nat_lit 832, Subtype.val (⟨_, by k_is⟩ : { o : Obj // List.lookup (nat_lit 832) (frag.heap_1 P) = some o })) ::
  (nat_lit 833, Subtype.val (⟨_, by k_is⟩ : { o : Obj // List.lookup (nat_lit 833) (frag.heap_1 P) = some o })) ::
  (nat_lit 858, Subtype.val (⟨_, by k_is⟩ : { o : Obj // List.lookup (nat_lit 858) (frag.heap_1 P) = some o })) ::
  (nat_lit 859, Subtype.val (⟨_, by k_is⟩ : { o : Obj // List.lookup (nat_lit 859) (frag.heap_1 P) = some o })) ::
  (nat_lit 860, Subtype.val (⟨_, by k_is⟩ : { o : Obj // List.lookup (nat_lit 860) (frag.heap_1 P) = some o })) ::
  (nat_lit 861, Subtype.val (⟨_, by k_is⟩ : { o : Obj // List.lookup (nat_lit 861) (frag.heap_1 P) = some o })) ::
  (nat_lit 886, Subtype.val (⟨_, by k_is⟩ : { o : Obj // List.lookup (nat_lit 886) (frag.heap_1 P) = some o })) ::
  (nat_lit 887, Subtype.val (⟨_, by k_is⟩ : { o : Obj // List.lookup (nat_lit 887) (frag.heap_1 P) = some o })) ::
  (nat_lit 888, Subtype.val (⟨_, by k_is⟩ : { o : Obj // List.lookup (nat_lit 888) (frag.heap_1 P) = some o })) ::
  (nat_lit 889, Subtype.val (⟨_, by k_is⟩ : { o : Obj // List.lookup (nat_lit 889) (frag.heap_1 P) = some o })) ::
  (nat_lit 914, Subtype.val (⟨_, by k_is⟩ : { o : Obj // List.lookup (nat_lit 914) (frag.heap_1 P) = some o })) ::
  (nat_lit 915, Subtype.val (⟨_, by k_is⟩ : { o : Obj // List.lookup (nat_lit 915) (frag.heap_1 P) = some o })) ::
  (nat_lit 916, Subtype.val (⟨_, by k_is⟩ : { o : Obj // List.lookup (nat_lit 916) (frag.heap_1 P) = some o })) ::
  (nat_lit 917, Subtype.val (⟨_, by k_is⟩ : { o : Obj // List.lookup (nat_lit 917) (frag.heap_1 P) = some o })) ::
  (nat_lit 978, Subtype.val (⟨_, by k_is⟩ : { o : Obj // List.lookup (nat_lit 978) (frag.heap_1 P) = some o })) ::
  (nat_lit 979, Subtype.val (⟨_, by k_is⟩ : { o : Obj // List.lookup (nat_lit 979) (frag.heap_1 P) = some o })) ::
  (nat_lit 985, Subtype.val (⟨_, by k_is⟩ : { o : Obj // List.lookup (nat_lit 985) (frag.heap_1 P) = some o })) ::
  (nat_lit 986, Subtype.val (⟨_, by k_is⟩ : { o : Obj // List.lookup (nat_lit 986) (frag.heap_1 P) = some o })) ::
  (nat_lit 992, Subtype.val (⟨_, by k_is⟩ : { o : Obj // List.lookup (nat_lit 992) (frag.heap_1 P) = some o })) ::
  (nat_lit 993, Subtype.val (⟨_, by k_is⟩ : { o : Obj // List.lookup (nat_lit 993) (frag.heap_1 P) = some o })) ::
  (nat_lit 999, Subtype.val (⟨_, by k_is⟩ : { o : Obj // List.lookup (nat_lit 999) (frag.heap_1 P) = some o })) ::
  (nat_lit 1000, Subtype.val (⟨_, by k_is⟩ : { o : Obj // List.lookup (nat_lit 1000) (frag.heap_1 P) = some o })) ::
  (nat_lit 1008, Subtype.val (⟨_, by k_is⟩ : { o : Obj // List.lookup (nat_lit 1008) (frag.heap_1 P) = some o })) ::
  (nat_lit 1014, Subtype.val (⟨_, by k_is⟩ : { o : Obj // List.lookup (nat_lit 1014) (frag.heap_1 P) = some o })) ::
  (nat_lit 1015, Subtype.val (⟨_, by k_is⟩ : { o : Obj // List.lookup (nat_lit 1015) (frag.heap_1 P) = some o })) ::
  (nat_lit 1028, Subtype.val (⟨_, by k_is⟩ : { o : Obj // List.lookup (nat_lit 1028) (frag.heap_1 P) = some o })) ::
  (nat_lit 1029, Subtype.val (⟨_, by k_is⟩ : { o : Obj // List.lookup (nat_lit 1029) (frag.heap_1 P) = some o })) ::
  (nat_lit 1038, Subtype.val (⟨_, by k_is⟩ : { o : Obj // List.lookup (nat_lit 1038) (frag.heap_1 P) = some o })) ::
  (nat_lit 1039, Subtype.val (⟨_, by k_is⟩ : { o : Obj // List.lookup (nat_lit 1039) (frag.heap_1 P) = some o })) ::
  (nat_lit 1040, Subtype.val (⟨_, by k_is⟩ : { o : Obj // List.lookup (nat_lit 1040) (frag.heap_1 P) = some o })) ::
  (nat_lit 1041, Subtype.val (⟨_, by k_is⟩ : { o : Obj // List.lookup (nat_lit 1041) (frag.heap_1 P) = some o })) ::
  (nat_lit 1044, Subtype.val (⟨_, by k_is⟩ : { o : Obj // List.lookup (nat_lit 1044) (frag.heap_1 P) = some o })) ::
  (nat_lit 1057, Subtype.val (⟨_, by k_is⟩ : { o : Obj // List.lookup (nat_lit 1057) (frag.heap_1 P) = some o })) ::
  (nat_lit 1058, Subtype.val (⟨_, by k_is⟩ : { o : Obj // List.lookup (nat_lit 1058) (frag.heap_1 P) = some o })) ::
  (nat_lit 1060, Subtype.val (⟨_, by k_is⟩ : { o : Obj // List.lookup (nat_lit 1060) (frag.heap_1 P) = some o })) ::
  (nat_lit 1061, Subtype.val (⟨_, by k_is⟩ : { o : Obj // List.lookup (nat_lit 1061) (frag.heap_1 P) = some o })) ::
  (nat_lit 1062, Subtype.val (⟨_, by k_is⟩ : { o : Obj // List.lookup (nat_lit 1062) (frag.heap_1 P) = some o })) ::
  (nat_lit 1063, Subtype.val (⟨_, by k_is⟩ : { o : Obj // List.lookup (nat_lit 1063) (frag.heap_1 P) = some o })) ::
  (nat_lit 1078, Subtype.val (⟨_, by k_is⟩ : { o : Obj // List.lookup (nat_lit 1078) (frag.heap_1 P) = some o })) ::
  (nat_lit 1079, Subtype.val (⟨_, by k_is⟩ : { o : Obj // List.lookup (nat_lit 1079) (frag.heap_1 P) = some o })) ::
  (nat_lit 1085, Subtype.val (⟨_, by k_is⟩ : { o : Obj // List.lookup (nat_lit 1085) (frag.heap_1 P) = some o })) ::
  (nat_lit 1086, Subtype.val (⟨_, by k_is⟩ : { o : Obj // List.lookup (nat_lit 1086) (frag.heap_1 P) = some o })) ::
  (nat_lit 1092, Subtype.val (⟨_, by k_is⟩ : { o : Obj // List.lookup (nat_lit 1092) (frag.heap_1 P) = some o })) ::
  (nat_lit 1093, Subtype.val (⟨_, by k_is⟩ : { o : Obj // List.lookup (nat_lit 1093) (frag.heap_1 P) = some o })) ::
  (nat_lit 1099, Subtype.val (⟨_, by k_is⟩ : { o : Obj // List.lookup (nat_lit 1099) (frag.heap_1 P) = some o })) ::
  (nat_lit 1100, Subtype.val (⟨_, by k_is⟩ : { o : Obj // List.lookup (nat_lit 1100) (frag.heap_1 P) = some o })) ::
  (nat_lit 1106, Subtype.val (⟨_, by k_is⟩ : { o : Obj // List.lookup (nat_lit 1106) (frag.heap_1 P) = some o })) ::
  (nat_lit 1107, Subtype.val (⟨_, by k_is⟩ : { o : Obj // List.lookup (nat_lit 1107) (frag.heap_1 P) = some o })) ::
  (nat_lit 1113, Subtype.val (⟨_, by k_is⟩ : { o : Obj // List.lookup (nat_lit 1113) (frag.heap_1 P) = some o })) ::
  (nat_lit 1114, Subtype.val (⟨_, by k_is⟩ : { o : Obj // List.lookup (nat_lit 1114) (frag.heap_1 P) = some o })) ::
  (nat_lit 1120, Subtype.val (⟨_, by k_is⟩ : { o : Obj // List.lookup (nat_lit 1120) (frag.heap_1 P) = some o })) ::
  (nat_lit 1121, Subtype.val (⟨_, by k_is⟩ : { o : Obj // List.lookup (nat_lit 1121) (frag.heap_1 P) = some o })) ::
  (nat_lit 1127, Subtype.val (⟨_, by k_is⟩ : { o : Obj // List.lookup (nat_lit 1127) (frag.heap_1 P) = some o })) ::
  (nat_lit 1128, Subtype.val (⟨_, by k_is⟩ : { o : Obj // List.lookup (nat_lit 1128) (frag.heap_1 P) = some o })) ::
  (nat_lit 1141, Subtype.val (⟨_, by k_is⟩ : { o : Obj // List.lookup (nat_lit 1141) (frag.heap_1 P) = some o })) ::
  (nat_lit 1142, Subtype.val (⟨_, by k_is⟩ : { o : Obj // List.lookup (nat_lit 1142) (frag.heap_1 P) = some o })) ::
  (nat_lit 1148, Subtype.val (⟨_, by k_is⟩ : { o : Obj // List.lookup (nat_lit 1148) (frag.heap_1 P) = some o })) ::
  (nat_lit 1149, Subtype.val (⟨_, by k_is⟩ : { o : Obj // List.lookup (nat_lit 1149) (frag.heap_1 P) = some o })) ::
  (nat_lit 1169, Subtype.val (⟨_, by k_is⟩ : { o : Obj // List.lookup (nat_lit 1169) (frag.heap_1 P) = some o })) ::
  (nat_lit 1170, Subtype.val (⟨_, by k_is⟩ : { o : Obj // List.lookup (nat_lit 1170) (frag.heap_1 P) = some o })) ::
  (nat_lit 1197, Subtype.val (⟨_, by k_is⟩ : { o : Obj // List.lookup (nat_lit 1197) (frag.heap_1 P) = some o })) ::
  (nat_lit 1198, Subtype.val (⟨_, by k_is⟩ : { o : Obj // List.lookup (nat_lit 1198) (frag.heap_1 P) = some o })) ::
  (nat_lit 1211, Subtype.val (⟨_, by k_is⟩ : { o : Obj // List.lookup (nat_lit 1211) (frag.heap_1 P) = some o })) ::
  (nat_lit 1212, Subtype.val (⟨_, by k_is⟩ : { o : Obj // List.lookup (nat_lit 1212) (frag.heap_1 P) = some o })) ::
  (nat_lit 1249, Subtype.val (⟨_, by k_is⟩ : { o : Obj // List.lookup (nat_lit 1249) (frag.heap_1 P) = some o })) ::
  (nat_lit 1250, Subtype.val (⟨_, by k_is⟩ : { o : Obj // List.lookup (nat_lit 1250) (frag.heap_1 P) = some o })) ::
  (nat_lit 1251, Subtype.val (⟨_, by k_is⟩ : { o : Obj // List.lookup (nat_lit 1251) (frag.heap_1 P) = some o })) ::
  (nat_lit 1252, Subtype.val (⟨_, by k_is⟩ : { o : Obj // List.lookup (nat_lit 1252) (frag.heap_1 P) = some o })) ::
  (nat_lit 1260, Subtype.val (⟨_, by k_is⟩ : { o : Obj // List.lookup (nat_lit 1260) (frag.heap_1 P) = some o })) ::
  (nat_lit 1261, Subtype.val (⟨_, by k_is⟩ : { o : Obj // List.lookup (nat_lit 1261) (frag.heap_1 P) = some o })) ::
  (nat_lit 1267, Subtype.val (⟨_, by k_is⟩ : { o : Obj // List.lookup (nat_lit 1267) (frag.heap_1 P) = some o })) ::
  (nat_lit 1268, Subtype.val (⟨_, by k_is⟩ : { o : Obj // List.lookup (nat_lit 1268) (frag.heap_1 P) = some o })) ::
  (nat_lit 1274, Subtype.val (⟨_, by k_is⟩ : { o : Obj // List.lookup (nat_lit 1274) (frag.heap_1 P) = some o })) ::
  (nat_lit 1275, Subtype.val (⟨_, by k_is⟩ : { o : Obj // List.lookup (nat_lit 1275) (frag.heap_1 P) = some o })) ::
  (nat_lit 1281, Subtype.val (⟨_, by k_is⟩ : { o : Obj // List.lookup (nat_lit 1281) (frag.heap_1 P) = some o })) ::
  (nat_lit 1282, Subtype.val (⟨_, by k_is⟩ : { o : Obj // List.lookup (nat_lit 1282) (frag.heap_1 P) = some o })) ::
  (nat_lit 1286, Subtype.val (⟨_, by k_is⟩ : { o : Obj // List.lookup (nat_lit 1286) (frag.heap_1 P) = some o })) ::
  (nat_lit 1287, Subtype.val (⟨_, by k_is⟩ : { o : Obj // List.lookup (nat_lit 1287) (frag.heap_1 P) = some o })) ::
  (nat_lit 1293, Subtype.val (⟨_, by k_is⟩ : { o : Obj // List.lookup (nat_lit 1293) (frag.heap_1 P) = some o })) ::
  (nat_lit 1294, Subtype.val (⟨_, by k_is⟩ : { o : Obj // List.lookup (nat_lit 1294) (frag.heap_1 P) = some o })) ::
  (nat_lit 1300, Subtype.val (⟨_, by k_is⟩ : { o : Obj // List.lookup (nat_lit 1300) (frag.heap_1 P) = some o })) ::
  (nat_lit 1301, Subtype.val (⟨_, by k_is⟩ : { o : Obj // List.lookup (nat_lit 1301) (frag.heap_1 P) = some o })) ::
  (nat_lit 1305, Subtype.val (⟨_, by k_is⟩ : { o : Obj // List.lookup (nat_lit 1305) (frag.heap_1 P) = some o })) ::
  (nat_lit 1306, Subtype.val (⟨_, by k_is⟩ : { o : Obj // List.lookup (nat_lit 1306) (frag.heap_1 P) = some o })) ::
  (nat_lit 1312, Subtype.val (⟨_, by k_is⟩ : { o : Obj // List.lookup (nat_lit 1312) (frag.heap_1 P) = some o })) ::
  (nat_lit 1313, Subtype.val (⟨_, by k_is⟩ : { o : Obj // List.lookup (nat_lit 1313) (frag.heap_1 P) = some o })) ::
  (nat_lit 1319, Subtype.val (⟨_, by k_is⟩ : { o : Obj // List.lookup (nat_lit 1319) (frag.heap_1 P) = some o })) ::
  (nat_lit 1320, Subtype.val (⟨_, by k_is⟩ : { o : Obj // List.lookup (nat_lit 1320) (frag.heap_1 P) = some o })) ::
  (nat_lit 1326, Subtype.val (⟨_, by k_is⟩ : { o : Obj // List.lookup (nat_lit 1326) (frag.heap_1 P) = some o })) ::
  (nat_lit 1327, Subtype.val (⟨_, by k_is⟩ : { o : Obj // List.lookup (nat_lit 1327) (frag.heap_1 P) = some o }))
  :: []
theorem fill_1 : Two Mine.KK PySem.Challenge.rw_xm0674_01 := by
  k_fill
  trivial
end

open PySem PySem.W PyProof.Rows PySem.Calls
theorem room_le1 {d a k : Nat} (h : d + k ≤ 900) (e : Nat.ble a k = true) : d + a ≤ 900 := by have := Nat.le_of_ble_eq_true e; omega
theorem room_le2 {d a b k : Nat} (h : d + k ≤ 900) (e : Nat.ble (a + b) k = true) : d + a + b ≤ 900 := by have := Nat.le_of_ble_eq_true e; omega
theorem room_le3 {d a b c k : Nat} (h : d + k ≤ 900) (e : Nat.ble (a + b + c) k = true) : d + a + b + c ≤ 900 := by have := Nat.le_of_ble_eq_true e; omega
theorem room_lt1 {d a k : Nat} (h : d + k ≤ 900) (e : Nat.ble a (k + 99) = true) : d + a < recursionLimit := by have := Nat.le_of_ble_eq_true e; show d + a < 1000; omega
theorem room_lt2 {d a b k : Nat} (h : d + k ≤ 900) (e : Nat.ble (a + b) (k + 99) = true) : d + a + b < recursionLimit := by have := Nat.le_of_ble_eq_true e; show d + a + b < 1000; omega
theorem room_lt3 {d a b c k : Nat} (h : d + k ≤ 900) (e : Nat.ble (a + b + c) (k + 99) = true) : d + a + b + c < recursionLimit := by have := Nat.le_of_ble_eq_true e; show d + a + b + c < 1000; omega
theorem unit_le1 {d a k : Nat} (h : d + k ≤ 1000) (e : Nat.ble a k = true) : d + a ≤ 1000 := by have := Nat.le_of_ble_eq_true e; omega
theorem unit_le2 {d a b k : Nat} (h : d + k ≤ 1000) (e : Nat.ble (a + b) k = true) : d + a + b ≤ 1000 := by have := Nat.le_of_ble_eq_true e; omega
theorem unit_le3 {d a b c k : Nat} (h : d + k ≤ 1000) (e : Nat.ble (a + b + c) k = true) : d + a + b + c ≤ 1000 := by have := Nat.le_of_ble_eq_true e; omega
theorem unit_lt1 {d a k : Nat} (h : d + k ≤ 1000) (e : Nat.ble a k = true) : d + a < cLine := by have := Nat.le_of_ble_eq_true e; rw [cLine_is]; omega
theorem unit_lt2 {d a b k : Nat} (h : d + k ≤ 1000) (e : Nat.ble (a + b) k = true) : d + a + b < cLine := by have := Nat.le_of_ble_eq_true e; rw [cLine_is]; omega
theorem unit_lt3 {d a b c k : Nat} (h : d + k ≤ 1000) (e : Nat.ble (a + b + c) k = true) : d + a + b + c < cLine := by have := Nat.le_of_ble_eq_true e; rw [cLine_is]; omega
theorem unit_ltE {A d a b k : Nat} (h : d + k ≤ 1000) (eA : A = d + a) (e : Nat.ble (a + b) k = true) : A + b < cLine := by have := Nat.le_of_ble_eq_true e; rw [cLine_is]; omega
theorem unit_ltF {A d a k : Nat} (h : d + k ≤ 1000) (eA : A = d + a) (e : Nat.ble a k = true) : A < cLine := by have := Nat.le_of_ble_eq_true e; rw [cLine_is]; omega
theorem room_ltF {A d a k : Nat} (h : d + k ≤ 900) (eA : A = d + a) (e : Nat.ble a (k + 99) = true) : A < recursionLimit := by have := Nat.le_of_ble_eq_true e; show A < 1000; omega
theorem nlt {a b : Nat} (h : a < b) : @Ne Nat a b := Nat.ne_of_lt h
theorem ngt {a b : Nat} (h : b < a) : @Ne Nat a b := Nat.ne_of_gt h
theorem ngt1 {a b : Nat} (h : b < a) : @Ne Nat (a + 1) b := by omega
theorem ngt2 {a b : Nat} (h : b < a) : @Ne Nat (a + 1 + 1) b := by omega
theorem nlt1 {a b : Nat} (h : a < b) : @Ne Nat a (b + 1) := by omega
theorem nlt2 {a b : Nat} (h : a < b) : @Ne Nat a (b + 1 + 1) := by omega
theorem al0 {x y : Addr} {o : Obj} {r : List (Addr × Obj)} (h : ∀ q ∈ (x, o) :: r, q.1 < y) : @Ne Nat x y := Nat.ne_of_lt (h _ (.head _))
theorem ar0 {x y : Addr} {o : Obj} {r : List (Addr × Obj)} (h : ∀ q ∈ (x, o) :: r, q.1 < y) : @Ne Nat y x := Nat.ne_of_gt (h _ (.head _))
theorem al1 {p0 : Addr × Obj} {x y : Addr} {o : Obj} {r : List (Addr × Obj)} (h : ∀ q ∈ p0 :: (x, o) :: r, q.1 < y) : @Ne Nat x y := Nat.ne_of_lt (h _ (.tail _ (.head _)))
theorem ar1 {p0 : Addr × Obj} {x y : Addr} {o : Obj} {r : List (Addr × Obj)} (h : ∀ q ∈ p0 :: (x, o) :: r, q.1 < y) : @Ne Nat y x := Nat.ne_of_gt (h _ (.tail _ (.head _)))
theorem al2 {p0 p1 : Addr × Obj} {x y : Addr} {o : Obj} {r : List (Addr × Obj)} (h : ∀ q ∈ p0 :: p1 :: (x, o) :: r, q.1 < y) : @Ne Nat x y := Nat.ne_of_lt (h _ (.tail _ (.tail _ (.head _))))
theorem ar2 {p0 p1 : Addr × Obj} {x y : Addr} {o : Obj} {r : List (Addr × Obj)} (h : ∀ q ∈ p0 :: p1 :: (x, o) :: r, q.1 < y) : @Ne Nat y x := Nat.ne_of_gt (h _ (.tail _ (.tail _ (.head _))))
theorem al3 {p0 p1 p2 : Addr × Obj} {x y : Addr} {o : Obj} {r : List (Addr × Obj)} (h : ∀ q ∈ p0 :: p1 :: p2 :: (x, o) :: r, q.1 < y) : @Ne Nat x y := Nat.ne_of_lt (h _ (.tail _ (.tail _ (.tail _ (.head _)))))
theorem ar3 {p0 p1 p2 : Addr × Obj} {x y : Addr} {o : Obj} {r : List (Addr × Obj)} (h : ∀ q ∈ p0 :: p1 :: p2 :: (x, o) :: r, q.1 < y) : @Ne Nat y x := Nat.ne_of_gt (h _ (.tail _ (.tail _ (.tail _ (.head _)))))
theorem al4 {p0 p1 p2 p3 : Addr × Obj} {x y : Addr} {o : Obj} {r : List (Addr × Obj)} (h : ∀ q ∈ p0 :: p1 :: p2 :: p3 :: (x, o) :: r, q.1 < y) : @Ne Nat x y := Nat.ne_of_lt (h _ (.tail _ (.tail _ (.tail _ (.tail _ (.head _))))))
theorem ar4 {p0 p1 p2 p3 : Addr × Obj} {x y : Addr} {o : Obj} {r : List (Addr × Obj)} (h : ∀ q ∈ p0 :: p1 :: p2 :: p3 :: (x, o) :: r, q.1 < y) : @Ne Nat y x := Nat.ne_of_gt (h _ (.tail _ (.tail _ (.tail _ (.tail _ (.head _))))))
theorem al5 {p0 p1 p2 p3 p4 : Addr × Obj} {x y : Addr} {o : Obj} {r : List (Addr × Obj)} (h : ∀ q ∈ p0 :: p1 :: p2 :: p3 :: p4 :: (x, o) :: r, q.1 < y) : @Ne Nat x y := Nat.ne_of_lt (h _ (.tail _ (.tail _ (.tail _ (.tail _ (.tail _ (.head _)))))))
theorem ar5 {p0 p1 p2 p3 p4 : Addr × Obj} {x y : Addr} {o : Obj} {r : List (Addr × Obj)} (h : ∀ q ∈ p0 :: p1 :: p2 :: p3 :: p4 :: (x, o) :: r, q.1 < y) : @Ne Nat y x := Nat.ne_of_gt (h _ (.tail _ (.tail _ (.tail _ (.tail _ (.tail _ (.head _)))))))
theorem al6 {p0 p1 p2 p3 p4 p5 : Addr × Obj} {x y : Addr} {o : Obj} {r : List (Addr × Obj)} (h : ∀ q ∈ p0 :: p1 :: p2 :: p3 :: p4 :: p5 :: (x, o) :: r, q.1 < y) : @Ne Nat x y := Nat.ne_of_lt (h _ (.tail _ (.tail _ (.tail _ (.tail _ (.tail _ (.tail _ (.head _))))))))
theorem ar6 {p0 p1 p2 p3 p4 p5 : Addr × Obj} {x y : Addr} {o : Obj} {r : List (Addr × Obj)} (h : ∀ q ∈ p0 :: p1 :: p2 :: p3 :: p4 :: p5 :: (x, o) :: r, q.1 < y) : @Ne Nat y x := Nat.ne_of_gt (h _ (.tail _ (.tail _ (.tail _ (.tail _ (.tail _ (.tail _ (.head _))))))))
theorem al7 {p0 p1 p2 p3 p4 p5 p6 : Addr × Obj} {x y : Addr} {o : Obj} {r : List (Addr × Obj)} (h : ∀ q ∈ p0 :: p1 :: p2 :: p3 :: p4 :: p5 :: p6 :: (x, o) :: r, q.1 < y) : @Ne Nat x y := Nat.ne_of_lt (h _ (.tail _ (.tail _ (.tail _ (.tail _ (.tail _ (.tail _ (.tail _ (.head _)))))))))
theorem ar7 {p0 p1 p2 p3 p4 p5 p6 : Addr × Obj} {x y : Addr} {o : Obj} {r : List (Addr × Obj)} (h : ∀ q ∈ p0 :: p1 :: p2 :: p3 :: p4 :: p5 :: p6 :: (x, o) :: r, q.1 < y) : @Ne Nat y x := Nat.ne_of_gt (h _ (.tail _ (.tail _ (.tail _ (.tail _ (.tail _ (.tail _ (.tail _ (.head _)))))))))
theorem al8 {p0 p1 p2 p3 p4 p5 p6 p7 : Addr × Obj} {x y : Addr} {o : Obj} {r : List (Addr × Obj)} (h : ∀ q ∈ p0 :: p1 :: p2 :: p3 :: p4 :: p5 :: p6 :: p7 :: (x, o) :: r, q.1 < y) : @Ne Nat x y := Nat.ne_of_lt (h _ (.tail _ (.tail _ (.tail _ (.tail _ (.tail _ (.tail _ (.tail _ (.tail _ (.head _))))))))))
theorem ar8 {p0 p1 p2 p3 p4 p5 p6 p7 : Addr × Obj} {x y : Addr} {o : Obj} {r : List (Addr × Obj)} (h : ∀ q ∈ p0 :: p1 :: p2 :: p3 :: p4 :: p5 :: p6 :: p7 :: (x, o) :: r, q.1 < y) : @Ne Nat y x := Nat.ne_of_gt (h _ (.tail _ (.tail _ (.tail _ (.tail _ (.tail _ (.tail _ (.tail _ (.tail _ (.head _))))))))))
theorem al9 {p0 p1 p2 p3 p4 p5 p6 p7 p8 : Addr × Obj} {x y : Addr} {o : Obj} {r : List (Addr × Obj)} (h : ∀ q ∈ p0 :: p1 :: p2 :: p3 :: p4 :: p5 :: p6 :: p7 :: p8 :: (x, o) :: r, q.1 < y) : @Ne Nat x y := Nat.ne_of_lt (h _ (.tail _ (.tail _ (.tail _ (.tail _ (.tail _ (.tail _ (.tail _ (.tail _ (.tail _ (.head _)))))))))))
theorem ar9 {p0 p1 p2 p3 p4 p5 p6 p7 p8 : Addr × Obj} {x y : Addr} {o : Obj} {r : List (Addr × Obj)} (h : ∀ q ∈ p0 :: p1 :: p2 :: p3 :: p4 :: p5 :: p6 :: p7 :: p8 :: (x, o) :: r, q.1 < y) : @Ne Nat y x := Nat.ne_of_gt (h _ (.tail _ (.tail _ (.tail _ (.tail _ (.tail _ (.tail _ (.tail _ (.tail _ (.tail _ (.head _)))))))))))
theorem al10 {p0 p1 p2 p3 p4 p5 p6 p7 p8 p9 : Addr × Obj} {x y : Addr} {o : Obj} {r : List (Addr × Obj)} (h : ∀ q ∈ p0 :: p1 :: p2 :: p3 :: p4 :: p5 :: p6 :: p7 :: p8 :: p9 :: (x, o) :: r, q.1 < y) : @Ne Nat x y := Nat.ne_of_lt (h _ (.tail _ (.tail _ (.tail _ (.tail _ (.tail _ (.tail _ (.tail _ (.tail _ (.tail _ (.tail _ (.head _))))))))))))
theorem ar10 {p0 p1 p2 p3 p4 p5 p6 p7 p8 p9 : Addr × Obj} {x y : Addr} {o : Obj} {r : List (Addr × Obj)} (h : ∀ q ∈ p0 :: p1 :: p2 :: p3 :: p4 :: p5 :: p6 :: p7 :: p8 :: p9 :: (x, o) :: r, q.1 < y) : @Ne Nat y x := Nat.ne_of_gt (h _ (.tail _ (.tail _ (.tail _ (.tail _ (.tail _ (.tail _ (.tail _ (.tail _ (.tail _ (.tail _ (.head _))))))))))))
theorem al11 {p0 p1 p2 p3 p4 p5 p6 p7 p8 p9 p10 : Addr × Obj} {x y : Addr} {o : Obj} {r : List (Addr × Obj)} (h : ∀ q ∈ p0 :: p1 :: p2 :: p3 :: p4 :: p5 :: p6 :: p7 :: p8 :: p9 :: p10 :: (x, o) :: r, q.1 < y) : @Ne Nat x y := Nat.ne_of_lt (h _ (.tail _ (.tail _ (.tail _ (.tail _ (.tail _ (.tail _ (.tail _ (.tail _ (.tail _ (.tail _ (.tail _ (.head _)))))))))))))
theorem ar11 {p0 p1 p2 p3 p4 p5 p6 p7 p8 p9 p10 : Addr × Obj} {x y : Addr} {o : Obj} {r : List (Addr × Obj)} (h : ∀ q ∈ p0 :: p1 :: p2 :: p3 :: p4 :: p5 :: p6 :: p7 :: p8 :: p9 :: p10 :: (x, o) :: r, q.1 < y) : @Ne Nat y x := Nat.ne_of_gt (h _ (.tail _ (.tail _ (.tail _ (.tail _ (.tail _ (.tail _ (.tail _ (.tail _ (.tail _ (.tail _ (.tail _ (.head _)))))))))))))
theorem al12 {p0 p1 p2 p3 p4 p5 p6 p7 p8 p9 p10 p11 : Addr × Obj} {x y : Addr} {o : Obj} {r : List (Addr × Obj)} (h : ∀ q ∈ p0 :: p1 :: p2 :: p3 :: p4 :: p5 :: p6 :: p7 :: p8 :: p9 :: p10 :: p11 :: (x, o) :: r, q.1 < y) : @Ne Nat x y := Nat.ne_of_lt (h _ (.tail _ (.tail _ (.tail _ (.tail _ (.tail _ (.tail _ (.tail _ (.tail _ (.tail _ (.tail _ (.tail _ (.tail _ (.head _))))))))))))))
theorem ar12 {p0 p1 p2 p3 p4 p5 p6 p7 p8 p9 p10 p11 : Addr × Obj} {x y : Addr} {o : Obj} {r : List (Addr × Obj)} (h : ∀ q ∈ p0 :: p1 :: p2 :: p3 :: p4 :: p5 :: p6 :: p7 :: p8 :: p9 :: p10 :: p11 :: (x, o) :: r, q.1 < y) : @Ne Nat y x := Nat.ne_of_gt (h _ (.tail _ (.tail _ (.tail _ (.tail _ (.tail _ (.tail _ (.tail _ (.tail _ (.tail _ (.tail _ (.tail _ (.tail _ (.head _))))))))))))))
theorem al13 {p0 p1 p2 p3 p4 p5 p6 p7 p8 p9 p10 p11 p12 : Addr × Obj} {x y : Addr} {o : Obj} {r : List (Addr × Obj)} (h : ∀ q ∈ p0 :: p1 :: p2 :: p3 :: p4 :: p5 :: p6 :: p7 :: p8 :: p9 :: p10 :: p11 :: p12 :: (x, o) :: r, q.1 < y) : @Ne Nat x y := Nat.ne_of_lt (h _ (.tail _ (.tail _ (.tail _ (.tail _ (.tail _ (.tail _ (.tail _ (.tail _ (.tail _ (.tail _ (.tail _ (.tail _ (.tail _ (.head _)))))))))))))))
theorem ar13 {p0 p1 p2 p3 p4 p5 p6 p7 p8 p9 p10 p11 p12 : Addr × Obj} {x y : Addr} {o : Obj} {r : List (Addr × Obj)} (h : ∀ q ∈ p0 :: p1 :: p2 :: p3 :: p4 :: p5 :: p6 :: p7 :: p8 :: p9 :: p10 :: p11 :: p12 :: (x, o) :: r, q.1 < y) : @Ne Nat y x := Nat.ne_of_gt (h _ (.tail _ (.tail _ (.tail _ (.tail _ (.tail _ (.tail _ (.tail _ (.tail _ (.tail _ (.tail _ (.tail _ (.tail _ (.tail _ (.head _)))))))))))))))
theorem al14 {p0 p1 p2 p3 p4 p5 p6 p7 p8 p9 p10 p11 p12 p13 : Addr × Obj} {x y : Addr} {o : Obj} {r : List (Addr × Obj)} (h : ∀ q ∈ p0 :: p1 :: p2 :: p3 :: p4 :: p5 :: p6 :: p7 :: p8 :: p9 :: p10 :: p11 :: p12 :: p13 :: (x, o) :: r, q.1 < y) : @Ne Nat x y := Nat.ne_of_lt (h _ (.tail _ (.tail _ (.tail _ (.tail _ (.tail _ (.tail _ (.tail _ (.tail _ (.tail _ (.tail _ (.tail _ (.tail _ (.tail _ (.tail _ (.head _))))))))))))))))
theorem ar14 {p0 p1 p2 p3 p4 p5 p6 p7 p8 p9 p10 p11 p12 p13 : Addr × Obj} {x y : Addr} {o : Obj} {r : List (Addr × Obj)} (h : ∀ q ∈ p0 :: p1 :: p2 :: p3 :: p4 :: p5 :: p6 :: p7 :: p8 :: p9 :: p10 :: p11 :: p12 :: p13 :: (x, o) :: r, q.1 < y) : @Ne Nat y x := Nat.ne_of_gt (h _ (.tail _ (.tail _ (.tail _ (.tail _ (.tail _ (.tail _ (.tail _ (.tail _ (.tail _ (.tail _ (.tail _ (.tail _ (.tail _ (.tail _ (.head _))))))))))))))))
theorem al15 {p0 p1 p2 p3 p4 p5 p6 p7 p8 p9 p10 p11 p12 p13 p14 : Addr × Obj} {x y : Addr} {o : Obj} {r : List (Addr × Obj)} (h : ∀ q ∈ p0 :: p1 :: p2 :: p3 :: p4 :: p5 :: p6 :: p7 :: p8 :: p9 :: p10 :: p11 :: p12 :: p13 :: p14 :: (x, o) :: r, q.1 < y) : @Ne Nat x y := Nat.ne_of_lt (h _ (.tail _ (.tail _ (.tail _ (.tail _ (.tail _ (.tail _ (.tail _ (.tail _ (.tail _ (.tail _ (.tail _ (.tail _ (.tail _ (.tail _ (.tail _ (.head _)))))))))))))))))
theorem ar15 {p0 p1 p2 p3 p4 p5 p6 p7 p8 p9 p10 p11 p12 p13 p14 : Addr × Obj} {x y : Addr} {o : Obj} {r : List (Addr × Obj)} (h : ∀ q ∈ p0 :: p1 :: p2 :: p3 :: p4 :: p5 :: p6 :: p7 :: p8 :: p9 :: p10 :: p11 :: p12 :: p13 :: p14 :: (x, o) :: r, q.1 < y) : @Ne Nat y x := Nat.ne_of_gt (h _ (.tail _ (.tail _ (.tail _ (.tail _ (.tail _ (.tail _ (.tail _ (.tail _ (.tail _ (.tail _ (.tail _ (.tail _ (.tail _ (.tail _ (.tail _ (.head _)))))))))))))))))
theorem at0 {x y z : Addr} {o : Obj} {r : List (Addr × Obj)} (g : @LT.lt Nat _ y z) (h : ∀ q ∈ (x, o) :: r, q.1 < y) : @Ne Nat x z := Nat.ne_of_lt (Nat.lt_trans (h _ (.head _)) g)
theorem au0 {x y z : Addr} {o : Obj} {r : List (Addr × Obj)} (g : @LT.lt Nat _ y z) (h : ∀ q ∈ (x, o) :: r, q.1 < y) : @Ne Nat z x := Nat.ne_of_gt (Nat.lt_trans (h _ (.head _)) g)
theorem at1 {p0 : Addr × Obj} {x y z : Addr} {o : Obj} {r : List (Addr × Obj)} (g : @LT.lt Nat _ y z) (h : ∀ q ∈ p0 :: (x, o) :: r, q.1 < y) : @Ne Nat x z := Nat.ne_of_lt (Nat.lt_trans (h _ (.tail _ (.head _))) g)
theorem au1 {p0 : Addr × Obj} {x y z : Addr} {o : Obj} {r : List (Addr × Obj)} (g : @LT.lt Nat _ y z) (h : ∀ q ∈ p0 :: (x, o) :: r, q.1 < y) : @Ne Nat z x := Nat.ne_of_gt (Nat.lt_trans (h _ (.tail _ (.head _))) g)
theorem at2 {p0 p1 : Addr × Obj} {x y z : Addr} {o : Obj} {r : List (Addr × Obj)} (g : @LT.lt Nat _ y z) (h : ∀ q ∈ p0 :: p1 :: (x, o) :: r, q.1 < y) : @Ne Nat x z := Nat.ne_of_lt (Nat.lt_trans (h _ (.tail _ (.tail _ (.head _)))) g)
theorem au2 {p0 p1 : Addr × Obj} {x y z : Addr} {o : Obj} {r : List (Addr × Obj)} (g : @LT.lt Nat _ y z) (h : ∀ q ∈ p0 :: p1 :: (x, o) :: r, q.1 < y) : @Ne Nat z x := Nat.ne_of_gt (Nat.lt_trans (h _ (.tail _ (.tail _ (.head _)))) g)
theorem at3 {p0 p1 p2 : Addr × Obj} {x y z : Addr} {o : Obj} {r : List (Addr × Obj)} (g : @LT.lt Nat _ y z) (h : ∀ q ∈ p0 :: p1 :: p2 :: (x, o) :: r, q.1 < y) : @Ne Nat x z := Nat.ne_of_lt (Nat.lt_trans (h _ (.tail _ (.tail _ (.tail _ (.head _))))) g)
theorem au3 {p0 p1 p2 : Addr × Obj} {x y z : Addr} {o : Obj} {r : List (Addr × Obj)} (g : @LT.lt Nat _ y z) (h : ∀ q ∈ p0 :: p1 :: p2 :: (x, o) :: r, q.1 < y) : @Ne Nat z x := Nat.ne_of_gt (Nat.lt_trans (h _ (.tail _ (.tail _ (.tail _ (.head _))))) g)
theorem at4 {p0 p1 p2 p3 : Addr × Obj} {x y z : Addr} {o : Obj} {r : List (Addr × Obj)} (g : @LT.lt Nat _ y z) (h : ∀ q ∈ p0 :: p1 :: p2 :: p3 :: (x, o) :: r, q.1 < y) : @Ne Nat x z := Nat.ne_of_lt (Nat.lt_trans (h _ (.tail _ (.tail _ (.tail _ (.tail _ (.head _)))))) g)
theorem au4 {p0 p1 p2 p3 : Addr × Obj} {x y z : Addr} {o : Obj} {r : List (Addr × Obj)} (g : @LT.lt Nat _ y z) (h : ∀ q ∈ p0 :: p1 :: p2 :: p3 :: (x, o) :: r, q.1 < y) : @Ne Nat z x := Nat.ne_of_gt (Nat.lt_trans (h _ (.tail _ (.tail _ (.tail _ (.tail _ (.head _)))))) g)
theorem at5 {p0 p1 p2 p3 p4 : Addr × Obj} {x y z : Addr} {o : Obj} {r : List (Addr × Obj)} (g : @LT.lt Nat _ y z) (h : ∀ q ∈ p0 :: p1 :: p2 :: p3 :: p4 :: (x, o) :: r, q.1 < y) : @Ne Nat x z := Nat.ne_of_lt (Nat.lt_trans (h _ (.tail _ (.tail _ (.tail _ (.tail _ (.tail _ (.head _))))))) g)
theorem au5 {p0 p1 p2 p3 p4 : Addr × Obj} {x y z : Addr} {o : Obj} {r : List (Addr × Obj)} (g : @LT.lt Nat _ y z) (h : ∀ q ∈ p0 :: p1 :: p2 :: p3 :: p4 :: (x, o) :: r, q.1 < y) : @Ne Nat z x := Nat.ne_of_gt (Nat.lt_trans (h _ (.tail _ (.tail _ (.tail _ (.tail _ (.tail _ (.head _))))))) g)
theorem at6 {p0 p1 p2 p3 p4 p5 : Addr × Obj} {x y z : Addr} {o : Obj} {r : List (Addr × Obj)} (g : @LT.lt Nat _ y z) (h : ∀ q ∈ p0 :: p1 :: p2 :: p3 :: p4 :: p5 :: (x, o) :: r, q.1 < y) : @Ne Nat x z := Nat.ne_of_lt (Nat.lt_trans (h _ (.tail _ (.tail _ (.tail _ (.tail _ (.tail _ (.tail _ (.head _)))))))) g)
theorem au6 {p0 p1 p2 p3 p4 p5 : Addr × Obj} {x y z : Addr} {o : Obj} {r : List (Addr × Obj)} (g : @LT.lt Nat _ y z) (h : ∀ q ∈ p0 :: p1 :: p2 :: p3 :: p4 :: p5 :: (x, o) :: r, q.1 < y) : @Ne Nat z x := Nat.ne_of_gt (Nat.lt_trans (h _ (.tail _ (.tail _ (.tail _ (.tail _ (.tail _ (.tail _ (.head _)))))))) g)
theorem at7 {p0 p1 p2 p3 p4 p5 p6 : Addr × Obj} {x y z : Addr} {o : Obj} {r : List (Addr × Obj)} (g : @LT.lt Nat _ y z) (h : ∀ q ∈ p0 :: p1 :: p2 :: p3 :: p4 :: p5 :: p6 :: (x, o) :: r, q.1 < y) : @Ne Nat x z := Nat.ne_of_lt (Nat.lt_trans (h _ (.tail _ (.tail _ (.tail _ (.tail _ (.tail _ (.tail _ (.tail _ (.head _))))))))) g)
theorem au7 {p0 p1 p2 p3 p4 p5 p6 : Addr × Obj} {x y z : Addr} {o : Obj} {r : List (Addr × Obj)} (g : @LT.lt Nat _ y z) (h : ∀ q ∈ p0 :: p1 :: p2 :: p3 :: p4 :: p5 :: p6 :: (x, o) :: r, q.1 < y) : @Ne Nat z x := Nat.ne_of_gt (Nat.lt_trans (h _ (.tail _ (.tail _ (.tail _ (.tail _ (.tail _ (.tail _ (.tail _ (.head _))))))))) g)
theorem aa0 {y : Addr} {r : List (Addr × Obj)} (h : ∀ q ∈ r, q.1 < y) : ∀ q ∈ r, q.1 ≠ y := fun q hq => Nat.ne_of_lt (h q (hq))
theorem ab0 {y z : Addr} {r : List (Addr × Obj)} (g : @LT.lt Nat _ y z) (h : ∀ q ∈ r, q.1 < y) : ∀ q ∈ r, q.1 ≠ z := fun q hq => Nat.ne_of_lt (Nat.lt_trans (h q (hq)) g)
theorem aa1 {p0 : Addr × Obj} {y : Addr} {r : List (Addr × Obj)} (h : ∀ q ∈ p0 :: r, q.1 < y) : ∀ q ∈ r, q.1 ≠ y := fun q hq => Nat.ne_of_lt (h q (.tail _ (hq)))
theorem ab1 {p0 : Addr × Obj} {y z : Addr} {r : List (Addr × Obj)} (g : @LT.lt Nat _ y z) (h : ∀ q ∈ p0 :: r, q.1 < y) : ∀ q ∈ r, q.1 ≠ z := fun q hq => Nat.ne_of_lt (Nat.lt_trans (h q (.tail _ (hq))) g)
theorem aa2 {p0 p1 : Addr × Obj} {y : Addr} {r : List (Addr × Obj)} (h : ∀ q ∈ p0 :: p1 :: r, q.1 < y) : ∀ q ∈ r, q.1 ≠ y := fun q hq => Nat.ne_of_lt (h q (.tail _ (.tail _ (hq))))
theorem ab2 {p0 p1 : Addr × Obj} {y z : Addr} {r : List (Addr × Obj)} (g : @LT.lt Nat _ y z) (h : ∀ q ∈ p0 :: p1 :: r, q.1 < y) : ∀ q ∈ r, q.1 ≠ z := fun q hq => Nat.ne_of_lt (Nat.lt_trans (h q (.tail _ (.tail _ (hq)))) g)
theorem aa3 {p0 p1 p2 : Addr × Obj} {y : Addr} {r : List (Addr × Obj)} (h : ∀ q ∈ p0 :: p1 :: p2 :: r, q.1 < y) : ∀ q ∈ r, q.1 ≠ y := fun q hq => Nat.ne_of_lt (h q (.tail _ (.tail _ (.tail _ (hq)))))
theorem ab3 {p0 p1 p2 : Addr × Obj} {y z : Addr} {r : List (Addr × Obj)} (g : @LT.lt Nat _ y z) (h : ∀ q ∈ p0 :: p1 :: p2 :: r, q.1 < y) : ∀ q ∈ r, q.1 ≠ z := fun q hq => Nat.ne_of_lt (Nat.lt_trans (h q (.tail _ (.tail _ (.tail _ (hq))))) g)
theorem aa4 {p0 p1 p2 p3 : Addr × Obj} {y : Addr} {r : List (Addr × Obj)} (h : ∀ q ∈ p0 :: p1 :: p2 :: p3 :: r, q.1 < y) : ∀ q ∈ r, q.1 ≠ y := fun q hq => Nat.ne_of_lt (h q (.tail _ (.tail _ (.tail _ (.tail _ (hq))))))
theorem ab4 {p0 p1 p2 p3 : Addr × Obj} {y z : Addr} {r : List (Addr × Obj)} (g : @LT.lt Nat _ y z) (h : ∀ q ∈ p0 :: p1 :: p2 :: p3 :: r, q.1 < y) : ∀ q ∈ r, q.1 ≠ z := fun q hq => Nat.ne_of_lt (Nat.lt_trans (h q (.tail _ (.tail _ (.tail _ (.tail _ (hq)))))) g)
theorem aa5 {p0 p1 p2 p3 p4 : Addr × Obj} {y : Addr} {r : List (Addr × Obj)} (h : ∀ q ∈ p0 :: p1 :: p2 :: p3 :: p4 :: r, q.1 < y) : ∀ q ∈ r, q.1 ≠ y := fun q hq => Nat.ne_of_lt (h q (.tail _ (.tail _ (.tail _ (.tail _ (.tail _ (hq)))))))
theorem ab5 {p0 p1 p2 p3 p4 : Addr × Obj} {y z : Addr} {r : List (Addr × Obj)} (g : @LT.lt Nat _ y z) (h : ∀ q ∈ p0 :: p1 :: p2 :: p3 :: p4 :: r, q.1 < y) : ∀ q ∈ r, q.1 ≠ z := fun q hq => Nat.ne_of_lt (Nat.lt_trans (h q (.tail _ (.tail _ (.tail _ (.tail _ (.tail _ (hq))))))) g)
theorem aa6 {p0 p1 p2 p3 p4 p5 : Addr × Obj} {y : Addr} {r : List (Addr × Obj)} (h : ∀ q ∈ p0 :: p1 :: p2 :: p3 :: p4 :: p5 :: r, q.1 < y) : ∀ q ∈ r, q.1 ≠ y := fun q hq => Nat.ne_of_lt (h q (.tail _ (.tail _ (.tail _ (.tail _ (.tail _ (.tail _ (hq))))))))
theorem ab6 {p0 p1 p2 p3 p4 p5 : Addr × Obj} {y z : Addr} {r : List (Addr × Obj)} (g : @LT.lt Nat _ y z) (h : ∀ q ∈ p0 :: p1 :: p2 :: p3 :: p4 :: p5 :: r, q.1 < y) : ∀ q ∈ r, q.1 ≠ z := fun q hq => Nat.ne_of_lt (Nat.lt_trans (h q (.tail _ (.tail _ (.tail _ (.tail _ (.tail _ (.tail _ (hq)))))))) g)
theorem aa7 {p0 p1 p2 p3 p4 p5 p6 : Addr × Obj} {y : Addr} {r : List (Addr × Obj)} (h : ∀ q ∈ p0 :: p1 :: p2 :: p3 :: p4 :: p5 :: p6 :: r, q.1 < y) : ∀ q ∈ r, q.1 ≠ y := fun q hq => Nat.ne_of_lt (h q (.tail _ (.tail _ (.tail _ (.tail _ (.tail _ (.tail _ (.tail _ (hq)))))))))
theorem ab7 {p0 p1 p2 p3 p4 p5 p6 : Addr × Obj} {y z : Addr} {r : List (Addr × Obj)} (g : @LT.lt Nat _ y z) (h : ∀ q ∈ p0 :: p1 :: p2 :: p3 :: p4 :: p5 :: p6 :: r, q.1 < y) : ∀ q ∈ r, q.1 ≠ z := fun q hq => Nat.ne_of_lt (Nat.lt_trans (h q (.tail _ (.tail _ (.tail _ (.tail _ (.tail _ (.tail _ (.tail _ (hq))))))))) g)
theorem ll0 {x y : Addr} {o : Obj} {r : List (Addr × Obj)} (h : ∀ q ∈ (x, o) :: r, q.1 < y) : @LT.lt Nat _ x y := h _ (.head _)
theorem ll1 {p0 : Addr × Obj} {x y : Addr} {o : Obj} {r : List (Addr × Obj)} (h : ∀ q ∈ p0 :: (x, o) :: r, q.1 < y) : @LT.lt Nat _ x y := h _ (.tail _ (.head _))
theorem ll2 {p0 p1 : Addr × Obj} {x y : Addr} {o : Obj} {r : List (Addr × Obj)} (h : ∀ q ∈ p0 :: p1 :: (x, o) :: r, q.1 < y) : @LT.lt Nat _ x y := h _ (.tail _ (.tail _ (.head _)))
theorem ll3 {p0 p1 p2 : Addr × Obj} {x y : Addr} {o : Obj} {r : List (Addr × Obj)} (h : ∀ q ∈ p0 :: p1 :: p2 :: (x, o) :: r, q.1 < y) : @LT.lt Nat _ x y := h _ (.tail _ (.tail _ (.tail _ (.head _))))
theorem ll4 {p0 p1 p2 p3 : Addr × Obj} {x y : Addr} {o : Obj} {r : List (Addr × Obj)} (h : ∀ q ∈ p0 :: p1 :: p2 :: p3 :: (x, o) :: r, q.1 < y) : @LT.lt Nat _ x y := h _ (.tail _ (.tail _ (.tail _ (.tail _ (.head _)))))
theorem ll5 {p0 p1 p2 p3 p4 : Addr × Obj} {x y : Addr} {o : Obj} {r : List (Addr × Obj)} (h : ∀ q ∈ p0 :: p1 :: p2 :: p3 :: p4 :: (x, o) :: r, q.1 < y) : @LT.lt Nat _ x y := h _ (.tail _ (.tail _ (.tail _ (.tail _ (.tail _ (.head _))))))
theorem ll6 {p0 p1 p2 p3 p4 p5 : Addr × Obj} {x y : Addr} {o : Obj} {r : List (Addr × Obj)} (h : ∀ q ∈ p0 :: p1 :: p2 :: p3 :: p4 :: p5 :: (x, o) :: r, q.1 < y) : @LT.lt Nat _ x y := h _ (.tail _ (.tail _ (.tail _ (.tail _ (.tail _ (.tail _ (.head _)))))))
theorem ll7 {p0 p1 p2 p3 p4 p5 p6 : Addr × Obj} {x y : Addr} {o : Obj} {r : List (Addr × Obj)} (h : ∀ q ∈ p0 :: p1 :: p2 :: p3 :: p4 :: p5 :: p6 :: (x, o) :: r, q.1 < y) : @LT.lt Nat _ x y := h _ (.tail _ (.tail _ (.tail _ (.tail _ (.tail _ (.tail _ (.tail _ (.head _))))))))
theorem ll8 {p0 p1 p2 p3 p4 p5 p6 p7 : Addr × Obj} {x y : Addr} {o : Obj} {r : List (Addr × Obj)} (h : ∀ q ∈ p0 :: p1 :: p2 :: p3 :: p4 :: p5 :: p6 :: p7 :: (x, o) :: r, q.1 < y) : @LT.lt Nat _ x y := h _ (.tail _ (.tail _ (.tail _ (.tail _ (.tail _ (.tail _ (.tail _ (.tail _ (.head _)))))))))
theorem ll9 {p0 p1 p2 p3 p4 p5 p6 p7 p8 : Addr × Obj} {x y : Addr} {o : Obj} {r : List (Addr × Obj)} (h : ∀ q ∈ p0 :: p1 :: p2 :: p3 :: p4 :: p5 :: p6 :: p7 :: p8 :: (x, o) :: r, q.1 < y) : @LT.lt Nat _ x y := h _ (.tail _ (.tail _ (.tail _ (.tail _ (.tail _ (.tail _ (.tail _ (.tail _ (.tail _ (.head _))))))))))
theorem ll10 {p0 p1 p2 p3 p4 p5 p6 p7 p8 p9 : Addr × Obj} {x y : Addr} {o : Obj} {r : List (Addr × Obj)} (h : ∀ q ∈ p0 :: p1 :: p2 :: p3 :: p4 :: p5 :: p6 :: p7 :: p8 :: p9 :: (x, o) :: r, q.1 < y) : @LT.lt Nat _ x y := h _ (.tail _ (.tail _ (.tail _ (.tail _ (.tail _ (.tail _ (.tail _ (.tail _ (.tail _ (.tail _ (.head _)))))))))))
theorem ll11 {p0 p1 p2 p3 p4 p5 p6 p7 p8 p9 p10 : Addr × Obj} {x y : Addr} {o : Obj} {r : List (Addr × Obj)} (h : ∀ q ∈ p0 :: p1 :: p2 :: p3 :: p4 :: p5 :: p6 :: p7 :: p8 :: p9 :: p10 :: (x, o) :: r, q.1 < y) : @LT.lt Nat _ x y := h _ (.tail _ (.tail _ (.tail _ (.tail _ (.tail _ (.tail _ (.tail _ (.tail _ (.tail _ (.tail _ (.tail _ (.head _))))))))))))
theorem ll12 {p0 p1 p2 p3 p4 p5 p6 p7 p8 p9 p10 p11 : Addr × Obj} {x y : Addr} {o : Obj} {r : List (Addr × Obj)} (h : ∀ q ∈ p0 :: p1 :: p2 :: p3 :: p4 :: p5 :: p6 :: p7 :: p8 :: p9 :: p10 :: p11 :: (x, o) :: r, q.1 < y) : @LT.lt Nat _ x y := h _ (.tail _ (.tail _ (.tail _ (.tail _ (.tail _ (.tail _ (.tail _ (.tail _ (.tail _ (.tail _ (.tail _ (.tail _ (.head _)))))))))))))
theorem ll13 {p0 p1 p2 p3 p4 p5 p6 p7 p8 p9 p10 p11 p12 : Addr × Obj} {x y : Addr} {o : Obj} {r : List (Addr × Obj)} (h : ∀ q ∈ p0 :: p1 :: p2 :: p3 :: p4 :: p5 :: p6 :: p7 :: p8 :: p9 :: p10 :: p11 :: p12 :: (x, o) :: r, q.1 < y) : @LT.lt Nat _ x y := h _ (.tail _ (.tail _ (.tail _ (.tail _ (.tail _ (.tail _ (.tail _ (.tail _ (.tail _ (.tail _ (.tail _ (.tail _ (.tail _ (.head _))))))))))))))
theorem la0 {y : Addr} {r : List (Addr × Obj)} (h : ∀ q ∈ r, q.1 < y) : AllLt y r := allLt_of fun q hq => h q (hq)
theorem la1 {p0 : Addr × Obj} {y : Addr} {r : List (Addr × Obj)} (h : ∀ q ∈ p0 :: r, q.1 < y) : AllLt y r := allLt_of fun q hq => h q (.tail _ (hq))
theorem la2 {p0 p1 : Addr × Obj} {y : Addr} {r : List (Addr × Obj)} (h : ∀ q ∈ p0 :: p1 :: r, q.1 < y) : AllLt y r := allLt_of fun q hq => h q (.tail _ (.tail _ (hq)))
theorem la3 {p0 p1 p2 : Addr × Obj} {y : Addr} {r : List (Addr × Obj)} (h : ∀ q ∈ p0 :: p1 :: p2 :: r, q.1 < y) : AllLt y r := allLt_of fun q hq => h q (.tail _ (.tail _ (.tail _ (hq))))
theorem la4 {p0 p1 p2 p3 : Addr × Obj} {y : Addr} {r : List (Addr × Obj)} (h : ∀ q ∈ p0 :: p1 :: p2 :: p3 :: r, q.1 < y) : AllLt y r := allLt_of fun q hq => h q (.tail _ (.tail _ (.tail _ (.tail _ (hq)))))
theorem la5 {p0 p1 p2 p3 p4 : Addr × Obj} {y : Addr} {r : List (Addr × Obj)} (h : ∀ q ∈ p0 :: p1 :: p2 :: p3 :: p4 :: r, q.1 < y) : AllLt y r := allLt_of fun q hq => h q (.tail _ (.tail _ (.tail _ (.tail _ (.tail _ (hq))))))
theorem la6 {p0 p1 p2 p3 p4 p5 : Addr × Obj} {y : Addr} {r : List (Addr × Obj)} (h : ∀ q ∈ p0 :: p1 :: p2 :: p3 :: p4 :: p5 :: r, q.1 < y) : AllLt y r := allLt_of fun q hq => h q (.tail _ (.tail _ (.tail _ (.tail _ (.tail _ (.tail _ (hq)))))))
theorem la7 {p0 p1 p2 p3 p4 p5 p6 : Addr × Obj} {y : Addr} {r : List (Addr × Obj)} (h : ∀ q ∈ p0 :: p1 :: p2 :: p3 :: p4 :: p5 :: p6 :: r, q.1 < y) : AllLt y r := allLt_of fun q hq => h q (.tail _ (.tail _ (.tail _ (.tail _ (.tail _ (.tail _ (.tail _ (hq))))))))
theorem av0 {x y : Addr} {o : Obj} {r : List (Addr × Obj)} (h : ∀ q ∈ (x, o) :: r, q.1 < y) : @Ne Nat x (y + 1) := Nat.ne_of_lt (Nat.lt_succ_of_lt (h _ (.head _)))
theorem avs0 {x y : Addr} {o : Obj} {r : List (Addr × Obj)} (h : ∀ q ∈ (x, o) :: r, q.1 < y) : @Ne Nat (y + 1) x := Nat.ne_of_gt (Nat.lt_succ_of_lt (h _ (.head _)))
theorem aw0 {x y : Addr} {o : Obj} {r : List (Addr × Obj)} (h : ∀ q ∈ (x, o) :: r, q.1 < y) : @Ne Nat x (y + 1 + 1) := Nat.ne_of_lt (Nat.lt_succ_of_lt (Nat.lt_succ_of_lt (h _ (.head _))))
theorem aws0 {x y : Addr} {o : Obj} {r : List (Addr × Obj)} (h : ∀ q ∈ (x, o) :: r, q.1 < y) : @Ne Nat (y + 1 + 1) x := Nat.ne_of_gt (Nat.lt_succ_of_lt (Nat.lt_succ_of_lt (h _ (.head _))))
theorem av1 {p0 : Addr × Obj} {x y : Addr} {o : Obj} {r : List (Addr × Obj)} (h : ∀ q ∈ p0 :: (x, o) :: r, q.1 < y) : @Ne Nat x (y + 1) := Nat.ne_of_lt (Nat.lt_succ_of_lt (h _ (.tail _ (.head _))))
theorem avs1 {p0 : Addr × Obj} {x y : Addr} {o : Obj} {r : List (Addr × Obj)} (h : ∀ q ∈ p0 :: (x, o) :: r, q.1 < y) : @Ne Nat (y + 1) x := Nat.ne_of_gt (Nat.lt_succ_of_lt (h _ (.tail _ (.head _))))
theorem aw1 {p0 : Addr × Obj} {x y : Addr} {o : Obj} {r : List (Addr × Obj)} (h : ∀ q ∈ p0 :: (x, o) :: r, q.1 < y) : @Ne Nat x (y + 1 + 1) := Nat.ne_of_lt (Nat.lt_succ_of_lt (Nat.lt_succ_of_lt (h _ (.tail _ (.head _)))))
theorem aws1 {p0 : Addr × Obj} {x y : Addr} {o : Obj} {r : List (Addr × Obj)} (h : ∀ q ∈ p0 :: (x, o) :: r, q.1 < y) : @Ne Nat (y + 1 + 1) x := Nat.ne_of_gt (Nat.lt_succ_of_lt (Nat.lt_succ_of_lt (h _ (.tail _ (.head _)))))
theorem av2 {p0 p1 : Addr × Obj} {x y : Addr} {o : Obj} {r : List (Addr × Obj)} (h : ∀ q ∈ p0 :: p1 :: (x, o) :: r, q.1 < y) : @Ne Nat x (y + 1) := Nat.ne_of_lt (Nat.lt_succ_of_lt (h _ (.tail _ (.tail _ (.head _)))))
theorem avs2 {p0 p1 : Addr × Obj} {x y : Addr} {o : Obj} {r : List (Addr × Obj)} (h : ∀ q ∈ p0 :: p1 :: (x, o) :: r, q.1 < y) : @Ne Nat (y + 1) x := Nat.ne_of_gt (Nat.lt_succ_of_lt (h _ (.tail _ (.tail _ (.head _)))))
theorem aw2 {p0 p1 : Addr × Obj} {x y : Addr} {o : Obj} {r : List (Addr × Obj)} (h : ∀ q ∈ p0 :: p1 :: (x, o) :: r, q.1 < y) : @Ne Nat x (y + 1 + 1) := Nat.ne_of_lt (Nat.lt_succ_of_lt (Nat.lt_succ_of_lt (h _ (.tail _ (.tail _ (.head _))))))
theorem aws2 {p0 p1 : Addr × Obj} {x y : Addr} {o : Obj} {r : List (Addr × Obj)} (h : ∀ q ∈ p0 :: p1 :: (x, o) :: r, q.1 < y) : @Ne Nat (y + 1 + 1) x := Nat.ne_of_gt (Nat.lt_succ_of_lt (Nat.lt_succ_of_lt (h _ (.tail _ (.tail _ (.head _))))))
theorem av3 {p0 p1 p2 : Addr × Obj} {x y : Addr} {o : Obj} {r : List (Addr × Obj)} (h : ∀ q ∈ p0 :: p1 :: p2 :: (x, o) :: r, q.1 < y) : @Ne Nat x (y + 1) := Nat.ne_of_lt (Nat.lt_succ_of_lt (h _ (.tail _ (.tail _ (.tail _ (.head _))))))
theorem avs3 {p0 p1 p2 : Addr × Obj} {x y : Addr} {o : Obj} {r : List (Addr × Obj)} (h : ∀ q ∈ p0 :: p1 :: p2 :: (x, o) :: r, q.1 < y) : @Ne Nat (y + 1) x := Nat.ne_of_gt (Nat.lt_succ_of_lt (h _ (.tail _ (.tail _ (.tail _ (.head _))))))
theorem aw3 {p0 p1 p2 : Addr × Obj} {x y : Addr} {o : Obj} {r : List (Addr × Obj)} (h : ∀ q ∈ p0 :: p1 :: p2 :: (x, o) :: r, q.1 < y) : @Ne Nat x (y + 1 + 1) := Nat.ne_of_lt (Nat.lt_succ_of_lt (Nat.lt_succ_of_lt (h _ (.tail _ (.tail _ (.tail _ (.head _)))))))
theorem aws3 {p0 p1 p2 : Addr × Obj} {x y : Addr} {o : Obj} {r : List (Addr × Obj)} (h : ∀ q ∈ p0 :: p1 :: p2 :: (x, o) :: r, q.1 < y) : @Ne Nat (y + 1 + 1) x := Nat.ne_of_gt (Nat.lt_succ_of_lt (Nat.lt_succ_of_lt (h _ (.tail _ (.tail _ (.tail _ (.head _)))))))
theorem av4 {p0 p1 p2 p3 : Addr × Obj} {x y : Addr} {o : Obj} {r : List (Addr × Obj)} (h : ∀ q ∈ p0 :: p1 :: p2 :: p3 :: (x, o) :: r, q.1 < y) : @Ne Nat x (y + 1) := Nat.ne_of_lt (Nat.lt_succ_of_lt (h _ (.tail _ (.tail _ (.tail _ (.tail _ (.head _)))))))
theorem avs4 {p0 p1 p2 p3 : Addr × Obj} {x y : Addr} {o : Obj} {r : List (Addr × Obj)} (h : ∀ q ∈ p0 :: p1 :: p2 :: p3 :: (x, o) :: r, q.1 < y) : @Ne Nat (y + 1) x := Nat.ne_of_gt (Nat.lt_succ_of_lt (h _ (.tail _ (.tail _ (.tail _ (.tail _ (.head _)))))))
theorem aw4 {p0 p1 p2 p3 : Addr × Obj} {x y : Addr} {o : Obj} {r : List (Addr × Obj)} (h : ∀ q ∈ p0 :: p1 :: p2 :: p3 :: (x, o) :: r, q.1 < y) : @Ne Nat x (y + 1 + 1) := Nat.ne_of_lt (Nat.lt_succ_of_lt (Nat.lt_succ_of_lt (h _ (.tail _ (.tail _ (.tail _ (.tail _ (.head _))))))))
theorem aws4 {p0 p1 p2 p3 : Addr × Obj} {x y : Addr} {o : Obj} {r : List (Addr × Obj)} (h : ∀ q ∈ p0 :: p1 :: p2 :: p3 :: (x, o) :: r, q.1 < y) : @Ne Nat (y + 1 + 1) x := Nat.ne_of_gt (Nat.lt_succ_of_lt (Nat.lt_succ_of_lt (h _ (.tail _ (.tail _ (.tail _ (.tail _ (.head _))))))))
theorem av5 {p0 p1 p2 p3 p4 : Addr × Obj} {x y : Addr} {o : Obj} {r : List (Addr × Obj)} (h : ∀ q ∈ p0 :: p1 :: p2 :: p3 :: p4 :: (x, o) :: r, q.1 < y) : @Ne Nat x (y + 1) := Nat.ne_of_lt (Nat.lt_succ_of_lt (h _ (.tail _ (.tail _ (.tail _ (.tail _ (.tail _ (.head _))))))))
theorem avs5 {p0 p1 p2 p3 p4 : Addr × Obj} {x y : Addr} {o : Obj} {r : List (Addr × Obj)} (h : ∀ q ∈ p0 :: p1 :: p2 :: p3 :: p4 :: (x, o) :: r, q.1 < y) : @Ne Nat (y + 1) x := Nat.ne_of_gt (Nat.lt_succ_of_lt (h _ (.tail _ (.tail _ (.tail _ (.tail _ (.tail _ (.head _))))))))
theorem aw5 {p0 p1 p2 p3 p4 : Addr × Obj} {x y : Addr} {o : Obj} {r : List (Addr × Obj)} (h : ∀ q ∈ p0 :: p1 :: p2 :: p3 :: p4 :: (x, o) :: r, q.1 < y) : @Ne Nat x (y + 1 + 1) := Nat.ne_of_lt (Nat.lt_succ_of_lt (Nat.lt_succ_of_lt (h _ (.tail _ (.tail _ (.tail _ (.tail _ (.tail _ (.head _)))))))))
theorem aws5 {p0 p1 p2 p3 p4 : Addr × Obj} {x y : Addr} {o : Obj} {r : List (Addr × Obj)} (h : ∀ q ∈ p0 :: p1 :: p2 :: p3 :: p4 :: (x, o) :: r, q.1 < y) : @Ne Nat (y + 1 + 1) x := Nat.ne_of_gt (Nat.lt_succ_of_lt (Nat.lt_succ_of_lt (h _ (.tail _ (.tail _ (.tail _ (.tail _ (.tail _ (.head _)))))))))
noncomputable def Hold (p : Prop) : Prop := p
theorem hold {p : Prop} (h : Hold p) : p := h
theorem cj0 {p q : Prop} (h : p ∧ q) : p := h.1
theorem cj1 {a0 p q : Prop} (h : a0 ∧ p ∧ q) : p := h.2.1
theorem cj2 {a0 a1 p q : Prop} (h : a0 ∧ a1 ∧ p ∧ q) : p := h.2.2.1
theorem cj3 {a0 a1 a2 p q : Prop} (h : a0 ∧ a1 ∧ a2 ∧ p ∧ q) : p := h.2.2.2.1
theorem cj4 {a0 a1 a2 a3 p q : Prop} (h : a0 ∧ a1 ∧ a2 ∧ a3 ∧ p ∧ q) : p := h.2.2.2.2.1
theorem cj5 {a0 a1 a2 a3 a4 p q : Prop} (h : a0 ∧ a1 ∧ a2 ∧ a3 ∧ a4 ∧ p ∧ q) : p := h.2.2.2.2.2.1
theorem cj6 {a0 a1 a2 a3 a4 a5 p q : Prop} (h : a0 ∧ a1 ∧ a2 ∧ a3 ∧ a4 ∧ a5 ∧ p ∧ q) : p := h.2.2.2.2.2.2.1
theorem cj7 {a0 a1 a2 a3 a4 a5 a6 p q : Prop} (h : a0 ∧ a1 ∧ a2 ∧ a3 ∧ a4 ∧ a5 ∧ a6 ∧ p ∧ q) : p := h.2.2.2.2.2.2.2.1
theorem cj8 {a0 a1 a2 a3 a4 a5 a6 a7 p q : Prop} (h : a0 ∧ a1 ∧ a2 ∧ a3 ∧ a4 ∧ a5 ∧ a6 ∧ a7 ∧ p ∧ q) : p := h.2.2.2.2.2.2.2.2.1
theorem cj9 {a0 a1 a2 a3 a4 a5 a6 a7 a8 p q : Prop} (h : a0 ∧ a1 ∧ a2 ∧ a3 ∧ a4 ∧ a5 ∧ a6 ∧ a7 ∧ a8 ∧ p ∧ q) : p := h.2.2.2.2.2.2.2.2.2.1
theorem cj10 {a0 a1 a2 a3 a4 a5 a6 a7 a8 a9 p q : Prop} (h : a0 ∧ a1 ∧ a2 ∧ a3 ∧ a4 ∧ a5 ∧ a6 ∧ a7 ∧ a8 ∧ a9 ∧ p ∧ q) : p := h.2.2.2.2.2.2.2.2.2.2.1
theorem cj11 {a0 a1 a2 a3 a4 a5 a6 a7 a8 a9 a10 p q : Prop} (h : a0 ∧ a1 ∧ a2 ∧ a3 ∧ a4 ∧ a5 ∧ a6 ∧ a7 ∧ a8 ∧ a9 ∧ a10 ∧ p ∧ q) : p := h.2.2.2.2.2.2.2.2.2.2.2.1
theorem cj12 {a0 a1 a2 a3 a4 a5 a6 a7 a8 a9 a10 a11 p q : Prop} (h : a0 ∧ a1 ∧ a2 ∧ a3 ∧ a4 ∧ a5 ∧ a6 ∧ a7 ∧ a8 ∧ a9 ∧ a10 ∧ a11 ∧ p ∧ q) : p := h.2.2.2.2.2.2.2.2.2.2.2.2.1
theorem cj13 {a0 a1 a2 a3 a4 a5 a6 a7 a8 a9 a10 a11 a12 p q : Prop} (h : a0 ∧ a1 ∧ a2 ∧ a3 ∧ a4 ∧ a5 ∧ a6 ∧ a7 ∧ a8 ∧ a9 ∧ a10 ∧ a11 ∧ a12 ∧ p ∧ q) : p := h.2.2.2.2.2.2.2.2.2.2.2.2.2.1
theorem cj14 {a0 a1 a2 a3 a4 a5 a6 a7 a8 a9 a10 a11 a12 a13 p q : Prop} (h : a0 ∧ a1 ∧ a2 ∧ a3 ∧ a4 ∧ a5 ∧ a6 ∧ a7 ∧ a8 ∧ a9 ∧ a10 ∧ a11 ∧ a12 ∧ a13 ∧ p ∧ q) : p := h.2.2.2.2.2.2.2.2.2.2.2.2.2.2.1
theorem cj15 {a0 a1 a2 a3 a4 a5 a6 a7 a8 a9 a10 a11 a12 a13 a14 p q : Prop} (h : a0 ∧ a1 ∧ a2 ∧ a3 ∧ a4 ∧ a5 ∧ a6 ∧ a7 ∧ a8 ∧ a9 ∧ a10 ∧ a11 ∧ a12 ∧ a13 ∧ a14 ∧ p ∧ q) : p := h.2.2.2.2.2.2.2.2.2.2.2.2.2.2.2.1
theorem cj16 {a0 a1 a2 a3 a4 a5 a6 a7 a8 a9 a10 a11 a12 a13 a14 a15 p q : Prop} (h : a0 ∧ a1 ∧ a2 ∧ a3 ∧ a4 ∧ a5 ∧ a6 ∧ a7 ∧ a8 ∧ a9 ∧ a10 ∧ a11 ∧ a12 ∧ a13 ∧ a14 ∧ a15 ∧ p ∧ q) : p := h.2.2.2.2.2.2.2.2.2.2.2.2.2.2.2.2.1
theorem cl1 {a0 p : Prop} (h : a0 ∧ p) : p := h.2
theorem cl2 {a0 a1 p : Prop} (h : a0 ∧ a1 ∧ p) : p := h.2.2
theorem cl3 {a0 a1 a2 p : Prop} (h : a0 ∧ a1 ∧ a2 ∧ p) : p := h.2.2.2
theorem cl4 {a0 a1 a2 a3 p : Prop} (h : a0 ∧ a1 ∧ a2 ∧ a3 ∧ p) : p := h.2.2.2.2
theorem cl5 {a0 a1 a2 a3 a4 p : Prop} (h : a0 ∧ a1 ∧ a2 ∧ a3 ∧ a4 ∧ p) : p := h.2.2.2.2.2
theorem cl6 {a0 a1 a2 a3 a4 a5 p : Prop} (h : a0 ∧ a1 ∧ a2 ∧ a3 ∧ a4 ∧ a5 ∧ p) : p := h.2.2.2.2.2.2
theorem cl7 {a0 a1 a2 a3 a4 a5 a6 p : Prop} (h : a0 ∧ a1 ∧ a2 ∧ a3 ∧ a4 ∧ a5 ∧ a6 ∧ p) : p := h.2.2.2.2.2.2.2
theorem cl8 {a0 a1 a2 a3 a4 a5 a6 a7 p : Prop} (h : a0 ∧ a1 ∧ a2 ∧ a3 ∧ a4 ∧ a5 ∧ a6 ∧ a7 ∧ p) : p := h.2.2.2.2.2.2.2.2
theorem cl9 {a0 a1 a2 a3 a4 a5 a6 a7 a8 p : Prop} (h : a0 ∧ a1 ∧ a2 ∧ a3 ∧ a4 ∧ a5 ∧ a6 ∧ a7 ∧ a8 ∧ p) : p := h.2.2.2.2.2.2.2.2.2
theorem cl10 {a0 a1 a2 a3 a4 a5 a6 a7 a8 a9 p : Prop} (h : a0 ∧ a1 ∧ a2 ∧ a3 ∧ a4 ∧ a5 ∧ a6 ∧ a7 ∧ a8 ∧ a9 ∧ p) : p := h.2.2.2.2.2.2.2.2.2.2
theorem cl11 {a0 a1 a2 a3 a4 a5 a6 a7 a8 a9 a10 p : Prop} (h : a0 ∧ a1 ∧ a2 ∧ a3 ∧ a4 ∧ a5 ∧ a6 ∧ a7 ∧ a8 ∧ a9 ∧ a10 ∧ p) : p := h.2.2.2.2.2.2.2.2.2.2.2
theorem cl12 {a0 a1 a2 a3 a4 a5 a6 a7 a8 a9 a10 a11 p : Prop} (h : a0 ∧ a1 ∧ a2 ∧ a3 ∧ a4 ∧ a5 ∧ a6 ∧ a7 ∧ a8 ∧ a9 ∧ a10 ∧ a11 ∧ p) : p := h.2.2.2.2.2.2.2.2.2.2.2.2
theorem cl13 {a0 a1 a2 a3 a4 a5 a6 a7 a8 a9 a10 a11 a12 p : Prop} (h : a0 ∧ a1 ∧ a2 ∧ a3 ∧ a4 ∧ a5 ∧ a6 ∧ a7 ∧ a8 ∧ a9 ∧ a10 ∧ a11 ∧ a12 ∧ p) : p := h.2.2.2.2.2.2.2.2.2.2.2.2.2
theorem cl14 {a0 a1 a2 a3 a4 a5 a6 a7 a8 a9 a10 a11 a12 a13 p : Prop} (h : a0 ∧ a1 ∧ a2 ∧ a3 ∧ a4 ∧ a5 ∧ a6 ∧ a7 ∧ a8 ∧ a9 ∧ a10 ∧ a11 ∧ a12 ∧ a13 ∧ p) : p := h.2.2.2.2.2.2.2.2.2.2.2.2.2.2
theorem cl15 {a0 a1 a2 a3 a4 a5 a6 a7 a8 a9 a10 a11 a12 a13 a14 p : Prop} (h : a0 ∧ a1 ∧ a2 ∧ a3 ∧ a4 ∧ a5 ∧ a6 ∧ a7 ∧ a8 ∧ a9 ∧ a10 ∧ a11 ∧ a12 ∧ a13 ∧ a14 ∧ p) : p := h.2.2.2.2.2.2.2.2.2.2.2.2.2.2.2
theorem cl16 {a0 a1 a2 a3 a4 a5 a6 a7 a8 a9 a10 a11 a12 a13 a14 a15 p : Prop} (h : a0 ∧ a1 ∧ a2 ∧ a3 ∧ a4 ∧ a5 ∧ a6 ∧ a7 ∧ a8 ∧ a9 ∧ a10 ∧ a11 ∧ a12 ∧ a13 ∧ a14 ∧ a15 ∧ p) : p := h.2.2.2.2.2.2.2.2.2.2.2.2.2.2.2.2
theorem ct0t0x {p b c q : Prop} (h : (p ∧ b ∧ c) ∧ q) : p := h.1.1
theorem ct0t1x {p b c q : Prop} (h : (b ∧ p ∧ c) ∧ q) : p := h.1.2.1
theorem ct0t2x {p b c q : Prop} (h : (b ∧ c ∧ p) ∧ q) : p := h.1.2.2
theorem ct1t0x {a0 p b c q : Prop} (h : a0 ∧ (p ∧ b ∧ c) ∧ q) : p := h.2.1.1
theorem ct1t1x {a0 p b c q : Prop} (h : a0 ∧ (b ∧ p ∧ c) ∧ q) : p := h.2.1.2.1
theorem ct1t2x {a0 p b c q : Prop} (h : a0 ∧ (b ∧ c ∧ p) ∧ q) : p := h.2.1.2.2
theorem ct2t0x {a0 a1 p b c q : Prop} (h : a0 ∧ a1 ∧ (p ∧ b ∧ c) ∧ q) : p := h.2.2.1.1
theorem ct2t1x {a0 a1 p b c q : Prop} (h : a0 ∧ a1 ∧ (b ∧ p ∧ c) ∧ q) : p := h.2.2.1.2.1
theorem ct2t2x {a0 a1 p b c q : Prop} (h : a0 ∧ a1 ∧ (b ∧ c ∧ p) ∧ q) : p := h.2.2.1.2.2
theorem ct3t0x {a0 a1 a2 p b c q : Prop} (h : a0 ∧ a1 ∧ a2 ∧ (p ∧ b ∧ c) ∧ q) : p := h.2.2.2.1.1
theorem ct3t1x {a0 a1 a2 p b c q : Prop} (h : a0 ∧ a1 ∧ a2 ∧ (b ∧ p ∧ c) ∧ q) : p := h.2.2.2.1.2.1
theorem ct3t2x {a0 a1 a2 p b c q : Prop} (h : a0 ∧ a1 ∧ a2 ∧ (b ∧ c ∧ p) ∧ q) : p := h.2.2.2.1.2.2
theorem ct4t0x {a0 a1 a2 a3 p b c q : Prop} (h : a0 ∧ a1 ∧ a2 ∧ a3 ∧ (p ∧ b ∧ c) ∧ q) : p := h.2.2.2.2.1.1
theorem ct4t1x {a0 a1 a2 a3 p b c q : Prop} (h : a0 ∧ a1 ∧ a2 ∧ a3 ∧ (b ∧ p ∧ c) ∧ q) : p := h.2.2.2.2.1.2.1
theorem ct4t2x {a0 a1 a2 a3 p b c q : Prop} (h : a0 ∧ a1 ∧ a2 ∧ a3 ∧ (b ∧ c ∧ p) ∧ q) : p := h.2.2.2.2.1.2.2
local macro_rules | `(tactic| walk_at $s:str) => `(tactic| k_extra $s)
local macro_rules | `(tactic| k_lt $h:ident) => `(tactic| first | k_extra "keeplt" | (replace $h := allLt_of $h; simp only [AllLt, and_true] at $h:ident))
local macro_rules | `(tactic| k_room) => `(tactic| ktr_room)
local macro_rules | `(tactic| k_units) => `(tactic| ktr_units)
local macro_rules | `(tactic| k_mem) => `(tactic| k_extra "mem")
local macro_rules | `(tactic| k_all) => `(tactic| k_extra "all")
local macro_rules | `(tactic| k_data) => `(tactic| k_extra "cj")
local macro_rules | `(tactic| k_ne) => `(tactic| k_extra "ne")
local macro_rules | `(tactic| ktr_room) => `(tactic| k_extra "room")
local macro_rules | `(tactic| ktr_units) => `(tactic| k_extra "units")
theorem regs : True := by
  k_with "memR" => (first | with_reducible assumption | exact List.Mem.head _ | (refine' List.Mem.tail _ ?_; k_extra "memR"))
  k_with "memD" => (first | exact List.Mem.head _ | assumption | (refine' List.Mem.tail _ ?_; k_extra "memD"))
  k_with "mem" => (first | k_extra "memR" | k_extra "memD")
  k_with "allR" => (first | with_reducible assumption | exact List.forall_mem_nil _ | (refine' List.forall_mem_cons.mpr ⟨?a, ?b⟩; (case a => first | with_reducible assumption | k_ne); (case b => k_extra "allR")))
  k_with "all" => (first | with_reducible assumption | exact List.forall_mem_nil _ | with_reducible (first | exact aa0 (by assumption) | exact aa1 (by assumption) | exact aa2 (by assumption) | exact aa3 (by assumption) | exact aa4 (by assumption) | exact aa5 (by assumption) | exact aa6 (by assumption) | exact aa7 (by assumption) | exact ab0 (by assumption) (by assumption) | exact ab1 (by assumption) (by assumption)) | k_extra "allR" | assumption)
  k_with "cj" => (with_reducible (first | assumption | exact cj0 (by assumption) | exact cj1 (by assumption) | exact cj2 (by assumption) | exact cj3 (by assumption) | exact cj4 (by assumption) | exact cj5 (by assumption) | exact cj6 (by assumption) | exact cj7 (by assumption) | exact cj8 (by assumption) | exact cj9 (by assumption) | exact cj10 (by assumption) | exact cj11 (by assumption) | exact cj12 (by assumption) | exact cj13 (by assumption) | exact cj14 (by assumption) | exact cj15 (by assumption) | exact cj16 (by assumption) | exact cl1 (by assumption) | exact cl2 (by assumption) | exact cl3 (by assumption) | exact cl4 (by assumption) | exact cl5 (by assumption) | exact cl6 (by assumption) | exact cl7 (by assumption) | exact cl8 (by assumption) | exact cl9 (by assumption) | exact cl10 (by assumption) | exact cl11 (by assumption) | exact cl12 (by assumption) | exact cl13 (by assumption) | exact cl14 (by assumption) | exact cl15 (by assumption) | exact cl16 (by assumption) | exact ct0t0x (by assumption) | exact ct0t1x (by assumption) | exact ct0t2x (by assumption) | exact ct1t0x (by assumption) | exact ct1t1x (by assumption) | exact ct1t2x (by assumption) | exact ct2t0x (by assumption) | exact ct2t1x (by assumption) | exact ct2t2x (by assumption) | exact ct3t0x (by assumption) | exact ct3t1x (by assumption) | exact ct3t2x (by assumption) | exact ct4t0x (by assumption) | exact ct4t1x (by assumption) | exact ct4t2x (by assumption)))
  k_with "ne" => ((refine neN ?_; (try dsimp only); first | with_reducible (first | assumption | exact ngt (by assumption) | exact nlt (by assumption) | exact Ne.symm (by assumption)) | with_reducible (first | exact al0 (by assumption) | exact ar0 (by assumption) | exact al1 (by assumption) | exact ar1 (by assumption) | exact al2 (by assumption) | exact ar2 (by assumption) | exact al3 (by assumption) | exact ar3 (by assumption) | exact al4 (by assumption) | exact ar4 (by assumption) | exact al5 (by assumption) | exact ar5 (by assumption) | exact al6 (by assumption) | exact ar6 (by assumption) | exact al7 (by assumption) | exact ar7 (by assumption) | exact al8 (by assumption) | exact ar8 (by assumption) | exact al9 (by assumption) | exact ar9 (by assumption) | exact al10 (by assumption) | exact ar10 (by assumption) | exact al11 (by assumption) | exact ar11 (by assumption) | exact al12 (by assumption) | exact ar12 (by assumption) | exact al13 (by assumption) | exact ar13 (by assumption) | exact al14 (by assumption) | exact ar14 (by assumption) | exact al15 (by assumption) | exact ar15 (by assumption)) | with_reducible (first | exact at0 (by assumption) (by assumption) | exact au0 (by assumption) (by assumption) | exact at1 (by assumption) (by assumption) | exact au1 (by assumption) (by assumption) | exact at2 (by assumption) (by assumption) | exact au2 (by assumption) (by assumption) | exact at3 (by assumption) (by assumption) | exact au3 (by assumption) (by assumption) | exact at4 (by assumption) (by assumption) | exact au4 (by assumption) (by assumption) | exact at5 (by assumption) (by assumption) | exact au5 (by assumption) (by assumption) | exact at6 (by assumption) (by assumption) | exact au6 (by assumption) (by assumption) | exact at7 (by assumption) (by assumption) | exact au7 (by assumption) (by assumption)) | with_reducible (first | exact av0 (by assumption) | exact avs0 (by assumption) | exact av1 (by assumption) | exact avs1 (by assumption) | exact av2 (by assumption) | exact avs2 (by assumption) | exact av3 (by assumption) | exact avs3 (by assumption) | exact av4 (by assumption) | exact avs4 (by assumption) | exact av5 (by assumption) | exact avs5 (by assumption) | exact aw0 (by assumption) | exact aws0 (by assumption) | exact aw1 (by assumption) | exact aws1 (by assumption) | exact aw2 (by assumption) | exact aws2 (by assumption) | exact aw3 (by assumption) | exact aws3 (by assumption) | exact aw4 (by assumption) | exact aws4 (by assumption) | exact aw5 (by assumption) | exact aws5 (by assumption)) | (refine nlt ?_; k_data) | (refine ngt ?_; k_data) | k_data | (refine Ne.symm ?_; k_data) | (refine ngt1 ?_; k_data) | (refine ngt2 ?_; k_data) | (refine nlt1 ?_; k_data) | (refine nlt2 ?_; k_data) | omega))
  k_with "room" => (first | exact room_le2 (by assumption) (by exact rfl) | exact room_lt2 (by assumption) (by exact rfl) | exact room_le1 (by assumption) (by exact rfl) | exact room_lt1 (by assumption) (by exact rfl) | exact room_le3 (by assumption) (by exact rfl) | exact room_lt3 (by assumption) (by exact rfl) | exact room_ltF (by assumption) (by exact rfl) (by exact rfl))
  k_with "units" => (first | exact unit_le2 (by assumption) (by exact rfl) | exact unit_lt2 (by assumption) (by exact rfl) | exact unit_le1 (by assumption) (by exact rfl) | exact unit_lt1 (by assumption) (by exact rfl) | exact unit_le3 (by assumption) (by exact rfl) | exact unit_lt3 (by assumption) (by exact rfl) | exact unit_ltE (by assumption) (by exact rfl) (by exact rfl) | exact unit_ltF (by assumption) (by exact rfl) (by exact rfl))
  k_with "callWith ref nil nil" => (k_here; k_dflt (refine' callWith_K ?k1 ?k2 ?_; (case k1 => k_asm); (case k2 => k_is); k_whole))
  k_with "eval Name" => (k_here; k_dflt (refine' nameX_L ?F ?v ?_ ?a ?b; (case b => exact rfl); (case F => k_asm); (case a => rfl); (case v => rfl); k_whole))
  k_with "eval Name" => (k_here; k_dflt (refine' nameX_K ?F ?X ?T ?e ?_ ?a ?b; (case b => exact rfl); (case F => k_asm); (case X => k_asm); (case T => k_asm); (case a => rfl); (case e => k_is); k_whole))
  k_with "eval Name" => (k_here; k_dflt (refine' nameX_B ?F ?X ?T ?e ?v ?n ?_ ?a ?b; (case b => exact rfl); (case F => k_asm); (case X => k_asm); (case T => k_asm); (case a => rfl); (case e => k_is); (case v => boot_fast); (case n => decide); k_whole))
  k_with "subscriptTail Name Constant ref int" => (k_here; (with_reducible show wpAny _ _ (subscriptTail _ _ (Value.ref _) (Value.int _ _)) _ _ _); k_dflt (first | (refine' item_tupleT ?t ?a ?b ?c ?d ?_; (case t => first | with_reducible assumption | exact News.isTup (by k_asm) (by k_mem)); (case a => decide); (case b => decide); (case c => rfl); (case d => rfl); k_whole) | (refine' topTup_K ?F ?X ?l ?a ?b ?c ?d ?_; (case F => k_asm); (case X => k_asm); (case l => k_is); (case a => decide); (case b => decide); (case c => rfl); (case d => rfl)) | (refine' topList_K ?F ?X ?l ?a ?b ?d ?_; (case F => k_asm); (case X => k_asm); (case l => k_is); (case a => decide); (case b => decide); (case d => rfl); k_whole)))
  k_with "subscriptTail Name Constant ref int" => (k_here; (with_reducible show wpAny _ _ (subscriptTail _ _ (Value.ref _) (Value.int _ _)) _ _ _); (with_unfolding_all refine' item_litK ?k1 ?k2 ?k3 ?k4 ?_ ?k6; (case k1 => is_list); (case k2 => decide); (case k3 => decide); (case k4 => rfl); (case k6 => with_unfolding_all rfl); k_whole))
  k_with "call builtin:list.pop" => (k_here; k_dflt ((with_reducible show wpAny _ _ (call (Value.builtin _) [Value.ref _]) _ _ _); refine' kl_pop ?F ?N ?e ?U ?z ?_; (case F => k_asm); (case N => k_asm); (case U => k_upd); (case e => rfl); (case z => kl_room)); kl_rest)
  k_with "lt" => with_reducible (first | assumption | exact ll0 (by assumption) | exact ll1 (by assumption) | exact ll2 (by assumption) | exact ll3 (by assumption) | exact ll4 (by assumption) | exact ll5 (by assumption) | exact ll6 (by assumption) | exact ll7 (by assumption) | exact ll8 (by assumption) | exact ll9 (by assumption) | exact ll10 (by assumption) | exact ll11 (by assumption) | exact ll12 (by assumption) | exact ll13 (by assumption) | exact la0 (by assumption) | exact la1 (by assumption) | exact la2 (by assumption) | exact la3 (by assumption) | exact la4 (by assumption) | exact la5 (by assumption) | exact la6 (by assumption) | exact la7 (by assumption))
  k_with "keeplt" => skip
  k_with "ite" => with_reducible (first | refine ite_tt ?_ | refine ite_ff ?_)
  trivial

section -- M2
open PySem PySem.W PyProof.Rows PySem.Calls PySem.W.X
set_option maxHeartbeats 0
noncomputable def TwoM (_ : Params → Frag) (_ : OpenLaw) : Prop := True
theorem fill_m0 : TwoM Mine.frag.heap_1 PySem.Challenge.rw_xm0674_01 := by
  k_fill
  trivial
noncomputable def ob0 (P : Params) : Obj := { cls := Value.type "dict", data := Data.dict #[{ hash := PyData.keyHash P (⟨#[95, 95, 110, 97, 109, 101, 95, 95]⟩), key := Value.str (⟨#[95, 95, 110, 97, 109, 101, 95, 95]⟩) 1, val := Value.str (⟨#[98, 117, 105, 108, 116, 105, 110, 115]⟩) 160 }, { hash := PyData.keyHash P (⟨#[95, 95, 100, 111, 99, 95, 95]⟩), key := Value.str (⟨#[95, 95, 100, 111, 99, 95, 95]⟩) 2, val := Value.builtin "builtins.__doc__:str#opaque" }, { hash := PyData.keyHash P (⟨#[95, 95, 112, 97, 99, 107, 97, 103, 101, 95, 95]⟩), key := Value.str (⟨#[95, 95, 112, 97, 99, 107, 97, 103, 101, 95, 95]⟩) 3, val := Value.builtin "builtins.__package__:str#opaque" }, { hash := PyData.keyHash P (⟨#[95, 95, 108, 111, 97, 100, 101, 114, 95, 95]⟩), key := Value.str (⟨#[95, 95, 108, 111, 97, 100, 101, 114, 95, 95]⟩) 4, val := Value.builtin "builtins.__loader__:shared#opaque" }, { hash := PyData.keyHash P (⟨#[95, 95, 115, 112, 101, 99, 95, 95]⟩), key := Value.str (⟨#[95, 95, 115, 112, 101, 99, 95, 95]⟩) 5, val := Value.builtin "builtins.__spec__#opaque" }, { hash := PyData.keyHash P (⟨#[95, 95, 98, 117, 105, 108, 100, 95, 99, 108, 97, 115, 115, 95, 95]⟩), key := Value.str (⟨#[95, 95, 98, 117, 105, 108, 100, 95, 99, 108, 97, 115, 115, 95, 95]⟩) 6, val := Value.builtin "__build_class__" }, { hash := PyData.keyHash P (⟨#[95, 95, 105, 109, 112, 111, 114, 116, 95, 95]⟩), key := Value.str (⟨#[95, 95, 105, 109, 112, 111, 114, 116, 95, 95]⟩) 7, val := Value.builtin "__import__" }, { hash := PyData.keyHash P (⟨#[97, 98, 115]⟩), key := Value.str (⟨#[97, 98, 115]⟩) 8, val := Value.builtin "abs" }, { hash := PyData.keyHash P (⟨#[97, 108, 108]⟩), key := Value.str (⟨#[97, 108, 108]⟩) 9, val := Value.builtin "all" }, { hash := PyData.keyHash P (⟨#[97, 110, 121]⟩), key := Value.str (⟨#[97, 110, 121]⟩) 10, val := Value.builtin "any" }, { hash := PyData.keyHash P (⟨#[97, 115, 99, 105, 105]⟩), key := Value.str (⟨#[97, 115, 99, 105, 105]⟩) 11, val := Value.builtin "ascii" }, { hash := PyData.keyHash P (⟨#[98, 105, 110]⟩), key := Value.str (⟨#[98, 105, 110]⟩) 12, val := Value.builtin "bin" }, { hash := PyData.keyHash P (⟨#[98, 114, 101, 97, 107, 112, 111, 105, 110, 116]⟩), key := Value.str (⟨#[98, 114, 101, 97, 107, 112, 111, 105, 110, 116]⟩) 13, val := Value.builtin "breakpoint" }, { hash := PyData.keyHash P (⟨#[99, 97, 108, 108, 97, 98, 108, 101]⟩), key := Value.str (⟨#[99, 97, 108, 108, 97, 98, 108, 101]⟩) 14, val := Value.builtin "callable" }, { hash := PyData.keyHash P (⟨#[99, 104, 114]⟩), key := Value.str (⟨#[99, 104, 114]⟩) 15, val := Value.builtin "chr" }, { hash := PyData.keyHash P (⟨#[99, 111, 109, 112, 105, 108, 101]⟩), key := Value.str (⟨#[99, 111, 109, 112, 105, 108, 101]⟩) 16, val := Value.builtin "compile" }, { hash := PyData.keyHash P (⟨#[100, 101, 108, 97, 116, 116, 114]⟩), key := Value.str (⟨#[100, 101, 108, 97, 116, 116, 114]⟩) 17, val := Value.builtin "delattr" }, { hash := PyData.keyHash P (⟨#[100, 105, 114]⟩), key := Value.str (⟨#[100, 105, 114]⟩) 18, val := Value.builtin "dir" }, { hash := PyData.keyHash P (⟨#[100, 105, 118, 109, 111, 100]⟩), key := Value.str (⟨#[100, 105, 118, 109, 111, 100]⟩) 19, val := Value.builtin "divmod" }, { hash := PyData.keyHash P (⟨#[101, 118, 97, 108]⟩), key := Value.str (⟨#[101, 118, 97, 108]⟩) 20, val := Value.builtin "eval" }, { hash := PyData.keyHash P (⟨#[101, 120, 101, 99]⟩), key := Value.str (⟨#[101, 120, 101, 99]⟩) 21, val := Value.builtin "exec" }, { hash := PyData.keyHash P (⟨#[102, 111, 114, 109, 97, 116]⟩), key := Value.str (⟨#[102, 111, 114, 109, 97, 116]⟩) 22, val := Value.builtin "format" }, { hash := PyData.keyHash P (⟨#[103, 101, 116, 97, 116, 116, 114]⟩), key := Value.str (⟨#[103, 101, 116, 97, 116, 116, 114]⟩) 23, val := Value.builtin "getattr" }, { hash := PyData.keyHash P (⟨#[103, 108, 111, 98, 97, 108, 115]⟩), key := Value.str (⟨#[103, 108, 111, 98, 97, 108, 115]⟩) 24, val := Value.builtin "globals" }, { hash := PyData.keyHash P (⟨#[104, 97, 115, 97, 116, 116, 114]⟩), key := Value.str (⟨#[104, 97, 115, 97, 116, 116, 114]⟩) 25, val := Value.builtin "hasattr" }, { hash := PyData.keyHash P (⟨#[104, 97, 115, 104]⟩), key := Value.str (⟨#[104, 97, 115, 104]⟩) 26, val := Value.builtin "hash" }, { hash := PyData.keyHash P (⟨#[104, 101, 120]⟩), key := Value.str (⟨#[104, 101, 120]⟩) 27, val := Value.builtin "hex" }, { hash := PyData.keyHash P (⟨#[105, 100]⟩), key := Value.str (⟨#[105, 100]⟩) 28, val := Value.builtin "id" }, { hash := PyData.keyHash P (⟨#[105, 110, 112, 117, 116]⟩), key := Value.str (⟨#[105, 110, 112, 117, 116]⟩) 29, val := Value.builtin "input" }, { hash := PyData.keyHash P (⟨#[105, 115, 105, 110, 115, 116, 97, 110, 99, 101]⟩), key := Value.str (⟨#[105, 115, 105, 110, 115, 116, 97, 110, 99, 101]⟩) 30, val := Value.builtin "isinstance" }, { hash := PyData.keyHash P (⟨#[105, 115, 115, 117, 98, 99, 108, 97, 115, 115]⟩), key := Value.str (⟨#[105, 115, 115, 117, 98, 99, 108, 97, 115, 115]⟩) 31, val := Value.builtin "issubclass" }, { hash := PyData.keyHash P (⟨#[105, 116, 101, 114]⟩), key := Value.str (⟨#[105, 116, 101, 114]⟩) 32, val := Value.builtin "iter" }, { hash := PyData.keyHash P (⟨#[97, 105, 116, 101, 114]⟩), key := Value.str (⟨#[97, 105, 116, 101, 114]⟩) 33, val := Value.builtin "aiter" }, { hash := PyData.keyHash P (⟨#[108, 101, 110]⟩), key := Value.str (⟨#[108, 101, 110]⟩) 34, val := Value.builtin "len" }, { hash := PyData.keyHash P (⟨#[108, 111, 99, 97, 108, 115]⟩), key := Value.str (⟨#[108, 111, 99, 97, 108, 115]⟩) 35, val := Value.builtin "locals" }, { hash := PyData.keyHash P (⟨#[109, 97, 120]⟩), key := Value.str (⟨#[109, 97, 120]⟩) 36, val := Value.builtin "max" }, { hash := PyData.keyHash P (⟨#[109, 105, 110]⟩), key := Value.str (⟨#[109, 105, 110]⟩) 37, val := Value.builtin "min" }, { hash := PyData.keyHash P (⟨#[110, 101, 120, 116]⟩), key := Value.str (⟨#[110, 101, 120, 116]⟩) 38, val := Value.builtin "next" }, { hash := PyData.keyHash P (⟨#[97, 110, 101, 120, 116]⟩), key := Value.str (⟨#[97, 110, 101, 120, 116]⟩) 39, val := Value.builtin "anext" }, { hash := PyData.keyHash P (⟨#[111, 99, 116]⟩), key := Value.str (⟨#[111, 99, 116]⟩) 40, val := Value.builtin "oct" }, { hash := PyData.keyHash P (⟨#[111, 114, 100]⟩), key := Value.str (⟨#[111, 114, 100]⟩) 41, val := Value.builtin "ord" }, { hash := PyData.keyHash P (⟨#[112, 111, 119]⟩), key := Value.str (⟨#[112, 111, 119]⟩) 42, val := Value.builtin "pow" }, { hash := PyData.keyHash P (⟨#[112, 114, 105, 110, 116]⟩), key := Value.str (⟨#[112, 114, 105, 110, 116]⟩) 43, val := Value.builtin "print" }, { hash := PyData.keyHash P (⟨#[114, 101, 112, 114]⟩), key := Value.str (⟨#[114, 101, 112, 114]⟩) 44, val := Value.builtin "repr" }, { hash := PyData.keyHash P (⟨#[114, 111, 117, 110, 100]⟩), key := Value.str (⟨#[114, 111, 117, 110, 100]⟩) 45, val := Value.builtin "round" }, { hash := PyData.keyHash P (⟨#[115, 101, 116, 97, 116, 116, 114]⟩), key := Value.str (⟨#[115, 101, 116, 97, 116, 116, 114]⟩) 46, val := Value.builtin "setattr" }, { hash := PyData.keyHash P (⟨#[115, 111, 114, 116, 101, 100]⟩), key := Value.str (⟨#[115, 111, 114, 116, 101, 100]⟩) 47, val := Value.builtin "sorted" }, { hash := PyData.keyHash P (⟨#[115, 117, 109]⟩), key := Value.str (⟨#[115, 117, 109]⟩) 48, val := Value.builtin "sum" }, { hash := PyData.keyHash P (⟨#[118, 97, 114, 115]⟩), key := Value.str (⟨#[118, 97, 114, 115]⟩) 49, val := Value.builtin "vars" }, { hash := PyData.keyHash P (⟨#[78, 111, 110, 101]⟩), key := Value.str (⟨#[78, 111, 110, 101]⟩) 50, val := Value.none }, { hash := PyData.keyHash P (⟨#[69, 108, 108, 105, 112, 115, 105, 115]⟩), key := Value.str (⟨#[69, 108, 108, 105, 112, 115, 105, 115]⟩) 51, val := Value.ellipsis }, { hash := PyData.keyHash P (⟨#[78, 111, 116, 73, 109, 112, 108, 101, 109, 101, 110, 116, 101, 100]⟩), key := Value.str (⟨#[78, 111, 116, 73, 109, 112, 108, 101, 109, 101, 110, 116, 101, 100]⟩) 52, val := Value.notImplemented }, { hash := PyData.keyHash P (⟨#[70, 97, 108, 115, 101]⟩), key := Value.str (⟨#[70, 97, 108, 115, 101]⟩) 53, val := Value.bool false }, { hash := PyData.keyHash P (⟨#[84, 114, 117, 101]⟩), key := Value.str (⟨#[84, 114, 117, 101]⟩) 54, val := Value.bool true }, { hash := PyData.keyHash P (⟨#[98, 111, 111, 108]⟩), key := Value.str (⟨#[98, 111, 111, 108]⟩) 55, val := Value.type "bool" }, { hash := PyData.keyHash P (⟨#[109, 101, 109, 111, 114, 121, 118, 105, 101, 119]⟩), key := Value.str (⟨#[109, 101, 109, 111, 114, 121, 118, 105, 101, 119]⟩) 56, val := Value.type "memoryview" }, { hash := PyData.keyHash P (⟨#[98, 121, 116, 101, 97, 114, 114, 97, 121]⟩), key := Value.str (⟨#[98, 121, 116, 101, 97, 114, 114, 97, 121]⟩) 57, val := Value.type "bytearray" }, { hash := PyData.keyHash P (⟨#[98, 121, 116, 101, 115]⟩), key := Value.str (⟨#[98, 121, 116, 101, 115]⟩) 58, val := Value.type "bytes" }, { hash := PyData.keyHash P (⟨#[99, 108, 97, 115, 115, 109, 101, 116, 104, 111, 100]⟩), key := Value.str (⟨#[99, 108, 97, 115, 115, 109, 101, 116, 104, 111, 100]⟩) 59, val := Value.type "classmethod" }, { hash := PyData.keyHash P (⟨#[99, 111, 109, 112, 108, 101, 120]⟩), key := Value.str (⟨#[99, 111, 109, 112, 108, 101, 120]⟩) 60, val := Value.type "complex" }, { hash := PyData.keyHash P (⟨#[100, 105, 99, 116]⟩), key := Value.str (⟨#[100, 105, 99, 116]⟩) 61, val := Value.type "dict" }, { hash := PyData.keyHash P (⟨#[101, 110, 117, 109, 101, 114, 97, 116, 101]⟩), key := Value.str (⟨#[101, 110, 117, 109, 101, 114, 97, 116, 101]⟩) 62, val := Value.type "enumerate" }, { hash := PyData.keyHash P (⟨#[102, 105, 108, 116, 101, 114]⟩), key := Value.str (⟨#[102, 105, 108, 116, 101, 114]⟩) 63, val := Value.type "filter" }, { hash := PyData.keyHash P (⟨#[102, 108, 111, 97, 116]⟩), key := Value.str (⟨#[102, 108, 111, 97, 116]⟩) 64, val := Value.type "float" }, { hash := PyData.keyHash P (⟨#[102, 114, 111, 122, 101, 110, 115, 101, 116]⟩), key := Value.str (⟨#[102, 114, 111, 122, 101, 110, 115, 101, 116]⟩) 65, val := Value.type "frozenset" }, { hash := PyData.keyHash P (⟨#[112, 114, 111, 112, 101, 114, 116, 121]⟩), key := Value.str (⟨#[112, 114, 111, 112, 101, 114, 116, 121]⟩) 66, val := Value.type "property" }, { hash := PyData.keyHash P (⟨#[105, 110, 116]⟩), key := Value.str (⟨#[105, 110, 116]⟩) 67, val := Value.type "int" }, { hash := PyData.keyHash P (⟨#[108, 105, 115, 116]⟩), key := Value.str (⟨#[108, 105, 115, 116]⟩) 68, val := Value.type "list" }, { hash := PyData.keyHash P (⟨#[109, 97, 112]⟩), key := Value.str (⟨#[109, 97, 112]⟩) 69, val := Value.type "map" }, { hash := PyData.keyHash P (⟨#[111, 98, 106, 101, 99, 116]⟩), key := Value.str (⟨#[111, 98, 106, 101, 99, 116]⟩) 70, val := Value.type "object" }, { hash := PyData.keyHash P (⟨#[114, 97, 110, 103, 101]⟩), key := Value.str (⟨#[114, 97, 110, 103, 101]⟩) 71, val := Value.type "range" }, { hash := PyData.keyHash P (⟨#[114, 101, 118, 101, 114, 115, 101, 100]⟩), key := Value.str (⟨#[114, 101, 118, 101, 114, 115, 101, 100]⟩) 72, val := Value.type "reversed" }, { hash := PyData.keyHash P (⟨#[115, 101, 116]⟩), key := Value.str (⟨#[115, 101, 116]⟩) 73, val := Value.type "set" }, { hash := PyData.keyHash P (⟨#[115, 108, 105, 99, 101]⟩), key := Value.str (⟨#[115, 108, 105, 99, 101]⟩) 74, val := Value.type "slice" }, { hash := PyData.keyHash P (⟨#[115, 116, 97, 116, 105, 99, 109, 101, 116, 104, 111, 100]⟩), key := Value.str (⟨#[115, 116, 97, 116, 105, 99, 109, 101, 116, 104, 111, 100]⟩) 75, val := Value.type "staticmethod" }, { hash := PyData.keyHash P (⟨#[115, 116, 114]⟩), key := Value.str (⟨#[115, 116, 114]⟩) 76, val := Value.type "str" }, { hash := PyData.keyHash P (⟨#[115, 117, 112, 101, 114]⟩), key := Value.str (⟨#[115, 117, 112, 101, 114]⟩) 77, val := Value.type "super" }, { hash := PyData.keyHash P (⟨#[116, 117, 112, 108, 101]⟩), key := Value.str (⟨#[116, 117, 112, 108, 101]⟩) 78, val := Value.type "tuple" }, { hash := PyData.keyHash P (⟨#[116, 121, 112, 101]⟩), key := Value.str (⟨#[116, 121, 112, 101]⟩) 79, val := Value.type "type" }, { hash := PyData.keyHash P (⟨#[122, 105, 112]⟩), key := Value.str (⟨#[122, 105, 112]⟩) 80, val := Value.type "zip" }, { hash := PyData.keyHash P (⟨#[95, 95, 100, 101, 98, 117, 103, 95, 95]⟩), key := Value.str (⟨#[95, 95, 100, 101, 98, 117, 103, 95, 95]⟩) 81, val := Value.bool true }, { hash := PyData.keyHash P (⟨#[66, 97, 115, 101, 69, 120, 99, 101, 112, 116, 105, 111, 110]⟩), key := Value.str (⟨#[66, 97, 115, 101, 69, 120, 99, 101, 112, 116, 105, 111, 110]⟩) 82, val := Value.type "BaseException" }, { hash := PyData.keyHash P (⟨#[66, 97, 115, 101, 69, 120, 99, 101, 112, 116, 105, 111, 110, 71, 114, 111, 117, 112]⟩), key := Value.str (⟨#[66, 97, 115, 101, 69, 120, 99, 101, 112, 116, 105, 111, 110, 71, 114, 111, 117, 112]⟩) 83, val := Value.type "BaseExceptionGroup" }, { hash := PyData.keyHash P (⟨#[69, 120, 99, 101, 112, 116, 105, 111, 110]⟩), key := Value.str (⟨#[69, 120, 99, 101, 112, 116, 105, 111, 110]⟩) 84, val := Value.type "Exception" }, { hash := PyData.keyHash P (⟨#[71, 101, 110, 101, 114, 97, 116, 111, 114, 69, 120, 105, 116]⟩), key := Value.str (⟨#[71, 101, 110, 101, 114, 97, 116, 111, 114, 69, 120, 105, 116]⟩) 85, val := Value.type "GeneratorExit" }, { hash := PyData.keyHash P (⟨#[75, 101, 121, 98, 111, 97, 114, 100, 73, 110, 116, 101, 114, 114, 117, 112, 116]⟩), key := Value.str (⟨#[75, 101, 121, 98, 111, 97, 114, 100, 73, 110, 116, 101, 114, 114, 117, 112, 116]⟩) 86, val := Value.type "KeyboardInterrupt" }, { hash := PyData.keyHash P (⟨#[83, 121, 115, 116, 101, 109, 69, 120, 105, 116]⟩), key := Value.str (⟨#[83, 121, 115, 116, 101, 109, 69, 120, 105, 116]⟩) 87, val := Value.type "SystemExit" }, { hash := PyData.keyHash P (⟨#[65, 114, 105, 116, 104, 109, 101, 116, 105, 99, 69, 114, 114, 111, 114]⟩), key := Value.str (⟨#[65, 114, 105, 116, 104, 109, 101, 116, 105, 99, 69, 114, 114, 111, 114]⟩) 88, val := Value.type "ArithmeticError" }, { hash := PyData.keyHash P (⟨#[65, 115, 115, 101, 114, 116, 105, 111, 110, 69, 114, 114, 111, 114]⟩), key := Value.str (⟨#[65, 115, 115, 101, 114, 116, 105, 111, 110, 69, 114, 114, 111, 114]⟩) 89, val := Value.type "AssertionError" }, { hash := PyData.keyHash P (⟨#[65, 116, 116, 114, 105, 98, 117, 116, 101, 69, 114, 114, 111, 114]⟩), key := Value.str (⟨#[65, 116, 116, 114, 105, 98, 117, 116, 101, 69, 114, 114, 111, 114]⟩) 90, val := Value.type "AttributeError" }, { hash := PyData.keyHash P (⟨#[66, 117, 102, 102, 101, 114, 69, 114, 114, 111, 114]⟩), key := Value.str (⟨#[66, 117, 102, 102, 101, 114, 69, 114, 114, 111, 114]⟩) 91, val := Value.type "BufferError" }, { hash := PyData.keyHash P (⟨#[69, 79, 70, 69, 114, 114, 111, 114]⟩), key := Value.str (⟨#[69, 79, 70, 69, 114, 114, 111, 114]⟩) 92, val := Value.type "EOFError" }, { hash := PyData.keyHash P (⟨#[73, 109, 112, 111, 114, 116, 69, 114, 114, 111, 114]⟩), key := Value.str (⟨#[73, 109, 112, 111, 114, 116, 69, 114, 114, 111, 114]⟩) 93, val := Value.type "ImportError" }, { hash := PyData.keyHash P (⟨#[76, 111, 111, 107, 117, 112, 69, 114, 114, 111, 114]⟩), key := Value.str (⟨#[76, 111, 111, 107, 117, 112, 69, 114, 114, 111, 114]⟩) 94, val := Value.type "LookupError" }, { hash := PyData.keyHash P (⟨#[77, 101, 109, 111, 114, 121, 69, 114, 114, 111, 114]⟩), key := Value.str (⟨#[77, 101, 109, 111, 114, 121, 69, 114, 114, 111, 114]⟩) 95, val := Value.type "MemoryError" }, { hash := PyData.keyHash P (⟨#[78, 97, 109, 101, 69, 114, 114, 111, 114]⟩), key := Value.str (⟨#[78, 97, 109, 101, 69, 114, 114, 111, 114]⟩) 96, val := Value.type "NameError" }, { hash := PyData.keyHash P (⟨#[79, 83, 69, 114, 114, 111, 114]⟩), key := Value.str (⟨#[79, 83, 69, 114, 114, 111, 114]⟩) 97, val := Value.type "OSError" }, { hash := PyData.keyHash P (⟨#[82, 101, 102, 101, 114, 101, 110, 99, 101, 69, 114, 114, 111, 114]⟩), key := Value.str (⟨#[82, 101, 102, 101, 114, 101, 110, 99, 101, 69, 114, 114, 111, 114]⟩) 98, val := Value.type "ReferenceError" }, { hash := PyData.keyHash P (⟨#[82, 117, 110, 116, 105, 109, 101, 69, 114, 114, 111, 114]⟩), key := Value.str (⟨#[82, 117, 110, 116, 105, 109, 101, 69, 114, 114, 111, 114]⟩) 99, val := Value.type "RuntimeError" }, { hash := PyData.keyHash P (⟨#[83, 116, 111, 112, 65, 115, 121, 110, 99, 73, 116, 101, 114, 97, 116, 105, 111, 110]⟩), key := Value.str (⟨#[83, 116, 111, 112, 65, 115, 121, 110, 99, 73, 116, 101, 114, 97, 116, 105, 111, 110]⟩) 100, val := Value.type "StopAsyncIteration" }, { hash := PyData.keyHash P (⟨#[83, 116, 111, 112, 73, 116, 101, 114, 97, 116, 105, 111, 110]⟩), key := Value.str (⟨#[83, 116, 111, 112, 73, 116, 101, 114, 97, 116, 105, 111, 110]⟩) 101, val := Value.type "StopIteration" }, { hash := PyData.keyHash P (⟨#[83, 121, 110, 116, 97, 120, 69, 114, 114, 111, 114]⟩), key := Value.str (⟨#[83, 121, 110, 116, 97, 120, 69, 114, 114, 111, 114]⟩) 102, val := Value.type "SyntaxError" }, { hash := PyData.keyHash P (⟨#[83, 121, 115, 116, 101, 109, 69, 114, 114, 111, 114]⟩), key := Value.str (⟨#[83, 121, 115, 116, 101, 109, 69, 114, 114, 111, 114]⟩) 103, val := Value.type "SystemError" }, { hash := PyData.keyHash P (⟨#[84, 121, 112, 101, 69, 114, 114, 111, 114]⟩), key := Value.str (⟨#[84, 121, 112, 101, 69, 114, 114, 111, 114]⟩) 104, val := Value.type "TypeError" }, { hash := PyData.keyHash P (⟨#[86, 97, 108, 117, 101, 69, 114, 114, 111, 114]⟩), key := Value.str (⟨#[86, 97, 108, 117, 101, 69, 114, 114, 111, 114]⟩) 105, val := Value.type "ValueError" }, { hash := PyData.keyHash P (⟨#[87, 97, 114, 110, 105, 110, 103]⟩), key := Value.str (⟨#[87, 97, 114, 110, 105, 110, 103]⟩) 106, val := Value.type "Warning" }, { hash := PyData.keyHash P (⟨#[70, 108, 111, 97, 116, 105, 110, 103, 80, 111, 105, 110, 116, 69, 114, 114, 111, 114]⟩), key := Value.str (⟨#[70, 108, 111, 97, 116, 105, 110, 103, 80, 111, 105, 110, 116, 69, 114, 114, 111, 114]⟩) 107, val := Value.type "FloatingPointError" }, { hash := PyData.keyHash P (⟨#[79, 118, 101, 114, 102, 108, 111, 119, 69, 114, 114, 111, 114]⟩), key := Value.str (⟨#[79, 118, 101, 114, 102, 108, 111, 119, 69, 114, 114, 111, 114]⟩) 108, val := Value.type "OverflowError" }, { hash := PyData.keyHash P (⟨#[90, 101, 114, 111, 68, 105, 118, 105, 115, 105, 111, 110, 69, 114, 114, 111, 114]⟩), key := Value.str (⟨#[90, 101, 114, 111, 68, 105, 118, 105, 115, 105, 111, 110, 69, 114, 114, 111, 114]⟩) 109, val := Value.type "ZeroDivisionError" }, { hash := PyData.keyHash P (⟨#[66, 121, 116, 101, 115, 87, 97, 114, 110, 105, 110, 103]⟩), key := Value.str (⟨#[66, 121, 116, 101, 115, 87, 97, 114, 110, 105, 110, 103]⟩) 110, val := Value.type "BytesWarning" }, { hash := PyData.keyHash P (⟨#[68, 101, 112, 114, 101, 99, 97, 116, 105, 111, 110, 87, 97, 114, 110, 105, 110, 103]⟩), key := Value.str (⟨#[68, 101, 112, 114, 101, 99, 97, 116, 105, 111, 110, 87, 97, 114, 110, 105, 110, 103]⟩) 111, val := Value.type "DeprecationWarning" }, { hash := PyData.keyHash P (⟨#[69, 110, 99, 111, 100, 105, 110, 103, 87, 97, 114, 110, 105, 110, 103]⟩), key := Value.str (⟨#[69, 110, 99, 111, 100, 105, 110, 103, 87, 97, 114, 110, 105, 110, 103]⟩) 112, val := Value.type "EncodingWarning" }, { hash := PyData.keyHash P (⟨#[70, 117, 116, 117, 114, 101, 87, 97, 114, 110, 105, 110, 103]⟩), key := Value.str (⟨#[70, 117, 116, 117, 114, 101, 87, 97, 114, 110, 105, 110, 103]⟩) 113, val := Value.type "FutureWarning" }, { hash := PyData.keyHash P (⟨#[73, 109, 112, 111, 114, 116, 87, 97, 114, 110, 105, 110, 103]⟩), key := Value.str (⟨#[73, 109, 112, 111, 114, 116, 87, 97, 114, 110, 105, 110, 103]⟩) 114, val := Value.type "ImportWarning" }, { hash := PyData.keyHash P (⟨#[80, 101, 110, 100, 105, 110, 103, 68, 101, 112, 114, 101, 99, 97, 116, 105, 111, 110, 87, 97, 114, 110, 105, 110, 103]⟩), key := Value.str (⟨#[80, 101, 110, 100, 105, 110, 103, 68, 101, 112, 114, 101, 99, 97, 116, 105, 111, 110, 87, 97, 114, 110, 105, 110, 103]⟩) 115, val := Value.type "PendingDeprecationWarning" }, { hash := PyData.keyHash P (⟨#[82, 101, 115, 111, 117, 114, 99, 101, 87, 97, 114, 110, 105, 110, 103]⟩), key := Value.str (⟨#[82, 101, 115, 111, 117, 114, 99, 101, 87, 97, 114, 110, 105, 110, 103]⟩) 116, val := Value.type "ResourceWarning" }, { hash := PyData.keyHash P (⟨#[82, 117, 110, 116, 105, 109, 101, 87, 97, 114, 110, 105, 110, 103]⟩), key := Value.str (⟨#[82, 117, 110, 116, 105, 109, 101, 87, 97, 114, 110, 105, 110, 103]⟩) 117, val := Value.type "RuntimeWarning" }, { hash := PyData.keyHash P (⟨#[83, 121, 110, 116, 97, 120, 87, 97, 114, 110, 105, 110, 103]⟩), key := Value.str (⟨#[83, 121, 110, 116, 97, 120, 87, 97, 114, 110, 105, 110, 103]⟩) 118, val := Value.type "SyntaxWarning" }, { hash := PyData.keyHash P (⟨#[85, 110, 105, 99, 111, 100, 101, 87, 97, 114, 110, 105, 110, 103]⟩), key := Value.str (⟨#[85, 110, 105, 99, 111, 100, 101, 87, 97, 114, 110, 105, 110, 103]⟩) 119, val := Value.type "UnicodeWarning" }, { hash := PyData.keyHash P (⟨#[85, 115, 101, 114, 87, 97, 114, 110, 105, 110, 103]⟩), key := Value.str (⟨#[85, 115, 101, 114, 87, 97, 114, 110, 105, 110, 103]⟩) 120, val := Value.type "UserWarning" }, { hash := PyData.keyHash P (⟨#[66, 108, 111, 99, 107, 105, 110, 103, 73, 79, 69, 114, 114, 111, 114]⟩), key := Value.str (⟨#[66, 108, 111, 99, 107, 105, 110, 103, 73, 79, 69, 114, 114, 111, 114]⟩) 121, val := Value.type "BlockingIOError" }, { hash := PyData.keyHash P (⟨#[67, 104, 105, 108, 100, 80, 114, 111, 99, 101, 115, 115, 69, 114, 114, 111, 114]⟩), key := Value.str (⟨#[67, 104, 105, 108, 100, 80, 114, 111, 99, 101, 115, 115, 69, 114, 114, 111, 114]⟩) 122, val := Value.type "ChildProcessError" }, { hash := PyData.keyHash P (⟨#[67, 111, 110, 110, 101, 99, 116, 105, 111, 110, 69, 114, 114, 111, 114]⟩), key := Value.str (⟨#[67, 111, 110, 110, 101, 99, 116, 105, 111, 110, 69, 114, 114, 111, 114]⟩) 123, val := Value.type "ConnectionError" }, { hash := PyData.keyHash P (⟨#[70, 105, 108, 101, 69, 120, 105, 115, 116, 115, 69, 114, 114, 111, 114]⟩), key := Value.str (⟨#[70, 105, 108, 101, 69, 120, 105, 115, 116, 115, 69, 114, 114, 111, 114]⟩) 124, val := Value.type "FileExistsError" }, { hash := PyData.keyHash P (⟨#[70, 105, 108, 101, 78, 111, 116, 70, 111, 117, 110, 100, 69, 114, 114, 111, 114]⟩), key := Value.str (⟨#[70, 105, 108, 101, 78, 111, 116, 70, 111, 117, 110, 100, 69, 114, 114, 111, 114]⟩) 125, val := Value.type "FileNotFoundError" }, { hash := PyData.keyHash P (⟨#[73, 110, 116, 101, 114, 114, 117, 112, 116, 101, 100, 69, 114, 114, 111, 114]⟩), key := Value.str (⟨#[73, 110, 116, 101, 114, 114, 117, 112, 116, 101, 100, 69, 114, 114, 111, 114]⟩) 126, val := Value.type "InterruptedError" }, { hash := PyData.keyHash P (⟨#[73, 115, 65, 68, 105, 114, 101, 99, 116, 111, 114, 121, 69, 114, 114, 111, 114]⟩), key := Value.str (⟨#[73, 115, 65, 68, 105, 114, 101, 99, 116, 111, 114, 121, 69, 114, 114, 111, 114]⟩) 127, val := Value.type "IsADirectoryError" }, { hash := PyData.keyHash P (⟨#[78, 111, 116, 65, 68, 105, 114, 101, 99, 116, 111, 114, 121, 69, 114, 114, 111, 114]⟩), key := Value.str (⟨#[78, 111, 116, 65, 68, 105, 114, 101, 99, 116, 111, 114, 121, 69, 114, 114, 111, 114]⟩) 128, val := Value.type "NotADirectoryError" }, { hash := PyData.keyHash P (⟨#[80, 101, 114, 109, 105, 115, 115, 105, 111, 110, 69, 114, 114, 111, 114]⟩), key := Value.str (⟨#[80, 101, 114, 109, 105, 115, 115, 105, 111, 110, 69, 114, 114, 111, 114]⟩) 129, val := Value.type "PermissionError" }, { hash := PyData.keyHash P (⟨#[80, 114, 111, 99, 101, 115, 115, 76, 111, 111, 107, 117, 112, 69, 114, 114, 111, 114]⟩), key := Value.str (⟨#[80, 114, 111, 99, 101, 115, 115, 76, 111, 111, 107, 117, 112, 69, 114, 114, 111, 114]⟩) 130, val := Value.type "ProcessLookupError" }, { hash := PyData.keyHash P (⟨#[84, 105, 109, 101, 111, 117, 116, 69, 114, 114, 111, 114]⟩), key := Value.str (⟨#[84, 105, 109, 101, 111, 117, 116, 69, 114, 114, 111, 114]⟩) 131, val := Value.type "TimeoutError" }, { hash := PyData.keyHash P (⟨#[73, 110, 100, 101, 110, 116, 97, 116, 105, 111, 110, 69, 114, 114, 111, 114]⟩), key := Value.str (⟨#[73, 110, 100, 101, 110, 116, 97, 116, 105, 111, 110, 69, 114, 114, 111, 114]⟩) 132, val := Value.type "IndentationError" }, { hash := PyData.keyHash P (⟨#[95, 73, 110, 99, 111, 109, 112, 108, 101, 116, 101, 73, 110, 112, 117, 116, 69, 114, 114, 111, 114]⟩), key := Value.str (⟨#[95, 73, 110, 99, 111, 109, 112, 108, 101, 116, 101, 73, 110, 112, 117, 116, 69, 114, 114, 111, 114]⟩) 133, val := Value.type "_IncompleteInputError" }, { hash := PyData.keyHash P (⟨#[73, 110, 100, 101, 120, 69, 114, 114, 111, 114]⟩), key := Value.str (⟨#[73, 110, 100, 101, 120, 69, 114, 114, 111, 114]⟩) 134, val := Value.type "IndexError" }, { hash := PyData.keyHash P (⟨#[75, 101, 121, 69, 114, 114, 111, 114]⟩), key := Value.str (⟨#[75, 101, 121, 69, 114, 114, 111, 114]⟩) 135, val := Value.type "KeyError" }, { hash := PyData.keyHash P (⟨#[77, 111, 100, 117, 108, 101, 78, 111, 116, 70, 111, 117, 110, 100, 69, 114, 114, 111, 114]⟩), key := Value.str (⟨#[77, 111, 100, 117, 108, 101, 78, 111, 116, 70, 111, 117, 110, 100, 69, 114, 114, 111, 114]⟩) 136, val := Value.type "ModuleNotFoundError" }, { hash := PyData.keyHash P (⟨#[78, 111, 116, 73, 109, 112, 108, 101, 109, 101, 110, 116, 101, 100, 69, 114, 114, 111, 114]⟩), key := Value.str (⟨#[78, 111, 116, 73, 109, 112, 108, 101, 109, 101, 110, 116, 101, 100, 69, 114, 114, 111, 114]⟩) 137, val := Value.type "NotImplementedError" }, { hash := PyData.keyHash P (⟨#[80, 121, 116, 104, 111, 110, 70, 105, 110, 97, 108, 105, 122, 97, 116, 105, 111, 110, 69, 114, 114, 111, 114]⟩), key := Value.str (⟨#[80, 121, 116, 104, 111, 110, 70, 105, 110, 97, 108, 105, 122, 97, 116, 105, 111, 110, 69, 114, 114, 111, 114]⟩) 138, val := Value.type "PythonFinalizationError" }, { hash := PyData.keyHash P (⟨#[82, 101, 99, 117, 114, 115, 105, 111, 110, 69, 114, 114, 111, 114]⟩), key := Value.str (⟨#[82, 101, 99, 117, 114, 115, 105, 111, 110, 69, 114, 114, 111, 114]⟩) 139, val := Value.type "RecursionError" }, { hash := PyData.keyHash P (⟨#[85, 110, 98, 111, 117, 110, 100, 76, 111, 99, 97, 108, 69, 114, 114, 111, 114]⟩), key := Value.str (⟨#[85, 110, 98, 111, 117, 110, 100, 76, 111, 99, 97, 108, 69, 114, 114, 111, 114]⟩) 140, val := Value.type "UnboundLocalError" }, { hash := PyData.keyHash P (⟨#[85, 110, 105, 99, 111, 100, 101, 69, 114, 114, 111, 114]⟩), key := Value.str (⟨#[85, 110, 105, 99, 111, 100, 101, 69, 114, 114, 111, 114]⟩) 141, val := Value.type "UnicodeError" }, { hash := PyData.keyHash P (⟨#[66, 114, 111, 107, 101, 110, 80, 105, 112, 101, 69, 114, 114, 111, 114]⟩), key := Value.str (⟨#[66, 114, 111, 107, 101, 110, 80, 105, 112, 101, 69, 114, 114, 111, 114]⟩) 142, val := Value.type "BrokenPipeError" }, { hash := PyData.keyHash P (⟨#[67, 111, 110, 110, 101, 99, 116, 105, 111, 110, 65, 98, 111, 114, 116, 101, 100, 69, 114, 114, 111, 114]⟩), key := Value.str (⟨#[67, 111, 110, 110, 101, 99, 116, 105, 111, 110, 65, 98, 111, 114, 116, 101, 100, 69, 114, 114, 111, 114]⟩) 143, val := Value.type "ConnectionAbortedError" }, { hash := PyData.keyHash P (⟨#[67, 111, 110, 110, 101, 99, 116, 105, 111, 110, 82, 101, 102, 117, 115, 101, 100, 69, 114, 114, 111, 114]⟩), key := Value.str (⟨#[67, 111, 110, 110, 101, 99, 116, 105, 111, 110, 82, 101, 102, 117, 115, 101, 100, 69, 114, 114, 111, 114]⟩) 144, val := Value.type "ConnectionRefusedError" }, { hash := PyData.keyHash P (⟨#[67, 111, 110, 110, 101, 99, 116, 105, 111, 110, 82, 101, 115, 101, 116, 69, 114, 114, 111, 114]⟩), key := Value.str (⟨#[67, 111, 110, 110, 101, 99, 116, 105, 111, 110, 82, 101, 115, 101, 116, 69, 114, 114, 111, 114]⟩) 145, val := Value.type "ConnectionResetError" }, { hash := PyData.keyHash P (⟨#[84, 97, 98, 69, 114, 114, 111, 114]⟩), key := Value.str (⟨#[84, 97, 98, 69, 114, 114, 111, 114]⟩) 146, val := Value.type "TabError" }, { hash := PyData.keyHash P (⟨#[85, 110, 105, 99, 111, 100, 101, 68, 101, 99, 111, 100, 101, 69, 114, 114, 111, 114]⟩), key := Value.str (⟨#[85, 110, 105, 99, 111, 100, 101, 68, 101, 99, 111, 100, 101, 69, 114, 114, 111, 114]⟩) 147, val := Value.type "UnicodeDecodeError" }, { hash := PyData.keyHash P (⟨#[85, 110, 105, 99, 111, 100, 101, 69, 110, 99, 111, 100, 101, 69, 114, 114, 111, 114]⟩), key := Value.str (⟨#[85, 110, 105, 99, 111, 100, 101, 69, 110, 99, 111, 100, 101, 69, 114, 114, 111, 114]⟩) 148, val := Value.type "UnicodeEncodeError" }, { hash := PyData.keyHash P (⟨#[85, 110, 105, 99, 111, 100, 101, 84, 114, 97, 110, 115, 108, 97, 116, 101, 69, 114, 114, 111, 114]⟩), key := Value.str (⟨#[85, 110, 105, 99, 111, 100, 101, 84, 114, 97, 110, 115, 108, 97, 116, 101, 69, 114, 114, 111, 114]⟩) 149, val := Value.type "UnicodeTranslateError" }, { hash := PyData.keyHash P (⟨#[69, 120, 99, 101, 112, 116, 105, 111, 110, 71, 114, 111, 117, 112]⟩), key := Value.str (⟨#[69, 120, 99, 101, 112, 116, 105, 111, 110, 71, 114, 111, 117, 112]⟩) 150, val := Value.type "ExceptionGroup" }, { hash := PyData.keyHash P (⟨#[69, 110, 118, 105, 114, 111, 110, 109, 101, 110, 116, 69, 114, 114, 111, 114]⟩), key := Value.str (⟨#[69, 110, 118, 105, 114, 111, 110, 109, 101, 110, 116, 69, 114, 114, 111, 114]⟩) 151, val := Value.type "OSError" }, { hash := PyData.keyHash P (⟨#[73, 79, 69, 114, 114, 111, 114]⟩), key := Value.str (⟨#[73, 79, 69, 114, 114, 111, 114]⟩) 152, val := Value.type "OSError" }, { hash := PyData.keyHash P (⟨#[111, 112, 101, 110]⟩), key := Value.str (⟨#[111, 112, 101, 110]⟩) 153, val := Value.builtin "open" }, { hash := PyData.keyHash P (⟨#[113, 117, 105, 116]⟩), key := Value.str (⟨#[113, 117, 105, 116]⟩) 154, val := Value.builtin "builtins.quit#opaque" }, { hash := PyData.keyHash P (⟨#[101, 120, 105, 116]⟩), key := Value.str (⟨#[101, 120, 105, 116]⟩) 155, val := Value.builtin "builtins.exit#opaque" }, { hash := PyData.keyHash P (⟨#[99, 111, 112, 121, 114, 105, 103, 104, 116]⟩), key := Value.str (⟨#[99, 111, 112, 121, 114, 105, 103, 104, 116]⟩) 156, val := Value.builtin "builtins.copyright#opaque" }, { hash := PyData.keyHash P (⟨#[99, 114, 101, 100, 105, 116, 115]⟩), key := Value.str (⟨#[99, 114, 101, 100, 105, 116, 115]⟩) 157, val := Value.builtin "builtins.credits#opaque" }, { hash := PyData.keyHash P (⟨#[108, 105, 99, 101, 110, 115, 101]⟩), key := Value.str (⟨#[108, 105, 99, 101, 110, 115, 101]⟩) 158, val := Value.builtin "builtins.license#opaque" }, { hash := PyData.keyHash P (⟨#[104, 101, 108, 112]⟩), key := Value.str (⟨#[104, 101, 108, 112]⟩) 159, val := Value.builtin "builtins.help#opaque" }] 159 }
noncomputable def ob3 (P : Params) : Obj := { cls := Value.type "dict", data := Data.dict #[{ hash := PyData.keyHash P (⟨#[95, 95, 110, 97, 109, 101, 95, 95]⟩), key := Value.str (⟨#[95, 95, 110, 97, 109, 101, 95, 95]⟩) 165, val := Value.str (⟨#[108, 97, 119, 95, 120, 109, 48, 54, 55, 52, 95, 48, 49]⟩) 1965 }, { hash := PyData.keyHash P (⟨#[95, 95, 100, 111, 99, 95, 95]⟩), key := Value.str (⟨#[95, 95, 100, 111, 99, 95, 95]⟩) 166, val := Value.none }, { hash := PyData.keyHash P (⟨#[95, 95, 112, 97, 99, 107, 97, 103, 101, 95, 95]⟩), key := Value.str (⟨#[95, 95, 112, 97, 99, 107, 97, 103, 101, 95, 95]⟩) 167, val := Value.none }, { hash := PyData.keyHash P (⟨#[95, 95, 108, 111, 97, 100, 101, 114, 95, 95]⟩), key := Value.str (⟨#[95, 95, 108, 111, 97, 100, 101, 114, 95, 95]⟩) 168, val := Value.builtin "__main__.__loader__#opaque" }, { hash := PyData.keyHash P (⟨#[95, 95, 115, 112, 101, 99, 95, 95]⟩), key := Value.str (⟨#[95, 95, 115, 112, 101, 99, 95, 95]⟩) 169, val := Value.none }, { hash := PyData.keyHash P (⟨#[95, 95, 97, 110, 110, 111, 116, 97, 116, 105, 111, 110, 115, 95, 95]⟩), key := Value.str (⟨#[95, 95, 97, 110, 110, 111, 116, 97, 116, 105, 111, 110, 115, 95, 95]⟩) 170, val := Value.ref 6 }, { hash := PyData.keyHash P (⟨#[95, 95, 98, 117, 105, 108, 116, 105, 110, 115, 95, 95]⟩), key := Value.str (⟨#[95, 95, 98, 117, 105, 108, 116, 105, 110, 115, 95, 95]⟩) 171, val := Value.ref 4 }, { hash := PyData.keyHash P (⟨#[95, 95, 102, 105, 108, 101, 95, 95]⟩), key := Value.str (⟨#[95, 95, 102, 105, 108, 101, 95, 95]⟩) 173, val := Value.str (⟨#[47, 99, 108, 97, 105, 109, 47, 99, 117, 116, 46, 112, 121]⟩) 172 }, { hash := PyData.keyHash P (⟨#[95, 95, 99, 97, 99, 104, 101, 100, 95, 95]⟩), key := Value.str (⟨#[95, 95, 99, 97, 99, 104, 101, 100, 95, 95]⟩) 174, val := Value.none }, { hash := PyData.keyHash P (⟨#[95, 119, 97, 108, 108]⟩), key := Value.str (⟨#[95, 119, 97, 108, 108]⟩) 193, val := Value.ref 21 }, { hash := PyData.keyHash P (⟨#[78, 65, 78]⟩), key := Value.str (⟨#[78, 65, 78]⟩) 198, val := Value.ref 22 }, { hash := PyData.keyHash P (⟨#[73, 78, 70, 73, 78, 73, 84, 89]⟩), key := Value.str (⟨#[73, 78, 70, 73, 78, 73, 84, 89]⟩) 201, val := Value.ref 23 }, { hash := PyData.keyHash P (⟨#[90, 69, 82, 79]⟩), key := Value.str (⟨#[90, 69, 82, 79]⟩) 204, val := Value.ref 24 }, { hash := PyData.keyHash P (⟨#[83, 80, 65, 67, 69, 83, 95, 110, 117, 109, 98, 101, 114, 115]⟩), key := Value.str (⟨#[83, 80, 65, 67, 69, 83, 95, 110, 117, 109, 98, 101, 114, 115]⟩) 206, val := Value.str (⟨#[32, 9, 10, 13]⟩) 205 }, { hash := PyData.keyHash P (⟨#[68, 73, 71, 73, 84, 83]⟩), key := Value.str (⟨#[68, 73, 71, 73, 84, 83]⟩) 208, val := Value.str (⟨#[48, 49, 50, 51, 52, 53, 54, 55, 56, 57]⟩) 207 }, { hash := PyData.keyHash P (⟨#[77, 79, 83, 84, 95, 70, 73, 71, 85, 82, 69, 83]⟩), key := Value.str (⟨#[77, 79, 83, 84, 95, 70, 73, 71, 85, 82, 69, 83]⟩) 210, val := Value.int 400 209 }, { hash := PyData.keyHash P (⟨#[77, 79, 83, 84]⟩), key := Value.str (⟨#[77, 79, 83, 84]⟩) 213, val := Value.int 10000000000000000000000000000000000000000000000000000000000000000000000000000000000000000000000000000000000000000000000000000000000000000000000000000000000000000000000000000000000000000000000000000000000000000000000000000000000000000000000000000000000000000000000000000000000000000000000000000000000000000000000000000000000000000000000000000000000000000000000000000000000000000000000000000000000000000 212 }, { hash := PyData.keyHash P (⟨#[99, 111, 109, 109, 111, 110, 95, 100, 105, 118, 105, 115, 111, 114]⟩), key := Value.str (⟨#[99, 111, 109, 109, 111, 110, 95, 100, 105, 118, 105, 115, 111, 114]⟩) 223, val := Value.ref 31 }, { hash := PyData.keyHash P (⟨#[115, 105, 103, 110, 95, 111, 102]⟩), key := Value.str (⟨#[115, 105, 103, 110, 95, 111, 102]⟩) 230, val := Value.ref 38 }, { hash := PyData.keyHash P (⟨#[110, 117, 109, 98, 101, 114, 95, 111, 102]⟩), key := Value.str (⟨#[110, 117, 109, 98, 101, 114, 95, 111, 102]⟩) 240, val := Value.ref 46 }, { hash := PyData.keyHash P (⟨#[105, 115, 95, 110, 97, 110]⟩), key := Value.str (⟨#[105, 115, 95, 110, 97, 110]⟩) 247, val := Value.ref 53 }, { hash := PyData.keyHash P (⟨#[110, 101, 103, 97, 116, 101, 100]⟩), key := Value.str (⟨#[110, 101, 103, 97, 116, 101, 100]⟩) 254, val := Value.ref 60 }, { hash := PyData.keyHash P (⟨#[112, 108, 117, 115]⟩), key := Value.str (⟨#[112, 108, 117, 115]⟩) 262, val := Value.ref 67 }, { hash := PyData.keyHash P (⟨#[109, 105, 110, 117, 115]⟩), key := Value.str (⟨#[109, 105, 110, 117, 115]⟩) 270, val := Value.ref 74 }, { hash := PyData.keyHash P (⟨#[116, 105, 109, 101, 115]⟩), key := Value.str (⟨#[116, 105, 109, 101, 115]⟩) 278, val := Value.ref 81 }, { hash := PyData.keyHash P (⟨#[100, 105, 118, 105, 100, 101, 100]⟩), key := Value.str (⟨#[100, 105, 118, 105, 100, 101, 100]⟩) 286, val := Value.ref 88 }, { hash := PyData.keyHash P (⟨#[109, 111, 100, 117, 108, 111]⟩), key := Value.str (⟨#[109, 111, 100, 117, 108, 111]⟩) 296, val := Value.ref 95 }, { hash := PyData.keyHash P (⟨#[111, 114, 100, 101, 114, 95, 111, 102]⟩), key := Value.str (⟨#[111, 114, 100, 101, 114, 95, 111, 102]⟩) 304, val := Value.ref 102 }, { hash := PyData.keyHash P (⟨#[99, 111, 109, 112, 97, 114, 101, 100, 95, 110, 117, 109, 98, 101, 114, 115]⟩), key := Value.str (⟨#[99, 111, 109, 112, 97, 114, 101, 100, 95, 110, 117, 109, 98, 101, 114, 115]⟩) 314, val := Value.ref 109 }, { hash := PyData.keyHash P (⟨#[102, 108, 111, 111, 114, 95, 111, 102]⟩), key := Value.str (⟨#[102, 108, 111, 111, 114, 95, 111, 102]⟩) 321, val := Value.ref 116 }, { hash := PyData.keyHash P (⟨#[99, 101, 105, 108, 105, 110, 103, 95, 111, 102]⟩), key := Value.str (⟨#[99, 101, 105, 108, 105, 110, 103, 95, 111, 102]⟩) 328, val := Value.ref 123 }, { hash := PyData.keyHash P (⟨#[114, 111, 117, 110, 100, 101, 100]⟩), key := Value.str (⟨#[114, 111, 117, 110, 100, 101, 100]⟩) 335, val := Value.ref 130 }, { hash := PyData.keyHash P (⟨#[100, 105, 103, 105, 116, 115, 95, 101, 110, 100]⟩), key := Value.str (⟨#[100, 105, 103, 105, 116, 115, 95, 101, 110, 100]⟩) 343, val := Value.ref 137 }, { hash := PyData.keyHash P (⟨#[116, 114, 105, 109, 109, 101, 100]⟩), key := Value.str (⟨#[116, 114, 105, 109, 109, 101, 100]⟩) 352, val := Value.ref 144 }, { hash := PyData.keyHash P (⟨#[119, 104, 111, 108, 101, 95, 111, 102]⟩), key := Value.str (⟨#[119, 104, 111, 108, 101, 95, 111, 102]⟩) 361, val := Value.ref 151 }, { hash := PyData.keyHash P (⟨#[114, 101, 97, 100, 95, 110, 117, 109, 98, 101, 114]⟩), key := Value.str (⟨#[114, 101, 97, 100, 95, 110, 117, 109, 98, 101, 114]⟩) 375, val := Value.ref 158 }, { hash := PyData.keyHash P (⟨#[110, 117, 109, 98, 101, 114, 95, 111, 102, 95, 100, 105, 103, 105, 116, 115]⟩), key := Value.str (⟨#[110, 117, 109, 98, 101, 114, 95, 111, 102, 95, 100, 105, 103, 105, 116, 115]⟩) 386, val := Value.ref 165 }, { hash := PyData.keyHash P (⟨#[119, 114, 105, 116, 101, 95, 110, 117, 109, 98, 101, 114]⟩), key := Value.str (⟨#[119, 114, 105, 116, 101, 95, 110, 117, 109, 98, 101, 114]⟩) 401, val := Value.ref 173 }, { hash := PyData.keyHash P (⟨#[108, 105, 110, 101, 115, 95, 109, 97, 114, 107, 101, 100]⟩), key := Value.str (⟨#[108, 105, 110, 101, 115, 95, 109, 97, 114, 107, 101, 100]⟩) 416, val := Value.ref 180 }, { hash := PyData.keyHash P (⟨#[115, 111, 114, 116, 101, 100, 95, 98, 101, 110, 101, 97, 116, 104]⟩), key := Value.str (⟨#[115, 111, 114, 116, 101, 100, 95, 98, 101, 110, 101, 97, 116, 104]⟩) 422, val := Value.ref 185 }, { hash := PyData.keyHash P (⟨#[105, 110, 95, 111, 114, 100, 101, 114]⟩), key := Value.str (⟨#[105, 110, 95, 111, 114, 100, 101, 114]⟩) 428, val := Value.ref 190 }, { hash := PyData.keyHash P (⟨#[98, 101, 110, 101, 97, 116, 104]⟩), key := Value.str (⟨#[98, 101, 110, 101, 97, 116, 104]⟩) 439, val := Value.ref 197 }, { hash := PyData.keyHash P (⟨#[115, 116, 114, 105, 110, 103, 95, 118, 97, 108, 117, 101]⟩), key := Value.str (⟨#[115, 116, 114, 105, 110, 103, 95, 118, 97, 108, 117, 101]⟩) 445, val := Value.ref 202 }, { hash := PyData.keyHash P (⟨#[97, 115, 95, 116, 101, 120, 116]⟩), key := Value.str (⟨#[97, 115, 95, 116, 101, 120, 116]⟩) 455, val := Value.ref 209 }, { hash := PyData.keyHash P (⟨#[97, 115, 95, 110, 117, 109, 98, 101, 114]⟩), key := Value.str (⟨#[97, 115, 95, 110, 117, 109, 98, 101, 114]⟩) 463, val := Value.ref 216 }, { hash := PyData.keyHash P (⟨#[97, 115, 95, 116, 114, 117, 116, 104]⟩), key := Value.str (⟨#[97, 115, 95, 116, 114, 117, 116, 104]⟩) 471, val := Value.ref 223 }, { hash := PyData.keyHash P (⟨#[105, 115, 95, 101, 113, 117, 97, 108, 105, 116, 121]⟩), key := Value.str (⟨#[105, 115, 95, 101, 113, 117, 97, 108, 105, 116, 121]⟩) 478, val := Value.ref 230 }, { hash := PyData.keyHash P (⟨#[99, 111, 109, 112, 97, 114, 101, 100, 95, 116, 101, 120, 116, 115]⟩), key := Value.str (⟨#[99, 111, 109, 112, 97, 114, 101, 100, 95, 116, 101, 120, 116, 115]⟩) 487, val := Value.ref 237 }, { hash := PyData.keyHash P (⟨#[99, 111, 109, 112, 97, 114, 101, 100, 95, 112, 108, 97, 105, 110]⟩), key := Value.str (⟨#[99, 111, 109, 112, 97, 114, 101, 100, 95, 112, 108, 97, 105, 110]⟩) 497, val := Value.ref 244 }, { hash := PyData.keyHash P (⟨#[97, 115, 95, 99, 111, 109, 112, 97, 114, 101, 100]⟩), key := Value.str (⟨#[97, 115, 95, 99, 111, 109, 112, 97, 114, 101, 100]⟩) 503, val := Value.ref 249 }, { hash := PyData.keyHash P (⟨#[115, 111, 109, 101, 95, 112, 97, 105, 114]⟩), key := Value.str (⟨#[115, 111, 109, 101, 95, 112, 97, 105, 114]⟩) 514, val := Value.ref 256 }, { hash := PyData.keyHash P (⟨#[116, 101, 120, 116, 115, 95, 111, 102]⟩), key := Value.str (⟨#[116, 101, 120, 116, 115, 95, 111, 102]⟩) 520, val := Value.ref 261 }, { hash := PyData.keyHash P (⟨#[108, 105, 115, 116, 101, 100]⟩), key := Value.str (⟨#[108, 105, 115, 116, 101, 100]⟩) 530, val := Value.ref 268 }, { hash := PyData.keyHash P (⟨#[99, 111, 109, 112, 97, 114, 101, 100]⟩), key := Value.str (⟨#[99, 111, 109, 112, 97, 114, 101, 100]⟩) 540, val := Value.ref 275 }, { hash := PyData.keyHash P (⟨#[77, 97, 114, 107, 117, 112, 69, 114, 114, 111, 114]⟩), key := Value.str (⟨#[77, 97, 114, 107, 117, 112, 69, 114, 114, 111, 114]⟩) 571, val := Value.ref 292 }, { hash := PyData.keyHash P (⟨#[84, 114, 101, 101, 70, 97, 117, 108, 116]⟩), key := Value.str (⟨#[84, 114, 101, 101, 70, 97, 117, 108, 116]⟩) 587, val := Value.ref 305 }, { hash := PyData.keyHash P (⟨#[80, 97, 116, 104, 70, 97, 117, 108, 116]⟩), key := Value.str (⟨#[80, 97, 116, 104, 70, 97, 117, 108, 116]⟩) 603, val := Value.ref 317 }, { hash := PyData.keyHash P (⟨#[83, 104, 101, 101, 116, 70, 97, 117, 108, 116]⟩), key := Value.str (⟨#[83, 104, 101, 101, 116, 70, 97, 117, 108, 116]⟩) 619, val := Value.ref 329 }, { hash := PyData.keyHash P (⟨#[83, 80, 65, 67, 69, 83, 95, 99, 104, 97, 114, 115]⟩), key := Value.str (⟨#[83, 80, 65, 67, 69, 83, 95, 99, 104, 97, 114, 115]⟩) 623, val := Value.str (⟨#[32, 9, 10, 13]⟩) 622 }, { hash := PyData.keyHash P (⟨#[105, 115, 95, 115, 112, 97, 99, 101]⟩), key := Value.str (⟨#[105, 115, 95, 115, 112, 97, 99, 101]⟩) 630, val := Value.ref 338 }, { hash := PyData.keyHash P (⟨#[115, 112, 97, 99, 101, 95, 115, 112, 108, 105, 116]⟩), key := Value.str (⟨#[115, 112, 97, 99, 101, 95, 115, 112, 108, 105, 116]⟩) 640, val := Value.ref 345 }, { hash := PyData.keyHash P (⟨#[99, 111, 108, 108, 97, 112, 115, 101, 100]⟩), key := Value.str (⟨#[99, 111, 108, 108, 97, 112, 115, 101, 100]⟩) 647, val := Value.ref 352 }, { hash := PyData.keyHash P (⟨#[110, 111, 100, 101, 115, 95, 111, 102]⟩), key := Value.str (⟨#[110, 111, 100, 101, 115, 95, 111, 102]⟩) 656, val := Value.ref 359 }, { hash := PyData.keyHash P (⟨#[99, 111, 117, 110, 116, 101, 100]⟩), key := Value.str (⟨#[99, 111, 117, 110, 116, 101, 100]⟩) 663, val := Value.ref 366 }, { hash := PyData.keyHash P (⟨#[115, 117, 109, 109, 101, 100]⟩), key := Value.str (⟨#[115, 117, 109, 109, 101, 100]⟩) 673, val := Value.ref 373 }, { hash := PyData.keyHash P (⟨#[116, 111, 108, 100, 95, 110, 111, 100, 101]⟩), key := Value.str (⟨#[116, 111, 108, 100, 95, 110, 111, 100, 101]⟩) 682, val := Value.ref 380 }, { hash := PyData.keyHash P (⟨#[110, 97, 109, 101, 95, 112, 97, 114, 116]⟩), key := Value.str (⟨#[110, 97, 109, 101, 95, 112, 97, 114, 116]⟩) 692, val := Value.ref 387 }, { hash := PyData.keyHash P (⟨#[105, 100, 95, 116, 101, 120, 116, 115]⟩), key := Value.str (⟨#[105, 100, 95, 116, 101, 120, 116, 115]⟩) 702, val := Value.ref 394 }, { hash := PyData.keyHash P (⟨#[101, 108, 101, 109, 101, 110, 116, 115, 95, 98, 121, 95, 105, 100, 115]⟩), key := Value.str (⟨#[101, 108, 101, 109, 101, 110, 116, 115, 95, 98, 121, 95, 105, 100, 115]⟩) 715, val := Value.ref 401 }, { hash := PyData.keyHash P (⟨#[108, 97, 110, 103, 117, 97, 103, 101, 95, 111, 102]⟩), key := Value.str (⟨#[108, 97, 110, 103, 117, 97, 103, 101, 95, 111, 102]⟩) 724, val := Value.ref 408 }, { hash := PyData.keyHash P (⟨#[115, 112, 101, 97, 107, 115]⟩), key := Value.str (⟨#[115, 112, 101, 97, 107, 115]⟩) 733, val := Value.ref 415 }, { hash := PyData.keyHash P (⟨#[99, 97, 108, 108, 95, 111, 102, 95, 115, 101, 116, 115]⟩), key := Value.str (⟨#[99, 97, 108, 108, 95, 111, 102, 95, 115, 101, 116, 115]⟩) 742, val := Value.ref 422 }, { hash := PyData.keyHash P (⟨#[115, 116, 97, 114, 116, 115, 95, 119, 105, 116, 104]⟩), key := Value.str (⟨#[115, 116, 97, 114, 116, 115, 95, 119, 105, 116, 104]⟩) 752, val := Value.ref 429 }, { hash := PyData.keyHash P (⟨#[99, 111, 110, 116, 97, 105, 110, 115]⟩), key := Value.str (⟨#[99, 111, 110, 116, 97, 105, 110, 115]⟩) 760, val := Value.ref 436 }, { hash := PyData.keyHash P (⟨#[98, 101, 102, 111, 114, 101]⟩), key := Value.str (⟨#[98, 101, 102, 111, 114, 101]⟩) 769, val := Value.ref 443 }, { hash := PyData.keyHash P (⟨#[97, 102, 116, 101, 114]⟩), key := Value.str (⟨#[97, 102, 116, 101, 114]⟩) 778, val := Value.ref 450 }, { hash := PyData.keyHash P (⟨#[119, 105, 116, 104, 105, 110]⟩), key := Value.str (⟨#[119, 105, 116, 104, 105, 110]⟩) 787, val := Value.ref 457 }, { hash := PyData.keyHash P (⟨#[115, 117, 98, 115, 116, 114, 105, 110, 103]⟩), key := Value.str (⟨#[115, 117, 98, 115, 116, 114, 105, 110, 103]⟩) 799, val := Value.ref 465 }, { hash := PyData.keyHash P (⟨#[116, 114, 97, 110, 115, 108, 97, 116, 101, 100]⟩), key := Value.str (⟨#[116, 114, 97, 110, 115, 108, 97, 116, 101, 100]⟩) 811, val := Value.ref 472 }, { hash := PyData.keyHash P (⟨#[110, 111, 114, 109, 97, 108, 105, 122, 101, 100]⟩), key := Value.str (⟨#[110, 111, 114, 109, 97, 108, 105, 122, 101, 100]⟩) 818, val := Value.ref 479 }, { hash := PyData.keyHash P (⟨#[116, 111, 108, 100, 95, 118, 97, 108, 117, 101]⟩), key := Value.str (⟨#[116, 111, 108, 100, 95, 118, 97, 108, 117, 101]⟩) 828, val := Value.ref 486 }, { hash := PyData.keyHash P (⟨#[99, 97, 108, 108, 95, 111, 102, 95, 116, 114, 117, 116, 104, 115]⟩), key := Value.str (⟨#[99, 97, 108, 108, 95, 111, 102, 95, 116, 114, 117, 116, 104, 115]⟩) 838, val := Value.ref 493 }, { hash := PyData.keyHash P (⟨#[99, 97, 108, 108, 95, 111, 102, 95, 110, 117, 109, 98, 101, 114, 115]⟩), key := Value.str (⟨#[99, 97, 108, 108, 95, 111, 102, 95, 110, 117, 109, 98, 101, 114, 115]⟩) 848, val := Value.ref 500 }, { hash := PyData.keyHash P (⟨#[99, 97, 108, 108, 95, 111, 102, 95, 116, 119, 111, 95, 116, 101, 120, 116, 115]⟩), key := Value.str (⟨#[99, 97, 108, 108, 95, 111, 102, 95, 116, 119, 111, 95, 116, 101, 120, 116, 115]⟩) 857, val := Value.ref 507 }, { hash := PyData.keyHash P (⟨#[99, 97, 108, 108, 95, 111, 102, 95, 116, 101, 120, 116, 115]⟩), key := Value.str (⟨#[99, 97, 108, 108, 95, 111, 102, 95, 116, 101, 120, 116, 115]⟩) 863, val := Value.ref 512 }, { hash := PyData.keyHash P (⟨#[83, 69, 84, 83]⟩), key := Value.str (⟨#[83, 69, 84, 83]⟩) 875, val := Value.ref 513 }, { hash := PyData.keyHash P (⟨#[84, 82, 85, 84, 72, 83]⟩), key := Value.str (⟨#[84, 82, 85, 84, 72, 83]⟩) 880, val := Value.ref 514 }, { hash := PyData.keyHash P (⟨#[78, 85, 77, 66, 69, 82, 83]⟩), key := Value.str (⟨#[78, 85, 77, 66, 69, 82, 83]⟩) 885, val := Value.ref 515 }, { hash := PyData.keyHash P (⟨#[84, 69, 88, 84, 83]⟩), key := Value.str (⟨#[84, 69, 88, 84, 83]⟩) 896, val := Value.ref 516 }, { hash := PyData.keyHash P (⟨#[78, 79, 78, 69, 95, 76, 69, 84]⟩), key := Value.str (⟨#[78, 79, 78, 69, 95, 76, 69, 84]⟩) 901, val := Value.ref 517 }, { hash := PyData.keyHash P (⟨#[79, 78, 69, 95, 65, 84, 95, 77, 79, 83, 84]⟩), key := Value.str (⟨#[79, 78, 69, 95, 65, 84, 95, 77, 79, 83, 84]⟩) 909, val := Value.ref 518 }, { hash := PyData.keyHash P (⟨#[84, 87, 79, 95, 87, 65, 78, 84, 69, 68]⟩), key := Value.str (⟨#[84, 87, 79, 95, 87, 65, 78, 84, 69, 68]⟩) 914, val := Value.ref 519 }, { hash := PyData.keyHash P (⟨#[77, 65, 78, 89]⟩), key := Value.str (⟨#[77, 65, 78, 89]⟩) 916, val := Value.int 1000 915 }, { hash := PyData.keyHash P (⟨#[105, 115, 95, 99, 111, 114, 101]⟩), key := Value.str (⟨#[105, 115, 95, 99, 111, 114, 101]⟩) 923, val := Value.ref 526 }, { hash := PyData.keyHash P (⟨#[98, 111, 117, 110, 100, 115, 95, 111, 102]⟩), key := Value.str (⟨#[98, 111, 117, 110, 100, 115, 95, 111, 102]⟩) 930, val := Value.ref 533 }, { hash := PyData.keyHash P (⟨#[99, 104, 101, 99, 107, 95, 109, 97, 110, 121]⟩), key := Value.str (⟨#[99, 104, 101, 99, 107, 95, 109, 97, 110, 121]⟩) 940, val := Value.ref 540 }, { hash := PyData.keyHash P (⟨#[99, 97, 108, 108, 95, 99, 111, 114, 101]⟩), key := Value.str (⟨#[99, 97, 108, 108, 95, 99, 111, 114, 101]⟩) 949, val := Value.ref 547 }, { hash := PyData.keyHash P (⟨#[105, 115, 95, 98, 101, 115, 105, 100, 101]⟩), key := Value.str (⟨#[105, 115, 95, 98, 101, 115, 105, 100, 101]⟩) 959, val := Value.ref 554 }, { hash := PyData.keyHash P (⟨#[100, 101, 115, 99, 101, 110, 100, 97, 110, 116, 115]⟩), key := Value.str (⟨#[100, 101, 115, 99, 101, 110, 100, 97, 110, 116, 115]⟩) 970, val := Value.ref 561 }, { hash := PyData.keyHash P (⟨#[97, 110, 99, 101, 115, 116, 111, 114, 115]⟩), key := Value.str (⟨#[97, 110, 99, 101, 115, 116, 111, 114, 115]⟩) 980, val := Value.ref 568 }, { hash := PyData.keyHash P (⟨#[115, 105, 98, 108, 105, 110, 103, 115, 95, 97, 104, 101, 97, 100]⟩), key := Value.str (⟨#[115, 105, 98, 108, 105, 110, 103, 115, 95, 97, 104, 101, 97, 100]⟩) 990, val := Value.ref 575 }, { hash := PyData.keyHash P (⟨#[115, 105, 98, 108, 105, 110, 103, 115, 95, 98, 101, 104, 105, 110, 100]⟩), key := Value.str (⟨#[115, 105, 98, 108, 105, 110, 103, 115, 95, 98, 101, 104, 105, 110, 100]⟩) 1000, val := Value.ref 582 }, { hash := PyData.keyHash P (⟨#[119, 105, 116, 104, 95, 100, 101, 115, 99, 101, 110, 100, 97, 110, 116, 115]⟩), key := Value.str (⟨#[119, 105, 116, 104, 95, 100, 101, 115, 99, 101, 110, 100, 97, 110, 116, 115]⟩) 1010, val := Value.ref 589 }, { hash := PyData.keyHash P (⟨#[102, 111, 108, 108, 111, 119, 105, 110, 103]⟩), key := Value.str (⟨#[102, 111, 108, 108, 111, 119, 105, 110, 103]⟩) 1020, val := Value.ref 596 }, { hash := PyData.keyHash P (⟨#[112, 114, 101, 99, 101, 100, 105, 110, 103]⟩), key := Value.str (⟨#[112, 114, 101, 99, 101, 100, 105, 110, 103]⟩) 1031, val := Value.ref 603 }, { hash := PyData.keyHash P (⟨#[110, 97, 109, 101, 115, 112, 97, 99, 101, 115, 95, 105, 110, 95, 115, 99, 111, 112, 101]⟩), key := Value.str (⟨#[110, 97, 109, 101, 115, 112, 97, 99, 101, 115, 95, 105, 110, 95, 115, 99, 111, 112, 101]⟩) 1037, val := Value.ref 608 }, { hash := PyData.keyHash P (⟨#[115, 104, 111, 114, 116, 95, 97, 120, 105, 115]⟩), key := Value.str (⟨#[115, 104, 111, 114, 116, 95, 97, 120, 105, 115]⟩) 1047, val := Value.ref 615 }, { hash := PyData.keyHash P (⟨#[97, 120, 105, 115]⟩), key := Value.str (⟨#[97, 120, 105, 115]⟩) 1057, val := Value.ref 622 }, { hash := PyData.keyHash P (⟨#[112, 114, 105, 110, 99, 105, 112, 97, 108, 95, 107, 105, 110, 100]⟩), key := Value.str (⟨#[112, 114, 105, 110, 99, 105, 112, 97, 108, 95, 107, 105, 110, 100]⟩) 1066, val := Value.ref 629 }, { hash := PyData.keyHash P (⟨#[98, 111, 117, 110, 100, 95, 117, 114, 105]⟩), key := Value.str (⟨#[98, 111, 117, 110, 100, 95, 117, 114, 105]⟩) 1074, val := Value.ref 636 }, { hash := PyData.keyHash P (⟨#[105, 115, 95, 110, 97, 109, 101, 100]⟩), key := Value.str (⟨#[105, 115, 95, 110, 97, 109, 101, 100]⟩) 1086, val := Value.ref 643 }, { hash := PyData.keyHash P (⟨#[112, 97, 115, 115, 101, 115]⟩), key := Value.str (⟨#[112, 97, 115, 115, 101, 115]⟩) 1099, val := Value.ref 650 }, { hash := PyData.keyHash P (⟨#[104, 111, 108, 100, 115]⟩), key := Value.str (⟨#[104, 111, 108, 100, 115]⟩) 1109, val := Value.ref 657 }, { hash := PyData.keyHash P (⟨#[107, 101, 112, 116]⟩), key := Value.str (⟨#[107, 101, 112, 116]⟩) 1123, val := Value.ref 664 }, { hash := PyData.keyHash P (⟨#[115, 116, 101, 112, 95, 102, 114, 111, 109]⟩), key := Value.str (⟨#[115, 116, 101, 112, 95, 102, 114, 111, 109]⟩) 1129, val := Value.ref 669 }, { hash := PyData.keyHash P (⟨#[117, 110, 108, 105, 107, 101]⟩), key := Value.str (⟨#[117, 110, 108, 105, 107, 101]⟩) 1138, val := Value.ref 676 }, { hash := PyData.keyHash P (⟨#[97, 102, 116, 101, 114, 95, 115, 116, 101, 112]⟩), key := Value.str (⟨#[97, 102, 116, 101, 114, 95, 115, 116, 101, 112]⟩) 1151, val := Value.ref 683 }, { hash := PyData.keyHash P (⟨#[115, 116, 101, 112, 115, 95, 102, 114, 111, 109]⟩), key := Value.str (⟨#[115, 116, 101, 112, 115, 95, 102, 114, 111, 109]⟩) 1163, val := Value.ref 690 }, { hash := PyData.keyHash P (⟨#[114, 111, 119, 115, 95, 111, 102]⟩), key := Value.str (⟨#[114, 111, 119, 115, 95, 111, 102]⟩) 1171, val := Value.ref 695 }, { hash := PyData.keyHash P (⟨#[76, 105, 116, 101, 114, 97, 108]⟩), key := Value.str (⟨#[76, 105, 116, 101, 114, 97, 108]⟩) 1207, val := Value.ref 719 }, { hash := PyData.keyHash P (⟨#[78, 117, 109, 98, 101, 114, 78, 111, 100, 101]⟩), key := Value.str (⟨#[78, 117, 109, 98, 101, 114, 78, 111, 100, 101]⟩) 1243, val := Value.ref 747 }, { hash := PyData.keyHash P (⟨#[86, 97, 114, 105, 97, 98, 108, 101, 78, 111, 100, 101]⟩), key := Value.str (⟨#[86, 97, 114, 105, 97, 98, 108, 101, 78, 111, 100, 101]⟩) 1279, val := Value.ref 775 }, { hash := PyData.keyHash P (⟨#[67, 97, 108, 108]⟩), key := Value.str (⟨#[67, 97, 108, 108]⟩) 1317, val := Value.ref 803 }, { hash := PyData.keyHash P (⟨#[66, 105, 110, 97, 114, 121]⟩), key := Value.str (⟨#[66, 105, 110, 97, 114, 121]⟩) 1357, val := Value.ref 831 }, { hash := PyData.keyHash P (⟨#[78, 101, 103, 97, 116, 101, 100]⟩), key := Value.str (⟨#[78, 101, 103, 97, 116, 101, 100]⟩) 1393, val := Value.ref 859 }, { hash := PyData.keyHash P (⟨#[70, 105, 108, 116, 101, 114]⟩), key := Value.str (⟨#[70, 105, 108, 116, 101, 114]⟩) 1431, val := Value.ref 887 }, { hash := PyData.keyHash P (⟨#[80, 97, 116, 104]⟩), key := Value.str (⟨#[80, 97, 116, 104]⟩) 1470, val := Value.ref 915 }, { hash := PyData.keyHash P (⟨#[67, 79, 77, 80, 65, 82, 73, 83, 79, 78, 83]⟩), key := Value.str (⟨#[67, 79, 77, 80, 65, 82, 73, 83, 79, 78, 83]⟩) 1479, val := Value.ref 920 }, { hash := PyData.keyHash P (⟨#[110, 101, 101, 100, 115, 95, 110, 111, 100, 101, 115]⟩), key := Value.str (⟨#[110, 101, 101, 100, 115, 95, 110, 111, 100, 101, 115]⟩) 1486, val := Value.ref 927 }, { hash := PyData.keyHash P (⟨#[114, 101, 99, 107, 111, 110, 101, 100]⟩), key := Value.str (⟨#[114, 101, 99, 107, 111, 110, 101, 100]⟩) 1495, val := Value.ref 934 }, { hash := PyData.keyHash P (⟨#[117, 110, 105, 116, 101, 100]⟩), key := Value.str (⟨#[117, 110, 105, 116, 101, 100]⟩) 1501, val := Value.ref 939 }, { hash := PyData.keyHash P (⟨#[97, 115, 107, 101, 114]⟩), key := Value.str (⟨#[97, 115, 107, 101, 114]⟩) 1510, val := Value.ref 946 }, { hash := PyData.keyHash P (⟨#[111, 102, 95, 98, 105, 110, 97, 114, 121]⟩), key := Value.str (⟨#[111, 102, 95, 98, 105, 110, 97, 114, 121]⟩) 1522, val := Value.ref 953 }, { hash := PyData.keyHash P (⟨#[111, 102, 95, 99, 97, 108, 108]⟩), key := Value.str (⟨#[111, 102, 95, 99, 97, 108, 108]⟩) 1528, val := Value.ref 958 }, { hash := PyData.keyHash P (⟨#[111, 102, 95, 102, 105, 108, 116, 101, 114]⟩), key := Value.str (⟨#[111, 102, 95, 102, 105, 108, 116, 101, 114]⟩) 1537, val := Value.ref 965 }, { hash := PyData.keyHash P (⟨#[111, 102, 95, 112, 97, 116, 104]⟩), key := Value.str (⟨#[111, 102, 95, 112, 97, 116, 104]⟩) 1547, val := Value.ref 972 }, { hash := PyData.keyHash P (⟨#[101, 118, 97, 108, 117, 97, 116, 101]⟩), key := Value.str (⟨#[101, 118, 97, 108, 117, 97, 116, 101]⟩) 1555, val := Value.ref 979 }, { hash := PyData.keyHash P (⟨#[101, 120, 112, 114, 101, 115, 115, 105, 111, 110, 95, 101, 110, 100]⟩), key := Value.str (⟨#[101, 120, 112, 114, 101, 115, 115, 105, 111, 110, 95, 101, 110, 100]⟩) 1567, val := Value.ref 986 }, { hash := PyData.keyHash P (⟨#[102, 105, 108, 108, 101, 100]⟩), key := Value.str (⟨#[102, 105, 108, 108, 101, 100]⟩) 1578, val := Value.ref 993 }, { hash := PyData.keyHash P (⟨#[118, 97, 108, 117, 101, 95, 111, 102, 95, 97, 118, 116]⟩), key := Value.str (⟨#[118, 97, 108, 117, 101, 95, 111, 102, 95, 97, 118, 116]⟩) 1587, val := Value.ref 1000 }, { hash := PyData.keyHash P (⟨#[67, 111, 110, 116, 101, 120, 116]⟩), key := Value.str (⟨#[67, 111, 110, 116, 101, 120, 116]⟩) 1666, val := Value.ref 1039 }, { hash := PyData.keyHash P (⟨#[80, 65, 82, 69, 78, 84, 83]⟩), key := Value.str (⟨#[80, 65, 82, 69, 78, 84, 83]⟩) 1671, val := Value.ref 1044 }, { hash := PyData.keyHash P (⟨#[78, 111, 100, 101, 82, 111, 119]⟩), key := Value.str (⟨#[78, 111, 100, 101, 82, 111, 119]⟩) 1713, val := Value.ref 1061 }, { hash := PyData.keyHash P (⟨#[84, 114, 101, 101]⟩), key := Value.str (⟨#[84, 114, 101, 101]⟩) 1964, val := Value.ref 1250 }, { hash := PyData.keyHash P (⟨#[95, 108, 97, 119, 95, 112, 111, 111, 108]⟩), key := Value.str (⟨#[95, 108, 97, 119, 95, 112, 111, 111, 108]⟩) 1975, val := Value.ref 1261 }, { hash := PyData.keyHash P (⟨#[95, 108, 97, 119, 95, 116, 97, 107, 101]⟩), key := Value.str (⟨#[95, 108, 97, 119, 95, 116, 97, 107, 101]⟩) 1984, val := Value.ref 1268 }, { hash := PyData.keyHash P (⟨#[95, 108, 97, 119, 95, 111, 110, 101]⟩), key := Value.str (⟨#[95, 108, 97, 119, 95, 111, 110, 101]⟩) 1992, val := Value.ref 1275 }, { hash := PyData.keyHash P (⟨#[95, 108, 97, 119, 95, 112, 108, 97, 99, 101]⟩), key := Value.str (⟨#[95, 108, 97, 119, 95, 112, 108, 97, 99, 101]⟩) 2000, val := Value.ref 1282 }, { hash := PyData.keyHash P (⟨#[95, 108, 97, 119, 95, 101, 110, 100, 115, 95, 114, 105, 103, 104, 116]⟩), key := Value.str (⟨#[95, 108, 97, 119, 95, 101, 110, 100, 115, 95, 114, 105, 103, 104, 116]⟩) 2006, val := Value.ref 1287 }, { hash := PyData.keyHash P (⟨#[95, 108, 97, 119, 95, 103, 114, 111, 119, 110]⟩), key := Value.str (⟨#[95, 108, 97, 119, 95, 103, 114, 111, 119, 110]⟩) 2018, val := Value.ref 1294 }, { hash := PyData.keyHash P (⟨#[95, 108, 97, 119, 95, 110, 117, 109, 98, 101, 114]⟩), key := Value.str (⟨#[95, 108, 97, 119, 95, 110, 117, 109, 98, 101, 114]⟩) 2025, val := Value.ref 1301 }, { hash := PyData.keyHash P (⟨#[95, 108, 97, 119, 95, 119, 111, 114, 116, 104]⟩), key := Value.str (⟨#[95, 108, 97, 119, 95, 119, 111, 114, 116, 104]⟩) 2031, val := Value.ref 1306 }, { hash := PyData.keyHash P (⟨#[95, 108, 97, 119, 95, 118, 97, 108, 117, 101]⟩), key := Value.str (⟨#[95, 108, 97, 119, 95, 118, 97, 108, 117, 101]⟩) 2039, val := Value.ref 1313 }, { hash := PyData.keyHash P (⟨#[95, 108, 97, 119, 95, 118, 97, 108, 117, 101, 115, 95, 114, 105, 103, 104, 116]⟩), key := Value.str (⟨#[95, 108, 97, 119, 95, 118, 97, 108, 117, 101, 115, 95, 114, 105, 103, 104, 116]⟩) 2057, val := Value.ref 1320 }, { hash := PyData.keyHash P (⟨#[108, 97, 119]⟩), key := Value.str (⟨#[108, 97, 119]⟩) 2065, val := Value.ref 1327 }] 155 }
noncomputable def KM : Params → Frag := fun P =>
  (nat_lit 0, ob0 P) :: (nat_lit 3, ob3 P) ::
  (nat_lit 2, Subtype.val (⟨_, by k_is⟩ : { o : Obj // List.lookup (nat_lit 2) (frag.heap_1 P) = some o })) ::
  (nat_lit 288, Subtype.val (⟨_, by k_is⟩ : { o : Obj // List.lookup (nat_lit 288) (frag.heap_1 P) = some o })) ::
  (nat_lit 289, Subtype.val (⟨_, by k_is⟩ : { o : Obj // List.lookup (nat_lit 289) (frag.heap_1 P) = some o })) ::
  (nat_lit 291, Subtype.val (⟨_, by k_is⟩ : { o : Obj // List.lookup (nat_lit 291) (frag.heap_1 P) = some o })) ::
  (nat_lit 292, Subtype.val (⟨_, by k_is⟩ : { o : Obj // List.lookup (nat_lit 292) (frag.heap_1 P) = some o })) ::
  (nat_lit 293, Subtype.val (⟨_, by k_is⟩ : { o : Obj // List.lookup (nat_lit 293) (frag.heap_1 P) = some o })) ::
  (nat_lit 304, Subtype.val (⟨_, by k_is⟩ : { o : Obj // List.lookup (nat_lit 304) (frag.heap_1 P) = some o })) ::
  (nat_lit 305, Subtype.val (⟨_, by k_is⟩ : { o : Obj // List.lookup (nat_lit 305) (frag.heap_1 P) = some o })) ::
  (nat_lit 316, Subtype.val (⟨_, by k_is⟩ : { o : Obj // List.lookup (nat_lit 316) (frag.heap_1 P) = some o })) ::
  (nat_lit 317, Subtype.val (⟨_, by k_is⟩ : { o : Obj // List.lookup (nat_lit 317) (frag.heap_1 P) = some o })) ::
  (nat_lit 328, Subtype.val (⟨_, by k_is⟩ : { o : Obj // List.lookup (nat_lit 328) (frag.heap_1 P) = some o })) ::
  (nat_lit 329, Subtype.val (⟨_, by k_is⟩ : { o : Obj // List.lookup (nat_lit 329) (frag.heap_1 P) = some o })) ::
  []
theorem fill_m1 : TwoM Mine.KM PySem.Challenge.rw_xm0674_01 := by
  k_fill
  trivial
theorem wpAny_weakenM {α : Type} {M : Model} {A A' : Around} {t : Sem α} {Q : α → Shared → Prop} {E : Value → Shared → Prop} {s : Shared} (h : wpAny M A' t Q E s) (h1 : A.handled = A'.handled) (h2 : A.depth ≤ A'.depth) (h3 : A'.frames = none)
    (h4 : A'.guards = none) (h5 : A.units ≤ A'.units) : wpAny M A t Q E s := fun Γ p hΓ =>
  h Γ p ⟨hΓ.1.trans h1, Nat.le_trans hΓ.2.1 h2, (fun l hl => by rw [h3] at hl; cases hl), (fun g hg => by rw [h4] at hg; cases hg), Nat.le_trans hΓ.2.2.2.2 h5⟩
noncomputable abbrev deepA : Around := { handled := none, depth := 900, frames := none, guards := none, units := 1000 }
structure MadeF (h h' : Heap) (e : Addr) (C : Addr) : Prop where
  keeps : ∀ b o, h.get? b = some o → h'.get? b = some o
  new : h.get? e = none
  there : ∃ t d, h'.get? e = some { cls := .ref C, dict := some d, data := .fields #[.ref t, .none, .none, .none, .bool false, .none] }
noncomputable def FaultK (C : Addr) (s : Shared) (Q : Value → Shared → Prop) : Prop := ∀ h' e tk', MadeF s.heap h' e C → Q (.ref e) { s with heap := h', toks := tk' }
theorem fault_end {C : Addr} {s : Shared} {Q : Value → Shared → Prop} {h' : Heap} {news : List (Addr × Obj)} {e t d : Addr} {tk : Nat} (hq : FaultK C s Q) (D : Mem s.heap h' [] news)
    (he : (e, ({ cls := .ref C, dict := some d, data := .fields #[.ref t, .none, .none, .none, .bool false, .none] } : Obj)) ∈ news) : Q (.ref e) ⟨h', s.gens, s.drawn, tk, s.os⟩ :=
  hq h' e tk ⟨fun b o q => D.keep b o q (by cases o.cls <;> simp [hasCls, away]), (D.nw _ he).2, t, d, (D.nw _ he).1⟩
local macro_rules | `(tactic| x_close) => `(tactic| (refine' fault_end ?a ?b ?c; (case a => assumption); (case b => assumption); (case c => k_mem)))
set_option maxHeartbeats 0 in
theorem mk_sheetM {prog : Program} {w : World} {s : Shared} {msg : Str} {t : Tok} {Q : Value → Shared → Prop} {E : Value → Shared → Prop} (X : (KM w.params).In s.heap) (hq : FaultK 329 s Q) :
    wpAny (model prog w) deepA (call (.ref 329) [.str msg t]) Q E s := by
  x_run
set_option maxHeartbeats 0 in
theorem mk_pathM {prog : Program} {w : World} {s : Shared} {msg : Str} {t : Tok} {Q : Value → Shared → Prop} {E : Value → Shared → Prop} (X : (KM w.params).In s.heap) (hq : FaultK 317 s Q) :
    wpAny (model prog w) deepA (call (.ref 317) [.str msg t]) Q E s := by
  x_run
end

section -- T1
open PySem PySem.W PyProof.Rows PySem.Calls

theorem sq_ok (x a b : Int) : IntMulOk ([x, a.fmod 2147483647].getD (Int.toNat 1) 0) b := by
  show IntMulOk (a.fmod 2147483647) b
  have h1 : 0 ≤ a.fmod 2147483647 := Int.fmod_nonneg_of_pos a (by decide)
  have h2 : a.fmod 2147483647 < 2147483647 := Int.fmod_lt_of_pos a (by decide)
  exact IntMulOk.of_left (intBits_le_64 (by omega) (by omega))

/-- what the caller of a def of the text's brings -/
structure Here (p : Program) (loose : List Str) (mean : ExcName → Option Value) (mg mb : Str → Option Value) (w : World) (dp un : Nat) (cs : Scope) (outer : List Env) (A₀ : Around) (base h₀ : Heap) (L : Addr) (m : Str → Option Value) (s : Shared) (news : List (Addr × Obj)) : Prop where
  B : Below A₀ base outer h₀
  F : Fr h₀ L s.heap m
  X : (KK w.params).In h₀
  N : News h₀ L s.heap news
  T : Top p loose mean mg mb h₀
  hk : cs.kind = .function

noncomputable abbrev src2 (src : Addr) (x y : Int) (tx ty : Tok) (n : Nat) : Addr × Obj := (src, listOf #[.int x tx, .int y ty] n)

section
variable (w : World) (p : Program) (loose : List Str) (mean : ExcName → Option Value) (mg mb : Str → Option Value)
    (dp un : Nat) (gd : Option (List Code)) (cn : Str) (cs : Scope) (a : Addr) (ccd : Value) (cl : List (Str × Addr)) (outer : List Env) (A₀ : Around) (base h₀ : Heap) (L : Addr) (m : Str → Option Value) (news : List (Addr × Obj)) (s : Shared)
    (Q E : Value → Shared → Prop) (src : Addr) (x y : Int) (tx ty : Tok) (n : Nat)


set_option maxHeartbeats 4000000 in
theorem take_ok (top : Int) (tt : Tok)
    (B : Below A₀ base outer h₀) (F : Fr h₀ L s.heap m) (X : (KK w.params).In h₀) (N : News h₀ L s.heap (src2 src x y tx ty n :: news)) (hne : ∀ q ∈ news, q.1 ≠ src)
    (T : Top p loose mean mg mb h₀) (hk : cs.kind = .function) (hx : 0 ≤ x) (hy0 : 0 ≤ y) (hy1 : y < 2147483647) (ht0 : 0 < top) (ht1 : top ≤ 16) (hd : dp + 1 < recursionLimit) (hu : un + 8 < cLine)
    (ret : ∀ k t x' tx' y' ty' n' h' tk', Fr h₀ L h' m → News h₀ L h' (src2 src x' y' tx' ty' n' :: news) → 0 ≤ x' → 0 ≤ y' → y' < 2147483647 → 0 ≤ k → k < top → Q (.int k t) { s with heap := h', toks := tk' }) :
    wpAny (model PySem.Challenge.rw_xm0674_01.prog w) (ktrTop dp un gd cn cs L a ccd cl outer) (call (.ref 1268) [.ref src, .int top tt]) Q E s := by
  k_with_none
  k_with "memR" => (first | with_reducible assumption | exact List.Mem.head _ | (refine' List.Mem.tail _ ?_; k_extra "memR"))
  k_with "memD" => (first | exact List.Mem.head _ | assumption | (refine' List.Mem.tail _ ?_; k_extra "memD"))
  k_with "mem" => (first | k_extra "memR" | k_extra "memD")
  k_with "allR" => (first | with_reducible assumption | exact List.forall_mem_nil _ | (refine' List.forall_mem_cons.mpr ⟨?a, ?b⟩; (case a => first | with_reducible assumption | k_ne); (case b => k_extra "allR")))
  k_with "all" => (first | with_reducible assumption | exact List.forall_mem_nil _ | with_reducible (first | exact aa0 (by assumption) | exact aa1 (by assumption) | exact aa2 (by assumption) | exact aa3 (by assumption) | exact aa4 (by assumption) | exact aa5 (by assumption) | exact aa6 (by assumption) | exact aa7 (by assumption) | exact ab0 (by assumption) (by assumption) | exact ab1 (by assumption) (by assumption)) | k_extra "allR" | assumption)
  k_with "cj" => (with_reducible (first | assumption | exact cj0 (by assumption) | exact cj1 (by assumption) | exact cj2 (by assumption) | exact cj3 (by assumption) | exact cj4 (by assumption) | exact cj5 (by assumption) | exact cj6 (by assumption) | exact cj7 (by assumption) | exact cj8 (by assumption) | exact cj9 (by assumption) | exact cj10 (by assumption) | exact cj11 (by assumption) | exact cj12 (by assumption) | exact cj13 (by assumption) | exact cj14 (by assumption) | exact cj15 (by assumption) | exact cj16 (by assumption) | exact cl1 (by assumption) | exact cl2 (by assumption) | exact cl3 (by assumption) | exact cl4 (by assumption) | exact cl5 (by assumption) | exact cl6 (by assumption) | exact cl7 (by assumption) | exact cl8 (by assumption) | exact cl9 (by assumption) | exact cl10 (by assumption) | exact cl11 (by assumption) | exact cl12 (by assumption) | exact cl13 (by assumption) | exact cl14 (by assumption) | exact cl15 (by assumption) | exact cl16 (by assumption) | exact ct0t0x (by assumption) | exact ct0t1x (by assumption) | exact ct0t2x (by assumption) | exact ct1t0x (by assumption) | exact ct1t1x (by assumption) | exact ct1t2x (by assumption) | exact ct2t0x (by assumption) | exact ct2t1x (by assumption) | exact ct2t2x (by assumption) | exact ct3t0x (by assumption) | exact ct3t1x (by assumption) | exact ct3t2x (by assumption) | exact ct4t0x (by assumption) | exact ct4t1x (by assumption) | exact ct4t2x (by assumption)))
  k_with "ne" => ((refine neN ?_; (try dsimp only); first | with_reducible (first | assumption | exact ngt (by assumption) | exact nlt (by assumption) | exact Ne.symm (by assumption)) | with_reducible (first | exact al0 (by assumption) | exact ar0 (by assumption) | exact al1 (by assumption) | exact ar1 (by assumption) | exact al2 (by assumption) | exact ar2 (by assumption) | exact al3 (by assumption) | exact ar3 (by assumption) | exact al4 (by assumption) | exact ar4 (by assumption) | exact al5 (by assumption) | exact ar5 (by assumption) | exact al6 (by assumption) | exact ar6 (by assumption) | exact al7 (by assumption) | exact ar7 (by assumption) | exact al8 (by assumption) | exact ar8 (by assumption) | exact al9 (by assumption) | exact ar9 (by assumption) | exact al10 (by assumption) | exact ar10 (by assumption) | exact al11 (by assumption) | exact ar11 (by assumption) | exact al12 (by assumption) | exact ar12 (by assumption) | exact al13 (by assumption) | exact ar13 (by assumption) | exact al14 (by assumption) | exact ar14 (by assumption) | exact al15 (by assumption) | exact ar15 (by assumption)) | with_reducible (first | exact at0 (by assumption) (by assumption) | exact au0 (by assumption) (by assumption) | exact at1 (by assumption) (by assumption) | exact au1 (by assumption) (by assumption) | exact at2 (by assumption) (by assumption) | exact au2 (by assumption) (by assumption) | exact at3 (by assumption) (by assumption) | exact au3 (by assumption) (by assumption) | exact at4 (by assumption) (by assumption) | exact au4 (by assumption) (by assumption) | exact at5 (by assumption) (by assumption) | exact au5 (by assumption) (by assumption) | exact at6 (by assumption) (by assumption) | exact au6 (by assumption) (by assumption) | exact at7 (by assumption) (by assumption) | exact au7 (by assumption) (by assumption)) | with_reducible (first | exact av0 (by assumption) | exact avs0 (by assumption) | exact av1 (by assumption) | exact avs1 (by assumption) | exact av2 (by assumption) | exact avs2 (by assumption) | exact av3 (by assumption) | exact avs3 (by assumption) | exact av4 (by assumption) | exact avs4 (by assumption) | exact av5 (by assumption) | exact avs5 (by assumption) | exact aw0 (by assumption) | exact aws0 (by assumption) | exact aw1 (by assumption) | exact aws1 (by assumption) | exact aw2 (by assumption) | exact aws2 (by assumption) | exact aw3 (by assumption) | exact aws3 (by assumption) | exact aw4 (by assumption) | exact aws4 (by assumption) | exact aw5 (by assumption) | exact aws5 (by assumption)) | (refine nlt ?_; k_data) | (refine ngt ?_; k_data) | k_data | (refine Ne.symm ?_; k_data) | (refine ngt1 ?_; k_data) | (refine ngt2 ?_; k_data) | (refine nlt1 ?_; k_data) | (refine nlt2 ?_; k_data) | omega))
  k_with "room" => (first | exact room_le2 (by assumption) (by exact rfl) | exact room_lt2 (by assumption) (by exact rfl) | exact room_le1 (by assumption) (by exact rfl) | exact room_lt1 (by assumption) (by exact rfl) | exact room_le3 (by assumption) (by exact rfl) | exact room_lt3 (by assumption) (by exact rfl) | exact room_ltF (by assumption) (by exact rfl) (by exact rfl))
  k_with "units" => (first | exact unit_le2 (by assumption) (by exact rfl) | exact unit_lt2 (by assumption) (by exact rfl) | exact unit_le1 (by assumption) (by exact rfl) | exact unit_lt1 (by assumption) (by exact rfl) | exact unit_le3 (by assumption) (by exact rfl) | exact unit_lt3 (by assumption) (by exact rfl) | exact unit_ltE (by assumption) (by exact rfl) (by exact rfl) | exact unit_ltF (by assumption) (by exact rfl) (by exact rfl))
  k_with "callWith ref nil nil" => (k_here; k_dflt (refine' callWith_K ?k1 ?k2 ?_; (case k1 => k_asm); (case k2 => k_is); k_whole))
  k_with "eval Name" => (k_here; k_dflt (refine' nameX_L ?F ?v ?_ ?a ?b; (case b => exact rfl); (case F => k_asm); (case a => rfl); (case v => rfl); k_whole))
  k_with "eval Name" => (k_here; k_dflt (refine' nameX_K ?F ?X ?T ?e ?_ ?a ?b; (case b => exact rfl); (case F => k_asm); (case X => k_asm); (case T => k_asm); (case a => rfl); (case e => k_is); k_whole))
  k_with "eval Name" => (k_here; k_dflt (refine' nameX_B ?F ?X ?T ?e ?v ?n ?_ ?a ?b; (case b => exact rfl); (case F => k_asm); (case X => k_asm); (case T => k_asm); (case a => rfl); (case e => k_is); (case v => boot_fast); (case n => decide); k_whole))
  k_with "subscriptTail Name Constant ref int" => (k_here; (with_reducible show wpAny _ _ (subscriptTail _ _ (Value.ref _) (Value.int _ _)) _ _ _); k_dflt (first | (refine' item_tupleT ?t ?a ?b ?c ?d ?_; (case t => first | with_reducible assumption | exact News.isTup (by k_asm) (by k_mem)); (case a => decide); (case b => decide); (case c => rfl); (case d => rfl); k_whole) | (refine' topTup_K ?F ?X ?l ?a ?b ?c ?d ?_; (case F => k_asm); (case X => k_asm); (case l => k_is); (case a => decide); (case b => decide); (case c => rfl); (case d => rfl)) | (refine' topList_K ?F ?X ?l ?a ?b ?d ?_; (case F => k_asm); (case X => k_asm); (case l => k_is); (case a => decide); (case b => decide); (case d => rfl); k_whole)))
  k_with "subscriptTail Name Constant ref int" => (k_here; (with_reducible show wpAny _ _ (subscriptTail _ _ (Value.ref _) (Value.int _ _)) _ _ _); (with_unfolding_all refine' item_litK ?k1 ?k2 ?k3 ?k4 ?_ ?k6; (case k1 => is_list); (case k2 => decide); (case k3 => decide); (case k4 => rfl); (case k6 => with_unfolding_all rfl); k_whole))
  k_with "call builtin:list.pop" => (k_here; k_dflt ((with_reducible show wpAny _ _ (call (Value.builtin _) [Value.ref _]) _ _ _); refine' kl_pop ?F ?N ?e ?U ?z ?_; (case F => k_asm); (case N => k_asm); (case U => k_upd); (case e => rfl); (case z => kl_room)); kl_rest)
  k_with "lt" => with_reducible (first | assumption | exact ll0 (by assumption) | exact ll1 (by assumption) | exact ll2 (by assumption) | exact ll3 (by assumption) | exact ll4 (by assumption) | exact ll5 (by assumption) | exact ll6 (by assumption) | exact ll7 (by assumption) | exact ll8 (by assumption) | exact ll9 (by assumption) | exact ll10 (by assumption) | exact ll11 (by assumption) | exact ll12 (by assumption) | exact ll13 (by assumption) | exact la0 (by assumption) | exact la1 (by assumption) | exact la2 (by assumption) | exact la3 (by assumption) | exact la4 (by assumption) | exact la5 (by assumption) | exact la6 (by assumption) | exact la7 (by assumption))
  k_with "keeplt" => skip
  k_with "ite" => with_reducible (first | refine ite_tt ?_ | refine ite_ff ?_)
  k_with "subscriptTail Attribute Name Name ref int" => (walk_at "last subscriptTail")
  k_with "callWith ref cons nil" => (k_here; k_dflt (refine' callWith_K ?k1 ?k2 ?_; (case k1 => k_asm); (case k2 => k_is); k_whole))
  k_with "binaryOp Mult int int" => ((with_reducible show wpAny _ _ (binaryOp _ (Value.int (List.getD [_, Int.fmod _ _] _ _) _) _) _ _ _); with_reducible refine mul_int ?_ (sq_ok _ _ _))
  refine wpAny_call ?_
  k_dflt ktr_enter
  k_steps
  · refine ret _ _ _ _ _ _ _ _ _ (by assumption) (by assumption) ?_ ?_ ?_ ?_ ?_
    · exact Int.fdiv_nonneg hx (Int.le_of_lt ht0)
    · exact hy0
    · exact hy1
    · exact Int.fmod_nonneg_of_pos _ ht0
    · exact Int.fmod_lt_of_pos _ ht0
  · refine ret _ _ _ _ _ _ _ _ _ (by assumption) (by assumption) ?_ ?_ ?_ ?_ ?_
    · exact hx
    · exact Int.fmod_nonneg_of_pos _ (by decide)
    · exact Int.fmod_lt_of_pos _ (by decide)
    · exact Int.fmod_nonneg_of_pos _ ht0
    · exact Int.fmod_lt_of_pos _ ht0
end
end

section -- T2
open PySem PySem.W PyProof.Rows PySem.Calls

structure Pool (x y : Int) : Prop where
  x0 : 0 ≤ x
  y0 : 0 ≤ y
  y1 : y < 2147483647

theorem updF_split {h₀ h : Heap} {L : Addr} {d : Addr} {o : Obj} {led : List (Addr × Obj)} {g : Obj → List (Addr × Obj)} (U : UpdF d o led g) :
    ∃ rest : List (Addr × Obj), (∀ q ∈ rest, q.1 ≠ d) ∧ (∀ h, News h₀ L h led → News h₀ L h ((d, o) :: rest)) ∧ ∀ h o', News h₀ L h ((d, o') :: rest) → News h₀ L h (g o') := by
  obtain ⟨pre, post, e1, e2, h1, h2⟩ := U.split
  refine ⟨pre ++ post, ?_, ?_, ?_⟩
  · intro q hq
    rcases List.mem_append.mp hq with hq | hq
    · exact h1 q hq
    · exact h2 q hq
  · intro h N q hq
    subst e1
    refine N q ?_
    rcases List.mem_cons.mp hq with rfl | hq
    · exact List.mem_append.mpr (.inr (.head _))
    · rcases List.mem_append.mp hq with hq | hq
      · exact List.mem_append.mpr (.inl hq)
      · exact List.mem_append.mpr (.inr (.tail _ hq))
  · intro h o' N q hq
    rw [e2] at hq
    refine N q ?_
    rcases List.mem_append.mp hq with hq | hq
    · exact .tail _ (List.mem_append.mpr (.inl hq))
    · rcases List.mem_cons.mp hq with rfl | hq
      · exact .head _
      · exact .tail _ (List.mem_append.mpr (.inr hq))

theorem updF_keep {d : Addr} {o : Obj} {led : List (Addr × Obj)} {g : Obj → List (Addr × Obj)} (U : UpdF d o led g) {q : Addr × Obj} (h : q ∈ led) (hn : q.1 ≠ d) : ∀ o', q ∈ g o' := by
  obtain ⟨pre, post, e1, e2, _, _⟩ := U.split
  intro o'
  subst e1
  rw [e2]
  rcases List.mem_append.mp h with h | h
  · exact List.mem_append.mpr (.inl h)
  · rcases List.mem_cons.mp h with rfl | h
    · exact absurd rfl hn
    · exact List.mem_append.mpr (.inr (.tail _ h))

section
variable (w : World) (p : Program) (loose : List Str) (mean : ExcName → Option Value) (mg mb : Str → Option Value)
    (dp un : Nat) (gd : Option (List Code)) (cn : Str) (cs : Scope) (a : Addr) (ccd : Value) (cl : List (Str × Addr)) (outer : List Env) (A₀ : Around) (base h₀ : Heap) (L : Addr) (m : Str → Option Value) (led : List (Addr × Obj)) (s : Shared)
    (Q E : Value → Shared → Prop) (src : Addr) (x y : Int) (tx ty : Tok) (n : Nat) (g : Obj → List (Addr × Obj))

noncomputable abbrev pool (x y : Int) (tx ty : Tok) (n : Nat) : Obj := listOf #[.int x tx, .int y ty] n

theorem take_F (top : Int) (tt : Tok)
    (B : Below A₀ base outer h₀) (F : Fr h₀ L s.heap m) (X : (KK w.params).In h₀) (N : News h₀ L s.heap led) (U : UpdF src (pool x y tx ty n) led g)
    (T : Top p loose mean mg mb h₀) (hk : cs.kind = .function) (hx : Pool x y) (ht0 : 0 < top) (ht1 : top ≤ 16) (hd : dp + 1 < recursionLimit) (hu : un + 8 < cLine)
    (ret : ∀ k t x' tx' y' ty' n' h' tk', Fr h₀ L h' m → News h₀ L h' (g (pool x' y' tx' ty' n')) → Pool x' y' → 0 ≤ k → k < top → Q (.int k t) { s with heap := h', toks := tk' }) :
    wpAny (model PySem.Challenge.rw_xm0674_01.prog w) (ktrTop dp un gd cn cs L a ccd cl outer) (call (.ref 1268) [.ref src, .int top tt]) Q E s := by
  obtain ⟨rest, h1, h2, h3⟩ := updF_split (h₀ := h₀) (h := s.heap) (L := L) U
  exact take_ok w p loose mean mg mb dp un gd cn cs a ccd cl outer A₀ base h₀ L m rest s Q E src x y tx ty n top tt B F X (h2 _ N) h1 T hk hx.x0 hx.y0 hx.y1 ht0 ht1 hd hu
    fun k t x' tx' y' ty' n' h' tk' F' N' a1 a2 a3 a4 a5 => ret k t x' tx' y' ty' n' h' tk' F' (h3 _ _ N') ⟨a1, a2, a3⟩ a4 a5


theorem item_any {prog : Program} {w : World} {A : Around} {E : Value → Shared → Prop} {s : Shared} {value slice : PySem.Expr} {l : Addr} {vs : List Value} {k : Int} {u : Tok} {Q : Value → Shared → Prop} (hl : s.heap.IsList l vs.toArray)
    (h0 : 0 ≤ k) (h1 : k < (vs.toArray.size : Int)) (hs : vs.length ≤ 16) (h : ∀ v, v ∈ vs → Q v s)
    (ho : subscripted slice false (.ref l) (.int k u) = operate [.ref l, .int k u] (getItem (.ref l) (.int k u)) := by with_unfolding_all rfl) (hg : ∀ r, letTemporaryGo value (.ref l) r = pure () := by intro _; with_unfolding_all rfl) :
    wpAny (model prog w) A (subscriptTail value slice (.ref l) (.int k u)) Q E s := by
  have e : (vs.toArray.size : Int) = (vs.length : Int) := by simp
  have hk : k.toNat < vs.length := by omega
  refine PyProof.Rows.item_list (x := vs[k.toNat]) hl h0 (by omega) (by simp [hk]) (h _ (List.getElem_mem hk)) ho hg

set_option maxHeartbeats 4000000 in
theorem one_F (vs : List Value) (lst : Addr) (nl : Nat)
    (B : Below A₀ base outer h₀) (F : Fr h₀ L s.heap m) (X : (KK w.params).In h₀) (N : News h₀ L s.heap led) (U : UpdF src (pool x y tx ty n) led g) (hl : (lst, listOf vs.toArray nl) ∈ led) (hls : lst ≠ src)
    (T : Top p loose mean mg mb h₀) (hk : cs.kind = .function) (hx : Pool x y) (ht0 : 0 < vs.length) (ht1 : vs.length ≤ 16) (hd : dp + 2 < recursionLimit) (hu : un + 16 < cLine)
    (ret : ∀ v x' tx' y' ty' n' h' tk', v ∈ vs → Fr h₀ L h' m → News h₀ L h' (g (pool x' y' tx' ty' n')) → Pool x' y' → Q v { s with heap := h', toks := tk' }) :
    wpAny (model PySem.Challenge.rw_xm0674_01.prog w) (ktrTop dp un gd cn cs L a ccd cl outer) (call (.ref 1275) [.ref src, .ref lst]) Q E s := by
  k_with_none
  k_with "memR" => (first | with_reducible assumption | exact List.Mem.head _ | (refine' List.Mem.tail _ ?_; k_extra "memR"))
  k_with "memD" => (first | exact List.Mem.head _ | assumption | (refine' List.Mem.tail _ ?_; k_extra "memD"))
  k_with "mem" => (first | k_extra "memR" | k_extra "memD")
  k_with "allR" => (first | with_reducible assumption | exact List.forall_mem_nil _ | (refine' List.forall_mem_cons.mpr ⟨?a, ?b⟩; (case a => first | with_reducible assumption | k_ne); (case b => k_extra "allR")))
  k_with "all" => (first | with_reducible assumption | exact List.forall_mem_nil _ | with_reducible (first | exact aa0 (by assumption) | exact aa1 (by assumption) | exact aa2 (by assumption) | exact aa3 (by assumption) | exact aa4 (by assumption) | exact aa5 (by assumption) | exact aa6 (by assumption) | exact aa7 (by assumption) | exact ab0 (by assumption) (by assumption) | exact ab1 (by assumption) (by assumption)) | k_extra "allR" | assumption)
  k_with "cj" => (with_reducible (first | assumption | exact cj0 (by assumption) | exact cj1 (by assumption) | exact cj2 (by assumption) | exact cj3 (by assumption) | exact cj4 (by assumption) | exact cj5 (by assumption) | exact cj6 (by assumption) | exact cj7 (by assumption) | exact cj8 (by assumption) | exact cj9 (by assumption) | exact cj10 (by assumption) | exact cj11 (by assumption) | exact cj12 (by assumption) | exact cj13 (by assumption) | exact cj14 (by assumption) | exact cj15 (by assumption) | exact cj16 (by assumption) | exact cl1 (by assumption) | exact cl2 (by assumption) | exact cl3 (by assumption) | exact cl4 (by assumption) | exact cl5 (by assumption) | exact cl6 (by assumption) | exact cl7 (by assumption) | exact cl8 (by assumption) | exact cl9 (by assumption) | exact cl10 (by assumption) | exact cl11 (by assumption) | exact cl12 (by assumption) | exact cl13 (by assumption) | exact cl14 (by assumption) | exact cl15 (by assumption) | exact cl16 (by assumption) | exact ct0t0x (by assumption) | exact ct0t1x (by assumption) | exact ct0t2x (by assumption) | exact ct1t0x (by assumption) | exact ct1t1x (by assumption) | exact ct1t2x (by assumption) | exact ct2t0x (by assumption) | exact ct2t1x (by assumption) | exact ct2t2x (by assumption) | exact ct3t0x (by assumption) | exact ct3t1x (by assumption) | exact ct3t2x (by assumption) | exact ct4t0x (by assumption) | exact ct4t1x (by assumption) | exact ct4t2x (by assumption)))
  k_with "ne" => ((refine neN ?_; (try dsimp only); first | with_reducible (first | assumption | exact ngt (by assumption) | exact nlt (by assumption) | exact Ne.symm (by assumption)) | with_reducible (first | exact al0 (by assumption) | exact ar0 (by assumption) | exact al1 (by assumption) | exact ar1 (by assumption) | exact al2 (by assumption) | exact ar2 (by assumption) | exact al3 (by assumption) | exact ar3 (by assumption) | exact al4 (by assumption) | exact ar4 (by assumption) | exact al5 (by assumption) | exact ar5 (by assumption) | exact al6 (by assumption) | exact ar6 (by assumption) | exact al7 (by assumption) | exact ar7 (by assumption) | exact al8 (by assumption) | exact ar8 (by assumption) | exact al9 (by assumption) | exact ar9 (by assumption) | exact al10 (by assumption) | exact ar10 (by assumption) | exact al11 (by assumption) | exact ar11 (by assumption) | exact al12 (by assumption) | exact ar12 (by assumption) | exact al13 (by assumption) | exact ar13 (by assumption) | exact al14 (by assumption) | exact ar14 (by assumption) | exact al15 (by assumption) | exact ar15 (by assumption)) | with_reducible (first | exact at0 (by assumption) (by assumption) | exact au0 (by assumption) (by assumption) | exact at1 (by assumption) (by assumption) | exact au1 (by assumption) (by assumption) | exact at2 (by assumption) (by assumption) | exact au2 (by assumption) (by assumption) | exact at3 (by assumption) (by assumption) | exact au3 (by assumption) (by assumption) | exact at4 (by assumption) (by assumption) | exact au4 (by assumption) (by assumption) | exact at5 (by assumption) (by assumption) | exact au5 (by assumption) (by assumption) | exact at6 (by assumption) (by assumption) | exact au6 (by assumption) (by assumption) | exact at7 (by assumption) (by assumption) | exact au7 (by assumption) (by assumption)) | with_reducible (first | exact av0 (by assumption) | exact avs0 (by assumption) | exact av1 (by assumption) | exact avs1 (by assumption) | exact av2 (by assumption) | exact avs2 (by assumption) | exact av3 (by assumption) | exact avs3 (by assumption) | exact av4 (by assumption) | exact avs4 (by assumption) | exact av5 (by assumption) | exact avs5 (by assumption) | exact aw0 (by assumption) | exact aws0 (by assumption) | exact aw1 (by assumption) | exact aws1 (by assumption) | exact aw2 (by assumption) | exact aws2 (by assumption) | exact aw3 (by assumption) | exact aws3 (by assumption) | exact aw4 (by assumption) | exact aws4 (by assumption) | exact aw5 (by assumption) | exact aws5 (by assumption)) | (refine nlt ?_; k_data) | (refine ngt ?_; k_data) | k_data | (refine Ne.symm ?_; k_data) | (refine ngt1 ?_; k_data) | (refine ngt2 ?_; k_data) | (refine nlt1 ?_; k_data) | (refine nlt2 ?_; k_data) | omega))
  k_with "room" => (first | exact room_le2 (by assumption) (by exact rfl) | exact room_lt2 (by assumption) (by exact rfl) | exact room_le1 (by assumption) (by exact rfl) | exact room_lt1 (by assumption) (by exact rfl) | exact room_le3 (by assumption) (by exact rfl) | exact room_lt3 (by assumption) (by exact rfl) | exact room_ltF (by assumption) (by exact rfl) (by exact rfl))
  k_with "units" => (first | exact unit_le2 (by assumption) (by exact rfl) | exact unit_lt2 (by assumption) (by exact rfl) | exact unit_le1 (by assumption) (by exact rfl) | exact unit_lt1 (by assumption) (by exact rfl) | exact unit_le3 (by assumption) (by exact rfl) | exact unit_lt3 (by assumption) (by exact rfl) | exact unit_ltE (by assumption) (by exact rfl) (by exact rfl) | exact unit_ltF (by assumption) (by exact rfl) (by exact rfl))
  k_with "callWith ref nil nil" => (k_here; k_dflt (refine' callWith_K ?k1 ?k2 ?_; (case k1 => k_asm); (case k2 => k_is); k_whole))
  k_with "eval Name" => (k_here; k_dflt (refine' nameX_L ?F ?v ?_ ?a ?b; (case b => exact rfl); (case F => k_asm); (case a => rfl); (case v => rfl); k_whole))
  k_with "eval Name" => (k_here; k_dflt (refine' nameX_K ?F ?X ?T ?e ?_ ?a ?b; (case b => exact rfl); (case F => k_asm); (case X => k_asm); (case T => k_asm); (case a => rfl); (case e => k_is); k_whole))
  k_with "eval Name" => (k_here; k_dflt (refine' nameX_B ?F ?X ?T ?e ?v ?n ?_ ?a ?b; (case b => exact rfl); (case F => k_asm); (case X => k_asm); (case T => k_asm); (case a => rfl); (case e => k_is); (case v => boot_fast); (case n => decide); k_whole))
  k_with "subscriptTail Name Constant ref int" => (k_here; (with_reducible show wpAny _ _ (subscriptTail _ _ (Value.ref _) (Value.int _ _)) _ _ _); k_dflt (first | (refine' item_tupleT ?t ?a ?b ?c ?d ?_; (case t => first | with_reducible assumption | exact News.isTup (by k_asm) (by k_mem)); (case a => decide); (case b => decide); (case c => rfl); (case d => rfl); k_whole) | (refine' topTup_K ?F ?X ?l ?a ?b ?c ?d ?_; (case F => k_asm); (case X => k_asm); (case l => k_is); (case a => decide); (case b => decide); (case c => rfl); (case d => rfl)) | (refine' topList_K ?F ?X ?l ?a ?b ?d ?_; (case F => k_asm); (case X => k_asm); (case l => k_is); (case a => decide); (case b => decide); (case d => rfl); k_whole)))
  k_with "subscriptTail Name Constant ref int" => (k_here; (with_reducible show wpAny _ _ (subscriptTail _ _ (Value.ref _) (Value.int _ _)) _ _ _); (with_unfolding_all refine' item_litK ?k1 ?k2 ?k3 ?k4 ?_ ?k6; (case k1 => is_list); (case k2 => decide); (case k3 => decide); (case k4 => rfl); (case k6 => with_unfolding_all rfl); k_whole))
  k_with "call builtin:list.pop" => (k_here; k_dflt ((with_reducible show wpAny _ _ (call (Value.builtin _) [Value.ref _]) _ _ _); refine' kl_pop ?F ?N ?e ?U ?z ?_; (case F => k_asm); (case N => k_asm); (case U => k_upd); (case e => rfl); (case z => kl_room)); kl_rest)
  k_with "lt" => with_reducible (first | assumption | exact ll0 (by assumption) | exact ll1 (by assumption) | exact ll2 (by assumption) | exact ll3 (by assumption) | exact ll4 (by assumption) | exact ll5 (by assumption) | exact ll6 (by assumption) | exact ll7 (by assumption) | exact ll8 (by assumption) | exact ll9 (by assumption) | exact ll10 (by assumption) | exact ll11 (by assumption) | exact ll12 (by assumption) | exact ll13 (by assumption) | exact la0 (by assumption) | exact la1 (by assumption) | exact la2 (by assumption) | exact la3 (by assumption) | exact la4 (by assumption) | exact la5 (by assumption) | exact la6 (by assumption) | exact la7 (by assumption))
  k_with "keeplt" => skip
  k_with "ite" => with_reducible (first | refine ite_tt ?_ | refine ite_ff ?_)
  k_with "subscriptTail Attribute Name Name ref int" => (walk_at "last subscriptTail")
  k_with "callWith ref cons nil" => (k_here; k_dflt (refine' callWith_K ?k1 ?k2 ?_; (case k1 => k_asm); (case k2 => k_is); k_whole))
  k_with "call ref" => (k_here; (with_reducible show wpAny _ _ (call (Value.ref 1268) _) _ _ _); k_dflt (refine' take_F _ _ _ _ _ _ _ _ _ _ _ _ _ _ _ _ _ _ _ _ _ _ _ _ _ _ _ _ _ _ _ _ _ ?k1 ?k2 ?k3 ?k4 ?k5 ?k6 ?k7 ?k8 ?k9 ?k10 ?k11 ?k12 ?_; (case k1 => k_asm); (case k2 => k_asm); (case k3 => k_asm); (case k4 => k_asm); (case k5 => first | assumption | k_updF); (case k6 => k_asm); (case k7 => first | exact rfl | assumption); (case k8 => assumption); (case k9 => first | with_reducible assumption | decide | omega); (case k10 => first | with_reducible assumption | decide | omega); (case k11 => ktr_room); (case k12 => ktr_units); intro k' t' x' tx' y' ty' n' h' tk' F' N' P' hk0' hk1'; (try dsimp only at N'); (try dsimp only); (try k_fold)))
  k_with "call builtin:len" => (k_here; k_dflt (refine' len_list (News.isList ?k1 ?k2) ?k3 ?_; (case k1 => k_asm); (case k2 => assumption); (case k3 => with_reducible assumption)))
  have hmem : ∀ o', (lst, listOf vs.toArray nl) ∈ g o' := updF_keep U hl hls
  have hz : (vs.toArray.size : Int) < 2 ^ 63 := by simp; omega
  have hz0 : 0 < (vs.toArray.size : Int) := by simp; omega
  have hz1 : (vs.toArray.size : Int) ≤ 16 := by simp; omega
  refine wpAny_call ?_
  k_dflt ktr_enter
  k_steps
  refine item_any (News.isList N' (hmem _)) hk0' hk1' ht1 (fun v hv => ?_)
  k_steps
  exact ret _ _ _ _ _ _ _ _ hv (by assumption) (by assumption) P'
end
end

section -- T4
open PySem PySem.W PyProof.Rows PySem.Calls
set_option maxHeartbeats 0 in
theorem ob0_is (P : Params) : List.lookup (nat_lit 0) (KK P) = some (ob0 P) := by
  with_unfolding_all exact (by kernel_rfl)
set_option maxHeartbeats 0 in
theorem ob3_is (P : Params) : List.lookup (nat_lit 3) (KK P) = some (ob3 P) := by
  kernel_rfl
set_option maxHeartbeats 0 in
theorem km_in {P : Params} {h : Heap} (X : (KK P).In h) : (KM P).In h := by
  refine Frag.in_of (as := [nat_lit 0, nat_lit 3, nat_lit 2, nat_lit 288, nat_lit 289, nat_lit 291, nat_lit 292, nat_lit 293, nat_lit 304, nat_lit 305, nat_lit 316, nat_lit 317, nat_lit 328, nat_lit 329]) (by kernel_rfl) ?_
  have e : ∀ {a : Addr} {o : Obj}, List.lookup a (KK P) = some o → h.get? a = some o := fun e => X _ _ e
  show [h.get? 0, h.get? 3, h.get? 2, h.get? 288, h.get? 289, h.get? 291, h.get? 292, h.get? 293, h.get? 304, h.get? 305, h.get? 316, h.get? 317, h.get? 328, h.get? 329] = _
  rw [e (ob0_is P), e (ob3_is P)]
  rw [X (nat_lit 2) _ (by k_is), X (nat_lit 288) _ (by k_is), X (nat_lit 289) _ (by k_is), X (nat_lit 291) _ (by k_is), X (nat_lit 292) _ (by k_is), X (nat_lit 293) _ (by k_is), X (nat_lit 304) _ (by k_is), X (nat_lit 305) _ (by k_is), X (nat_lit 316) _ (by k_is), X (nat_lit 317) _ (by k_is), X (nat_lit 328) _ (by k_is), X (nat_lit 329) _ (by k_is)]
  kernel_rfl
theorem mk_sheet {w : World} {s : Shared} {msg : Str} {t : Tok} {Q : Value → Shared → Prop} {E : Value → Shared → Prop} (X : (KK w.params).In s.heap) (hq : FaultK 329 s Q) :
    wpAny (model PySem.Challenge.rw_xm0674_01.prog w) deepA (call (.ref 329) [.str msg t]) Q E s := mk_sheetM (km_in X) hq
theorem mk_path {w : World} {s : Shared} {msg : Str} {t : Tok} {Q : Value → Shared → Prop} {E : Value → Shared → Prop} (X : (KK w.params).In s.heap) (hq : FaultK 317 s Q) :
    wpAny (model PySem.Challenge.rw_xm0674_01.prog w) deepA (call (.ref 317) [.str msg t]) Q E s := mk_pathM (km_in X) hq
theorem wpAny_weaken {α : Type} {M : Model} {A A' : Around} {t : Sem α} {Q : α → Shared → Prop} {E : Value → Shared → Prop} {s : Shared} (h : wpAny M A' t Q E s) (h1 : A.handled = A'.handled) (h2 : A.depth ≤ A'.depth) (h3 : A'.frames = none)
    (h4 : A'.guards = none) (h5 : A.units ≤ A'.units) : wpAny M A t Q E s := wpAny_weakenM h h1 h2 h3 h4 h5
end

section -- F1
open PySem PySem.W PyProof.Rows PySem.Calls PySem.Spec

noncomputable abbrev faultTail : List Value := [.ref 292, .type "Exception", .type "BaseException", .type "object"]
/-- the class of a fault of the text's, as the written heap has it -/
noncomputable def IsFault (C : Addr) (h : Heap) : Prop := ∃ nm q N bs hdct sn sub ab col dd k0 k1 k2 k3 k5, h.get? C = some (excClassObj nm q C N bs faultTail hdct sn sub ab col dd k0 k1 k2 k3 k5 "Exception.__new__")
theorem isFault_329 {w : World} {h : Heap} (X : (KK w.params).In h) : IsFault 329 h := ⟨_, _, _, _, _, _, _, _, _, _, _, _, _, _, _, X 329 _ (by k_is)⟩
theorem isFault_317 {w : World} {h : Heap} (X : (KK w.params).In h) : IsFault 317 h := ⟨_, _, _, _, _, _, _, _, _, _, _, _, _, _, _, X 317 _ (by k_is)⟩

noncomputable abbrev faultObj (C t d : Addr) : Obj := { cls := .ref C, dict := some d, data := .fields #[.ref t, .none, .none, .none, .bool false, .none] }

noncomputable def RaisableF (E : Value → Shared → Prop) (v : Value) (s₁ : Shared) : Prop := ∃ C a t d, v = .ref a ∧ IsFault C s₁.heap ∧ s₁.heap.get? a = some (faultObj C t d) ∧ E (.ref a) s₁

theorem raise_stmtF {M : Model} {A : Around} {E : Value → Shared → Prop} {env : Env} {s : Shared} {x : Sem Value} {Q : Flow → Shared → Prop} (hh : A.handled = none) (h : wpAny M A x (RaisableF E) E s) :
    wpAny M A (raiseStmt env (some x) none) Q E s := by
  unfold raiseStmt
  refine wpAny_bind (wpAny_mono h (fun v s₁ h₁ => ?_) fun _ _ x => x)
  obtain ⟨C, a, t, d, rfl, hF, he, hE⟩ := h₁
  obtain ⟨nm, q, N, bs, hdct, sn, sub, ab, col, dd, k0, k1, k2, k3, k5, hC⟩ := hF
  have hcB : (Value.ref C :: faultTail).contains (.type "BaseException") = true := by
    rw [List.contains_cons]
    rw [show faultTail.contains (Value.type "BaseException") = true from by decide]
    exact Bool.or_true _
  obtain ⟨hp, g, d', tk, os⟩ := s₁
  repeat (first | with_reducible refine wpAny_loadPart_at he ?_ | with_reducible refine wpAny_loadPart_at hC ?_ | (with_reducible refine wpAny_isSubtype_exc hC ?_; rw [hcB]) | wp_step)
  exact wpAny_raiseNew_none hh hE

theorem raise_F {M : Model} {A : Around} {E : Value → Shared → Prop} {env : Env} {s : Shared} {e : PySem.Expr} {pos : Pos} {Q : Flow → Shared → Prop} (hh : A.handled = none) (h : wpAny M A (eval e env) (RaisableF E) E s) :
    wpAny M A (exec (.Raise (some e) none pos) env) Q E s := by
  rw [arm_exec_Raise]
  exact wpAny_bind (wpAny_standAt (raise_stmtF hh (wpAny_bind (wpAny_mono h (fun v s₃ h₃ => wpAny_bind (wpAny_standAt (wpAny_pure h₃))) fun _ _ x => x))))

theorem raisableF_of {E : Value → Shared → Prop} {C e : Addr} {h : Heap} {s₁ : Shared} (hm : MadeF h s₁.heap e C) (hF : IsFault C s₁.heap) (hE : E (.ref e) s₁) : RaisableF E (.ref e) s₁ := by
  obtain ⟨t, d, he⟩ := hm.there
  exact ⟨C, e, t, d, rfl, hF, he, hE⟩

noncomputable def RaisedF (base : Heap) (l : List Env) (e : Addr) (cls a0 : Value) (news : List (Addr × Obj)) (h : Heap) : Prop :=
  ∃ B, base.StaysIn B ∧ (∀ q ∈ news, B.get? q.1 = some q.2 ∧ base.get? q.1 = none) ∧ Heap.FlyingW B l e cls a0 h

section
variable {M : Model} {A : Around} {E : Value → Shared → Prop} {s' : Shared} {base g h : Heap} {outer : List Env} {L a e : Addr} {m : Str → Option Value} {name : Str} {scope : Scope} {cd : Value} {Q : Unit → Shared → Prop} {news : List (Addr × Obj)}
theorem leave_F {C : Addr} (K : Below A base outer g) (hx : MadeF h s'.heap e C) (F : Fr g L h m) (N : News g L h news)
    (hQ : ∀ h' a0, RaisedF base outer e (.ref C) a0 news h' → g.UpToSlots h' → Q () { s' with heap := h' }) (hk : scope.kind = .function := by rfl) :
    wpAny M (A.deeper (envOf name scope L a cd)) (leaving (envOf name scope L a cd) (.ref e)) Q E s' := by
  have K' := K.push (name := name) (a := a) (cd := cd) F hk
  obtain ⟨t, d, he⟩ := hx.there
  have hin : ∀ env ∈ (envOf name scope L a cd :: outer), ∀ b, env.frame = some b → b ∈ (envOf name scope L a cd :: outer).filterMap (·.frame) := fun env he b hb => List.mem_filterMap.mpr ⟨env, he, hb⟩
  have st : base.StaysIn (hideAll h ((envOf name scope L a cd :: outer).filterMap (·.frame))) := fun b o q => hideAll_get _ (K'.stays b o q) fun hm => by
    rw [(K'.frames.mem hm).1] at q; cases q
  have hl : ∀ q ∈ news, (hideAll h ((envOf name scope L a cd :: outer).filterMap (·.frame))).get? q.1 = some q.2 ∧ base.get? q.1 = none := fun q hq => by
    refine ⟨hideAll_get _ (N q hq).1 fun hm => ?_, fresh_of_stays K.stays (N q hq).2.2⟩
    obtain ⟨env, he, hf⟩ := List.mem_filterMap.mp hm
    rcases List.mem_cons.mp he with rfl | he
    · exact (N q hq).2.1 (Option.some.inj hf).symm
    · obtain ⟨o, ho, _⟩ := (K'.frames.mem (List.mem_filterMap.mpr ⟨env, .tail _ he, hf⟩)).2
      exact absurd (by
        obtain ⟨o', ho', _⟩ := (K.frames.mem (List.mem_filterMap.mpr ⟨env, he, hf⟩)).2
        rw [(N q hq).2.2] at ho'; cases ho') (fun z : False => z)
  have hkeep : (hideAll h ((envOf name scope L a cd :: outer).filterMap (·.frame))).StaysIn s'.heap := fun b o q => hx.keeps b o (of_hideAll _ q)
  have hfr : s'.heap.FunFrames (hideAll h ((envOf name scope L a cd :: outer).filterMap (·.frame))) (envOf name scope L a cd :: outer) :=
    (funFrames_hide K'.frames hin).of_keeps fun b o hb _ => ⟨o, hx.keeps b o hb, rfl⟩
  have hnone : (hideAll h ((envOf name scope L a cd :: outer).filterMap (·.frame))).get? e = none := by
    cases q : (hideAll h ((envOf name scope L a cd :: outer).filterMap (·.frame))).get? e with
    | none => rfl
    | some o => have := of_hideAll _ q; rw [hx.new] at this; cases this
  refine wpAny_leaving_firstW (a0 := .ref t) K'.stack hfr rfl he hkeep hnone rfl rfl rfl fun h' hL => ?_
  obtain ⟨k1, ⟨_, _, k2⟩, k3, k4⟩ := hL
  exact hQ h' _ ⟨_, st, hl, k1, hnone, k2, k3⟩ (((Heap.UpToSlots.of_keeps F.keep).trans (Heap.UpToSlots.of_keeps hx.keeps)).trans k4)
end

section
variable {prog : Program} {w : World} {A₀ : Around} {E : Value → Shared → Prop} {s' : Shared} {h₀ h : Heap} {outer : List Env} {L a e : Addr} {m : Str → Option Value} {name : Str} {scope : Scope} {cd : Value}
  {b₀ : Stmt} {suite : List Stmt} {pos np : Pos} {rest : List ExceptHandler} {Q : Flow → Shared → Prop} {news : List (Addr × Obj)} {KF : Frag} {C : Addr} {a0 : Value}
  {p : Program} {loose : List Str} {mean : ExcName → Option Value} {mg mb : Str → Option Value} {x : Str}
theorem caught_F (K : Below A₀ h₀ outer h₀) (F : Fr h₀ L h m) (hsm : h.UpToSlots s'.heap) (R : RaisedF h₀ (envOf name scope L a cd :: outer) e (.ref C) a0 news s'.heap)
    (X : KF.In h₀) (T : TopRead p loose mg mb h₀) (ex : nsIn KF mainGlobals x = some (some (.ref C))) (hF : IsFault C h₀)
    (k : ∀ h', Fr h₀ L h' m → News h₀ L h' news →
      wpAny (model prog w) ((A₀.deeper (envOf name scope L a cd)).mark (some (.ref e))) (execs (b₀ :: suite) (envOf name scope L a cd)) Q E { s' with heap := h' })
    (hk : scope.kind = .function := by rfl) (hx : (envOf name scope L a cd).kindOf x = some .globalImplicit := by rfl) (hd : (x == ("__debug__" : Str)) = false := by decide)
    (hE : PassesOwnAt (model prog w) ((A₀.deeper (envOf name scope L a cd)).mark (some (.ref e))) (A₀.deeper (envOf name scope L a cd)) (envOf name scope L a cd) E := by passes_own) :
    wpAny (model prog w) (A₀.deeper (envOf name scope L a cd)) (noteFrame (.ref e) (envOf name scope L a cd))
      (fun _ s₂ => wpAny (model prog w) (A₀.deeper (envOf name scope L a cd)) (setFlight (.ref e) none) (fun _ s₃ =>
        wpAny (model prog w) (A₀.deeper (envOf name scope L a cd)) (handleBy (.ref e) (envOf name scope L a cd) (.ExceptHandler (some (.Name x np)) none (b₀ :: suite) pos :: rest)) Q E s₃) E s₂) E s' := by
  obtain ⟨B, hB, hl, hfl⟩ := R
  have hL : B.get? L = none := by
    obtain ⟨_, ⟨L', _, hf, hn', _⟩, _⟩ := hfl.2.2.1
    obtain rfl : L = L' := Option.some.inj hf
    exact hn'
  refine wpAny_looks_onW (Around.frames_deeper K.stack) rfl hfl fun h₄ hheld₄ hsm₄ => ?_
  refine wpAny_landsW hheld₄ fun h₅ hheld hsm₅' => ?_
  have hsm₅ := hsm₄.trans hsm₅'
  have hheld' := flyingW_base hB hheld
  have F₅ := F.of_stays hheld'.1 (hsm.trans hsm₅)
  obtain ⟨ob, hob, hobc⟩ := hheld'.there
  refine wpAny_handleBy_cons (codeAny_handlers_test (name_K F₅ X T ex ?_ hk hx hd)) (by intro q; cases q)
  obtain ⟨nm, q, N, bs, hdct, sn, sub, ab, col, dd, k0, k1, k2, k3, k5, hC⟩ := hF
  refine wpAny_excMatches_sub_self (F₅.keep _ _ hC) hob hobc (by decide) (codeAny_handlers_suite ?_)
  refine lands_againW hheld fun h₆ hfl₆ hsm₆ => ?_
  have hfl₆' := flyingW_base hB hfl₆
  have F₆ := F.of_stays hfl₆'.1 ((hsm.trans hsm₅).trans hsm₆)
  exact wpAny_passesOwnAt hE (k h₆ F₆ fun q hq => ⟨hfl₆.1 _ _ (hl q hq).1, (fun z => by have := (hl q hq).1; rw [z, hL] at this; cases this), (hl q hq).2⟩)
end
end

section -- U1
open PySem PySem.W PyProof.Rows PySem.Calls PySem.Spec

noncomputable abbrev frs (l : List Env) : List Addr := l.filterMap (·.frame)

structure UpFr (l : List Addr) (g g' : Heap) : Prop where
  size : g'.objs.size = g.objs.size
  same : ∀ b, b ∉ l → g'.get? b = g.get? b
  up : ∀ b ∈ l, ∀ o, g.get? b = some o → ∃ sl, g'.get? b = some { o with slots := sl }
  none : ∀ b, g.get? b = none → g'.get? b = none
theorem UpFr.refl {l : List Addr} {g : Heap} : UpFr l g g := ⟨rfl, fun _ _ => rfl, fun _ _ o e => ⟨o.slots, e⟩, fun _ e => e⟩
theorem UpFr.trans {l : List Addr} {g g' g'' : Heap} (x : UpFr l g g') (y : UpFr l g' g'') : UpFr l g g'' := by
  refine ⟨y.size.trans x.size, fun b hb => (y.same b hb).trans (x.same b hb), fun b hb o e => ?_, fun b e => y.none b (x.none b e)⟩
  obtain ⟨sl, e1⟩ := x.up b hb o e
  obtain ⟨sl2, e2⟩ := y.up b hb _ e1
  exact ⟨sl2, e2⟩
theorem not_freed {h : Heap} {a : Addr} {o : Obj} (e : h.get? a = some o) : o.isFreed = false := by
  unfold Heap.get? at e
  split at e
  · cases e
  · rename_i hn
    obtain ⟨c, d, dt, sl⟩ := o
    cases dt <;> first | rfl | exact absurd e (hn _ _ _)
theorem slots_freed {o : Obj} {sl : Array (Option Value)} (h : o.isFreed = false) : ({ o with slots := sl } : Obj).isFreed = false := by
  obtain ⟨c, d, dt, s⟩ := o
  cases dt <;> first | rfl | exact h

theorem rebase {h : Heap} : ∀ (l : List Addr) (g : Heap), (∀ b ∈ l, ∀ o, g.get? b = some o → ∃ sl, h.get? b = some { o with slots := sl }) →
    ∃ g', UpFr l g g' ∧ ∀ b ∈ l, ∀ o, g'.get? b = some o → h.get? b = some o
  | [], g, _ => ⟨g, UpFr.refl, fun _ hb => nomatch hb⟩
  | a :: r, g, hup => by
    obtain ⟨g1, U1, k1⟩ := rebase r g fun b hb => hup b (.tail _ hb)
    cases q : g1.get? a with
    | none =>
      refine ⟨g1, ⟨U1.size, fun b hb => U1.same b fun z => hb (.tail _ z), fun b hb o e => ?_, U1.none⟩, fun b hb o e => ?_⟩
      · rcases List.mem_cons.mp hb with rfl | hb
        · by_cases hr : b ∈ r
          · exact U1.up b hr o e
          · rw [U1.same b hr, e] at q; cases q
        · exact U1.up b hb o e
      · rcases List.mem_cons.mp hb with rfl | hb
        · rw [q] at e; cases e
        · exact k1 b hb o e
    | some o1 =>
      by_cases hr : a ∈ r
      · refine ⟨g1, ⟨U1.size, fun b hb => U1.same b fun z => hb (.tail _ z), fun b hb o e => ?_, U1.none⟩, fun b hb o e => ?_⟩
        · rcases List.mem_cons.mp hb with rfl | hb
          · exact U1.up b hr o e
          · exact U1.up b hb o e
        · rcases List.mem_cons.mp hb with rfl | hb
          · exact k1 b hr o e
          · exact k1 b hb o e
      · have e0 : g.get? a = some o1 := by rw [← U1.same a hr]; exact q
        obtain ⟨sl, hs⟩ := hup a (.head _) o1 e0
        have hf : ((fun o : Obj => ({ o with slots := sl } : Obj)) o1).isFreed = false := slots_freed (not_freed q)
        have self : (g1.update a fun o : Obj => { o with slots := sl }).get? a = some { o1 with slots := sl } := Heap.get?_update_self _ q hf
        have oth : ∀ b, b ≠ a → (g1.update a fun o : Obj => { o with slots := sl }).get? b = g1.get? b := fun b hb => Heap.get?_update_other _ _ (Ne.symm hb)
        refine ⟨g1.update a fun o : Obj => { o with slots := sl }, ⟨by rw [Heap.size_update, U1.size], fun b hb => ?_, fun b hb o e => ?_, fun b e => ?_⟩, fun b hb o e => ?_⟩
        · rw [oth b fun z => hb (by rw [z]; exact .head _)]
          exact U1.same b fun z => hb (.tail _ z)
        · by_cases hba : b = a
          · subst hba
            rw [e0] at e; cases e
            exact ⟨sl, self⟩
          · rw [oth b hba]
            rcases List.mem_cons.mp hb with rfl | hb
            · exact absurd rfl hba
            · exact U1.up b hb o e
        · have : b ≠ a := fun z => by rw [z, e0] at e; cases e
          rw [oth b this]
          exact U1.none b e
        · by_cases hba : b = a
          · subst hba
            rw [self] at e; cases e
            exact hs
          · rw [oth b hba] at e
            rcases List.mem_cons.mp hb with rfl | hb
            · exact absurd rfl hba
            · exact k1 b hb o e

theorem UpFr.below {A : Around} {base g g' : Heap} {l : List Env} (U : UpFr (frs l) g g') (B : Below A base l g) : Below A base l g' := by
  refine ⟨B.stack, fun b o e => ?_, B.frames.of_keeps fun b o hb _ => ?_⟩
  · have : b ∉ frs l := fun hm => by rw [(B.frames.mem hm).1] at e; cases e
    rw [U.same b this]
    exact B.stays b o e
  · by_cases hm : b ∈ frs l
    · obtain ⟨sl, e⟩ := U.up b hm o hb
      exact ⟨_, e, rfl⟩
    · exact ⟨o, by rw [U.same b hm]; exact hb, rfl⟩

/-- what a frame hands its caller, the outer frames' slots set aside -/
noncomputable def LeaveU (A₀ : Around) (base : Heap) (outer : List Env) (env : Env) (h₀ : Heap) (L : Addr) (m : Str → Option Value) (g : Heap) (R : Result → Shared → Prop) (v : Value) (s' : Shared) : Prop :=
  ∃ g' L' m' news', UpFr (frs (env :: outer)) g g' ∧ Fr g' L' s'.heap m' ∧ News g' L' s'.heap news' ∧
    (∀ h₀', UpFr (frs outer) h₀ h₀' → Below A₀ base outer h₀' → Fr h₀' L s'.heap m → News h₀' L s'.heap news' → R (.ok (.ret v)) s')

section
variable {prog : Program} {w : World} {A₀ A : Around} {s : Shared} {base h₀ : Heap} {outer : List Env} {L : Addr} {m : Str → Option Value} {env : Env} {news : List (Addr × Obj)} {K : Frag} {R : Result → Shared → Prop}
theorem leaveU_out (B : Below A₀ base outer h₀) (F : Fr h₀ L s.heap m) (N : News h₀ L s.heap news) (hf : env.frame = some L) {v : Value} {s' : Shared} (h : LeaveU A₀ base outer env h₀ L m (hideAll s.heap (news.map (·.1))) R v s') : R (.ok (.ret v)) s' := by
  have nm : ∀ b o, h₀.get? b = some o → b ∉ news.map (·.1) := fun b o e q => by
    obtain ⟨p, hp, rfl⟩ := List.mem_map.mp q
    rw [(N p hp).2.2] at e; cases e
  have st : h₀.StaysIn (hideAll s.heap (news.map (·.1))) := fun b o e => hideAll_get _ (F.keep b o e) (nm b o e)
  obtain ⟨oL, es, ep, hL, hLd, hLk, hLf⟩ := F.ns
  have nL : L ∉ news.map (·.1) := fun q => by
    obtain ⟨p, hp, e⟩ := List.mem_map.mp q
    exact (N p hp).2.1 e
  have hLg := hideAll_get (news.map (·.1)) hL nL
  have hLin : L ∈ frs (env :: outer) := List.mem_filterMap.mpr ⟨env, .head _, hf⟩
  have tl : ∀ b ∈ frs outer, b ∈ frs (env :: outer) := fun b hb => by
    obtain ⟨e, he, hq⟩ := List.mem_filterMap.mp hb
    exact List.mem_filterMap.mpr ⟨e, .tail _ he, hq⟩
  obtain ⟨g', L', m', news', U, F', N', k⟩ := h
  obtain ⟨h₀', U0, kk⟩ := rebase (h := s'.heap) (frs outer) h₀ fun b hb o e => by
    obtain ⟨sl, e1⟩ := U.up b (tl b hb) o (st b o e)
    exact ⟨sl, F'.keep _ _ e1⟩
  obtain ⟨slL, hL'⟩ := U.up L hLin oL hLg
  have hL0 : h₀.get? L = none := Heap.get?_none_of_le F.above
  have keep' : ∀ b o, h₀'.get? b = some o → s'.heap.get? b = some o := fun b o e => by
    by_cases hb : b ∈ frs outer
    · exact kk b hb o e
    · rw [U0.same b hb] at e
      have hbL : b ∉ frs (env :: outer) := fun hm => by
        obtain ⟨e', he', hq⟩ := List.mem_filterMap.mp hm
        rcases List.mem_cons.mp he' with rfl | he'
        · rw [hf] at hq
          obtain rfl : L = b := Option.some.inj hq
          rw [hL0] at e; cases e
        · exact hb (List.mem_filterMap.mpr ⟨e', he', hq⟩)
      refine F'.keep b o ?_
      rw [U.same b hbL]
      exact st b o e
  refine k h₀' U0 (U0.below B) ⟨⟨{ oL with slots := slL }, es, ep, F'.keep _ _ hL', hLd, hLk, hLf⟩, keep', by rw [U0.size]; exact F.above⟩ fun p hp => ⟨(N' p hp).1, fun q => ?_, ?_⟩
  · have := (N' p hp).2.2
    rw [q, hL'] at this; cases this
  · refine U0.none _ ?_
    cases q : h₀.get? p.1 with
    | none => rfl
    | some o =>
      exfalso
      have e1 := st _ _ q
      have e2 := (N' p hp).2.2
      by_cases hb : p.1 ∈ frs (env :: outer)
      · obtain ⟨sl, e3⟩ := U.up _ hb _ e1
        rw [e2] at e3; cases e3
      · rw [U.same _ hb, e1] at e2; cases e2

theorem code_U {p : Program} {loose : List Str} {mean : ExcName → Option Value} {mg mb : Str → Option Value} {name qual : Str} {params : Arguments} {body : List Stmt} {scope : Scope} {dV kV doc pm cdv ct oc : Value} {an od : Option Addr} {osl : Array (Option Value)} {f : Addr} {args : Args} {binds : List (Str × Value)}
    (B : Below A₀ base outer h₀) (F : Fr h₀ L s.heap m) (X₀ : K.In h₀) (N : News h₀ L s.heap news) (T : Top p loose mean mg mb h₀) (hA : A.frames = some (env :: outer)) (hf : env.frame = some L) (hke : env.scope.kind = .function)
    (ho : K.lookup f = some ⟨oc, od, .func (fnOf name qual params body scope dV kV doc pm an cdv ct), osl⟩) (hcd : codeIn K cdv qual = true) (hroom : A.depth < recursionLimit)
    (hbind : BindsTo s (fnOf name qual params body scope dV kV doc pm an cdv ct) args binds) (hloc : ∀ y ∈ binds, scope.names.lookup y.1 = some .local)
    (h : ∀ g L' h₁, Fr h₀ L g m → Fr g L' h₁ (fun y => binds.reverse.lookup y) → News g L' h₁ news → Below A base (env :: outer) g → K.In g → Top p loose mean mg mb g →
      wpAny (model prog w) (A.deeper (envOf qual scope L' f cdv)) (execs body (envOf qual scope L' f cdv))
        (fun fl s' => LeaveU A₀ base outer env h₀ L m g R (match fl with | .ret v => v | _ => .none) s')
        (fun e s' => wpAny (model prog w) (A.deeper (envOf qual scope L' f cdv)) (leaving (envOf qual scope L' f cdv) e) (fun _ s'' => R (.error e) s'') (fun e' s'' => R (.error e') s'') s')
        { s with heap := h₁, toks := s.toks + binds.length })
    (hco : scope.isCoroutine = false) (hgen : scope.isGenerator = false) (hk : scope.kind = .function)
    (hcell : ∀ x ∈ scope.names, x.2 ≠ .cell) : codeAny (model prog w) A (.call (.ref f) args) R s := by
  obtain ⟨FG, BG, st, _⟩ := groundX (R := R) B F N hA hf hke
  refine codeAny_call_def (fd := fnX name qual params body scope [] dV kV doc pm an cdv ct) (body := body) (binds := binds) hroom ((X₀.keeps F.keep) _ _ ho) rfl (T.nolimit.keeps F.keep) (codeRec_of (X₀.keeps F.keep) hcd) rfl hbind hcell hloc (fun h₁ hns hk₁ => ?_) hco hgen hk
  exact wpAny_mono (h _ s.heap.objs.size h₁ FG ⟨hns, fun b o e => hk₁ b o (of_hideAll _ e), Nat.le_of_eq (hideAll_size _ _)⟩
    (fun p hp => ⟨hk₁ _ _ (N p hp).1, Nat.ne_of_lt (Heap.lt_size (N p hp).1), hideAll_none _ (List.mem_map_of_mem hp)⟩) BG (X₀.keeps st) (T.keeps st)) (fun fl s' hl => leaveU_out B F N hf hl) fun _ _ y => y
end
end

section -- U2
open PySem PySem.W PyProof.Rows PySem.Calls PySem.Spec

noncomputable def RaisedU (base : Heap) (l : List Env) (e : Addr) (cls a0 : Value) (news : List (Addr × Obj)) (g h : Heap) : Prop :=
  ∃ B, base.StaysIn B ∧ (∀ q ∈ news, B.get? q.1 = some q.2 ∧ g.get? q.1 = none) ∧ Heap.FlyingW B l e cls a0 h ∧ (∀ b o, g.get? b = some o → b ∉ frs l → B.get? b = some o) ∧ g.UpToSlots h

section
variable {M : Model} {A : Around} {E : Value → Shared → Prop} {s' : Shared} {base g h : Heap} {outer : List Env} {L a e : Addr} {m : Str → Option Value} {name : Str} {scope : Scope} {cd : Value} {Q : Unit → Shared → Prop} {news : List (Addr × Obj)}
theorem leave_U {C : Addr} (K : Below A base outer g) (hx : MadeF h s'.heap e C) (F : Fr g L h m) (N : News g L h news)
    (hQ : ∀ h' a0, RaisedU base outer e (.ref C) a0 news g h' → Q () { s' with heap := h' }) (hk : scope.kind = .function := by rfl) :
    wpAny M (A.deeper (envOf name scope L a cd)) (leaving (envOf name scope L a cd) (.ref e)) Q E s' := by
  have K' := K.push (name := name) (a := a) (cd := cd) F hk
  obtain ⟨t, d, he⟩ := hx.there
  have hin : ∀ env ∈ (envOf name scope L a cd :: outer), ∀ b, env.frame = some b → b ∈ (envOf name scope L a cd :: outer).filterMap (·.frame) := fun env he b hb => List.mem_filterMap.mpr ⟨env, he, hb⟩
  have st : base.StaysIn (hideAll h ((envOf name scope L a cd :: outer).filterMap (·.frame))) := fun b o q => hideAll_get _ (K'.stays b o q) fun hm => by
    rw [(K'.frames.mem hm).1] at q; cases q
  have hl : ∀ q ∈ news, (hideAll h ((envOf name scope L a cd :: outer).filterMap (·.frame))).get? q.1 = some q.2 ∧ g.get? q.1 = none := fun q hq => by
    refine ⟨hideAll_get _ (N q hq).1 fun hm => ?_, (N q hq).2.2⟩
    obtain ⟨env, he, hf⟩ := List.mem_filterMap.mp hm
    rcases List.mem_cons.mp he with rfl | he
    · exact (N q hq).2.1 (Option.some.inj hf).symm
    · obtain ⟨o', ho', _⟩ := (K.frames.mem (List.mem_filterMap.mpr ⟨env, he, hf⟩)).2
      rw [(N q hq).2.2] at ho'; cases ho'
  have hkeep : (hideAll h ((envOf name scope L a cd :: outer).filterMap (·.frame))).StaysIn s'.heap := fun b o q => hx.keeps b o (of_hideAll _ q)
  have hfr : s'.heap.FunFrames (hideAll h ((envOf name scope L a cd :: outer).filterMap (·.frame))) (envOf name scope L a cd :: outer) :=
    (funFrames_hide K'.frames hin).of_keeps fun b o hb _ => ⟨o, hx.keeps b o hb, rfl⟩
  have hnone : (hideAll h ((envOf name scope L a cd :: outer).filterMap (·.frame))).get? e = none := by
    cases q : (hideAll h ((envOf name scope L a cd :: outer).filterMap (·.frame))).get? e with
    | none => rfl
    | some o => have := of_hideAll _ q; rw [hx.new] at this; cases this
  have hL0 : g.get? L = none := Heap.get?_none_of_le F.above
  refine wpAny_leaving_firstW (a0 := .ref t) K'.stack hfr rfl he hkeep hnone rfl rfl rfl fun h' hL => ?_
  obtain ⟨k1, ⟨_, _, k2⟩, k3, k4⟩ := hL
  refine hQ h' _ ⟨_, st, hl, ⟨k1, hnone, k2, k3⟩, fun b o q hb => hideAll_get _ (F.keep b o q) fun hm => ?_, ((Heap.UpToSlots.of_keeps F.keep).trans (Heap.UpToSlots.of_keeps hx.keeps)).trans k4⟩
  obtain ⟨env, he', hf⟩ := List.mem_filterMap.mp hm
  rcases List.mem_cons.mp he' with rfl | he'
  · obtain rfl : L = b := Option.some.inj hf
    rw [hL0] at q; cases q
  · exact hb (List.mem_filterMap.mpr ⟨env, he', hf⟩)

theorem leave_U2 {g₂ : Heap} {C : Value} {a0 : Value} (K : Below A base outer g) (F : Fr g L g₂ m) (R : RaisedU base (envOf name scope L a cd :: outer) e C a0 news g₂ s'.heap)
    (hQ : ∀ h', RaisedU base outer e C a0 news g h' → Q () { s' with heap := h' }) :
    wpAny M (A.deeper (envOf name scope L a cd)) (leaving (envOf name scope L a cd) (.ref e)) Q E s' := by
  obtain ⟨B, hB, hl, hfl, hst, hup⟩ := R
  have hL0 : g.get? L = none := Heap.get?_none_of_le F.above
  refine wpAny_leaves_onW (Around.frames_deeper K.stack) rfl hfl fun h' x1 x2 => hQ h' ⟨B, hB, fun q hq => ⟨(hl q hq).1, ?_⟩, x1, fun b o q hb => hst b o (F.keep b o q) fun hm => ?_, (Heap.UpToSlots.of_keeps F.keep).trans (hup.trans x2)⟩
  · cases z : g.get? q.1 with
    | none => rfl
    | some o => have := F.keep _ _ z; rw [(hl q hq).2] at this; cases this
  · obtain ⟨env, he', hf⟩ := List.mem_filterMap.mp hm
    rcases List.mem_cons.mp he' with rfl | he'
    · obtain rfl : L = b := Option.some.inj hf
      rw [hL0] at q; cases q
    · exact hb (List.mem_filterMap.mpr ⟨env, he', hf⟩)
end

section
variable {prog : Program} {w : World} {A₀ : Around} {E : Value → Shared → Prop} {s' : Shared} {base g g₂ h : Heap} {outer : List Env} {L a e : Addr} {m : Str → Option Value} {name : Str} {scope : Scope} {cd : Value}
  {b₀ : Stmt} {suite : List Stmt} {pos np : Pos} {rest : List ExceptHandler} {Q : Flow → Shared → Prop} {news : List (Addr × Obj)} {KF : Frag} {C : Addr} {a0 : Value}
  {p : Program} {loose : List Str} {mean : ExcName → Option Value} {mg mb : Str → Option Value} {x : Str}

theorem landU {B : Heap} (K : Below A₀ base outer g) (F : Fr g L g₂ m) (hl : ∀ q ∈ news, B.get? q.1 = some q.2 ∧ g₂.get? q.1 = none) (hfl : Heap.FlyingW B (envOf name scope L a cd :: outer) e (.ref C) a0 h)
    (hst : ∀ b o, g₂.get? b = some o → b ∉ frs (envOf name scope L a cd :: outer) → B.get? b = some o) (hup : g₂.UpToSlots h) :
    ∃ g', UpFr (frs outer) g g' ∧ Below A₀ base outer g' ∧ Fr g' L h m ∧ News g' L h news := by
  have hL0 : g.get? L = none := Heap.get?_none_of_le F.above
  have hLB : B.get? L = none := by
    obtain ⟨_, ⟨L', _, hf, hn', _⟩, _⟩ := hfl.2.2.1
    obtain rfl : L = L' := Option.some.inj hf
    exact hn'
  obtain ⟨g', U, kk⟩ := rebase (h := h) (frs outer) g fun b hb o e => by
    obtain ⟨o', ho', hd'⟩ := (K.frames.mem hb).2
    rw [e] at ho'; cases ho'
    exact hup b o (F.keep b o e) hd'
  have gnone : ∀ q ∈ news, g.get? q.1 = none := fun q hq => by
    cases z : g.get? q.1 with
    | none => rfl
    | some o => have := F.keep _ _ z; rw [(hl q hq).2] at this; cases this
  refine ⟨g', U, U.below K, ⟨hup.ns F.ns, fun b o e => ?_, by rw [U.size]; exact F.above⟩, fun q hq => ⟨hfl.1 _ _ (hl q hq).1, (fun z => by have := (hl q hq).1; rw [z, hLB] at this; cases this), U.none _ (gnone q hq)⟩⟩
  by_cases hb : b ∈ frs outer
  · exact kk b hb o e
  · rw [U.same b hb] at e
    refine hfl.1 _ _ (hst b o (F.keep b o e) fun hm => ?_)
    obtain ⟨env, he', hf⟩ := List.mem_filterMap.mp hm
    rcases List.mem_cons.mp he' with rfl | he'
    · obtain rfl : L = b := Option.some.inj hf
      rw [hL0] at e; cases e
    · exact hb (List.mem_filterMap.mpr ⟨env, he', hf⟩)

theorem caught_U (K : Below A₀ base outer g) (F : Fr g L g₂ m) (R : RaisedU base (envOf name scope L a cd :: outer) e (.ref C) a0 news g₂ s'.heap)
    (X : KF.In base) (T : Top p loose mean mg mb base) (ex : nsIn KF mainGlobals x = some (some (.ref C))) (hF : IsFault C base)
    (k : ∀ h' g', UpFr (frs outer) g g' → Below A₀ base outer g' → Fr g' L h' m → News g' L h' news → KF.In g' → Top p loose mean mg mb g' →
      wpAny (model prog w) ((A₀.deeper (envOf name scope L a cd)).mark (some (.ref e))) (execs (b₀ :: suite) (envOf name scope L a cd)) Q E { s' with heap := h' })
    (hk : scope.kind = .function := by rfl) (hx : (envOf name scope L a cd).kindOf x = some .globalImplicit := by rfl) (hd : (x == ("__debug__" : Str)) = false := by decide)
    (hE : PassesOwnAt (model prog w) ((A₀.deeper (envOf name scope L a cd)).mark (some (.ref e))) (A₀.deeper (envOf name scope L a cd)) (envOf name scope L a cd) E := by passes_own) :
    wpAny (model prog w) (A₀.deeper (envOf name scope L a cd)) (noteFrame (.ref e) (envOf name scope L a cd))
      (fun _ s₂ => wpAny (model prog w) (A₀.deeper (envOf name scope L a cd)) (setFlight (.ref e) none) (fun _ s₃ =>
        wpAny (model prog w) (A₀.deeper (envOf name scope L a cd)) (handleBy (.ref e) (envOf name scope L a cd) (.ExceptHandler (some (.Name x np)) none (b₀ :: suite) pos :: rest)) Q E s₃) E s₂) E s' := by
  obtain ⟨B, hB, hl, hfl, hst, hup⟩ := R
  refine wpAny_looks_onW (Around.frames_deeper K.stack) rfl hfl fun h₄ hheld₄ hsm₄ => ?_
  refine wpAny_landsW hheld₄ fun h₅ hheld hsm₅' => ?_
  have hsm₅ := hsm₄.trans hsm₅'
  obtain ⟨g₅, U₅, B₅, F₅, N₅⟩ := landU K F hl hheld hst (hup.trans hsm₅)
  obtain ⟨ob, hob, hobc⟩ := hheld.there
  refine wpAny_handleBy_cons (codeAny_handlers_test (name_K F₅ (X.keeps B₅.stays) (topRead_of (T.keeps B₅.stays)) ex ?_ hk hx hd)) (by intro q; cases q)
  obtain ⟨nm, q, N, bs, hdct, sn, sub, ab, col, dd, k0, k1, k2, k3, k5, hC⟩ := hF
  refine wpAny_excMatches_sub_self (F₅.keep _ _ (B₅.stays _ _ hC)) hob hobc (by decide) (codeAny_handlers_suite ?_)
  refine lands_againW hheld fun h₆ hfl₆ hsm₆ => ?_
  obtain ⟨g₆, U₆, B₆, F₆, N₆⟩ := landU K F hl hfl₆ hst (hup.trans (hsm₅.trans hsm₆))
  exact wpAny_passesOwnAt hE (k h₆ g₆ U₆ B₆ F₆ N₆ (X.keeps B₆.stays) (T.keeps B₆.stays))
end
theorem leaveU_ {A₀ : Around} {base : Heap} {outer : List Env} {env : Env} {h₀ : Heap} {L : Addr} {m : Str → Option Value} {g : Heap} {R : Result → Shared → Prop} {v : Value} {s' : Shared} {g' : Heap} {L' : Addr} {m' : Str → Option Value} {news' : List (Addr × Obj)}
    (U : UpFr (frs (env :: outer)) g g') (F' : Fr g' L' s'.heap m') (N' : News g' L' s'.heap news') (k : ∀ h₀', UpFr (frs outer) h₀ h₀' → Below A₀ base outer h₀' → Fr h₀' L s'.heap m → News h₀' L s'.heap news' → R (.ok (.ret v)) s') :
    LeaveU A₀ base outer env h₀ L m g R v s' := ⟨g', L', m', news', U, F', N', k⟩
end

section -- U3
open PySem PySem.W PyProof.Rows PySem.Calls PySem.Spec
section
variable {prog : Program} {w : World} {A₀ A : Around} {s : Shared} {base h₀ : Heap} {outer : List Env} {L : Addr} {m : Str → Option Value} {env : Env} {news : List (Addr × Obj)} {K : Frag} {R : Result → Shared → Prop}
theorem code_UC {p : Program} {loose : List Str} {mean : ExcName → Option Value} {mg mb : Str → Option Value} {name qual : Str} {params : Arguments} {body : List Stmt} {scope : Scope} {dV kV doc pm cdv ct oc : Value} {an od : Option Addr} {osl : Array (Option Value)} {f : Addr} {args : Args} {binds : List (Str × Value)}
    (B : Below A₀ base outer h₀) (F : Fr h₀ L s.heap m) (X₀ : K.In h₀) (N : News h₀ L s.heap news) (T : Top p loose mean mg mb h₀) (hA : A.frames = some (env :: outer)) (hf : env.frame = some L) (hke : env.scope.kind = .function)
    (ho : K.lookup f = some ⟨oc, od, .func (fnOf name qual params body scope dV kV doc pm an cdv ct), osl⟩) (hcd : codeIn K cdv qual = true) (hroom : A.depth < recursionLimit)
    (hbind : BindsTo s (fnOf name qual params body scope dV kV doc pm an cdv ct) args binds) (hkind : (binds.all fun y => scope.names.lookup y.1 == some .local || scope.names.lookup y.1 == some .cell) = true)
    (hnd : ((cellsFrom 0 scope.names []).map (·.1)).Nodup)
    (h : ∀ g L' h₁ tk cells, Fr h₀ L g m → Fr g L' h₁ (bindL (envOfC qual scope L' f cdv).kindOf binds fun _ => none) → News g L' h₁ (cells ++ news) →
      CellsAre (bindC (envOfC qual scope L' f cdv).kindOf binds fun _ => none) (cellsFrom (L' + 1) scope.names []) cells → Below A base (env :: outer) g → K.In g → Top p loose mean mg mb g → (∀ p ∈ news, p.1 < L') →
      wpAny (model prog w) (A.deeper (envOfC qual scope L' f cdv)) (execs body (envOfC qual scope L' f cdv))
        (fun fl s' => LeaveU A₀ base outer env h₀ L m g R (match fl with | .ret v => v | _ => .none) s')
        (fun e s' => wpAny (model prog w) (A.deeper (envOfC qual scope L' f cdv)) (leaving (envOfC qual scope L' f cdv) e) (fun _ s'' => R (.error e) s'') (fun e' s'' => R (.error e') s'') s')
        { s with heap := h₁, toks := tk })
    (hco : scope.isCoroutine = false) (hgen : scope.isGenerator = false) (hk : scope.kind = .function) : codeAny (model prog w) A (.call (.ref f) args) R s := by
  obtain ⟨FG, BG, st, _⟩ := groundX (R := R) B F N hA hf hke
  have hlim := T.nolimit
  refine codeAny_call_function hroom ((X₀.keeps F.keep) _ _ ho) (fd := fnX name qual params body scope [] dV kV doc pm an cdv ct) rfl hco hgen rfl (codeRec_of (X₀.keeps F.keep) hcd) (hbind _ _ _ _ ?_)
  refine wpAny_newFunctionEnv_cells hk (kindsX hkind _) fun env' he s' x => ?_
  subst he
  refine ⟨(hlim.keeps F.keep).keeps x.toInCall.keep, codeAny_func ?_⟩
  obtain ⟨h₁, tk, rfl, _⟩ := x.done
  have hk₁ := x.toInCall.keep
  obtain ⟨cells, NC, Y⟩ := Cl.news (h₀ := s.heap) (Nat.le_refl _) fun n c hm => ⟨x.cell n c (lookup_of_mem_nodup (cellsFrom_names scope.names 0 (s.heap.objs.size + 1) [] [] rfl ▸ hnd) hm), x.above n c hm⟩
  refine wpAny_mono (h _ s.heap.objs.size h₁ tk cells FG ⟨x.toInCall.ns, fun b o e => hk₁ b o (of_hideAll _ e), Nat.le_of_eq (hideAll_size _ _)⟩ (fun p hp => ?_) Y BG (X₀.keeps st) (T.keeps st) (fun p hp => Heap.lt_size (N p hp).1)) (fun fl s' hl => leaveU_out B F N hf hl) fun _ _ y => y
  rcases List.mem_append.mp hp with hp | hp
  · refine ⟨(NC p hp).1, (NC p hp).2.1, ?_⟩
    cases q : (hideAll s.heap (news.map (·.1))).get? p.1 with
    | none => rfl
    | some o => have := of_hideAll _ q; rw [(NC p hp).2.2] at this; cases this
  · exact ⟨hk₁ _ _ (N p hp).1, Nat.ne_of_lt (Heap.lt_size (N p hp).1), hideAll_none _ (List.mem_map_of_mem hp)⟩
end
end

section -- U4
open PySem PySem.W PyProof.Rows PySem.Calls PySem.Spec
section
variable {M : Model} {A : Around} {E : Value → Shared → Prop} {s' : Shared} {base g h : Heap} {outer : List Env} {L e : Addr} {m : Str → Option Value} {env : Env} {Q : Unit → Shared → Prop} {news : List (Addr × Obj)}
/-- the flight leaves a frame of any make -/
theorem leave_U3 {g₂ : Heap} {C : Value} {a0 : Value} (K : Below A base outer g) (F : Fr g L g₂ m) (hf : env.frame = some L) (R : RaisedU base (env :: outer) e C a0 news g₂ s'.heap)
    (hQ : ∀ h', RaisedU base outer e C a0 news g h' → Q () { s' with heap := h' }) :
    wpAny M (A.deeper env) (leaving env (.ref e)) Q E s' := by
  obtain ⟨B, hB, hl, hfl, hst, hup⟩ := R
  have hL0 : g.get? L = none := Heap.get?_none_of_le F.above
  refine wpAny_leaves_onW (Around.frames_deeper K.stack) hf hfl fun h' x1 x2 => hQ h' ⟨B, hB, fun q hq => ⟨(hl q hq).1, ?_⟩, x1, fun b o q hb => hst b o (F.keep b o q) fun hm => ?_, (Heap.UpToSlots.of_keeps F.keep).trans (hup.trans x2)⟩
  · cases z : g.get? q.1 with
    | none => rfl
    | some o => have := F.keep _ _ z; rw [(hl q hq).2] at this; cases this
  · obtain ⟨env', he', hf'⟩ := List.mem_filterMap.mp hm
    rcases List.mem_cons.mp he' with rfl | he'
    · rw [hf] at hf'
      obtain rfl : L = b := Option.some.inj hf'
      rw [hL0] at q; cases q
    · exact hb (List.mem_filterMap.mpr ⟨env', he', hf'⟩)
end
end

section -- S1
open PySem PySem.W PyProof.Rows PySem.Calls PySem.Spec

/-- the scan of expression_end: the open quote (0: none), the place, the signs ahead -/
noncomputable def scan : Nat → Nat → List Nat → Option Nat
  | _, _, [] => none
  | q, i, c :: r => if q ≠ 0 then scan (if c = q then 0 else q) (i + 1) r else if c = 39 ∨ c = 34 then scan c (i + 1) r else if c = 125 then some i else if c = 123 then none else scan 0 (i + 1) r
noncomputable def place (text : Str) (k : Nat) : Int := match scan 0 k (text.cps.toList.drop k) with
  | some i => (i : Int)
  | none => -1
noncomputable def qs (q : Nat) : Str := if q = 0 then Str.ofString "" else ⟨#[q]⟩
noncomputable def ScanP (text : Str) (k : Nat) (c : Nat × Nat × Tok × Tok) : Prop := c.1 ≤ text.length ∧ (c.2.1 = 0 ∨ c.2.1 = 39 ∨ c.2.1 = 34) ∧ scan c.2.1 c.1 (text.cps.toList.drop c.1) = scan 0 k (text.cps.toList.drop k)

noncomputable abbrev cp (text : Str) (i : Nat) : Nat := text.cps.toList.getD i 0
theorem item_is {text : Str} {i : Nat} (h : i < text.length) : Txt.item text (i : Int) = ⟨#[cp text i]⟩ := by
  have h' : i < text.cps.size := h
  have e : text.cps[((i : Nat) : Int).toNat]? = some (cp text i) := by
    simp [cp, h', List.getD]
  exact item_meets (by omega) e
theorem drop_is {text : Str} {i : Nat} (h : i < text.length) : text.cps.toList.drop i = cp text i :: text.cps.toList.drop (i + 1) := by
  have h' : i < text.cps.toList.length := by simpa [Str.length] using h
  have h2 : i < text.cps.size := h
  rw [List.drop_eq_getElem_cons h']
  have e : text.cps[i]? = some text.cps[i] := Array.getElem?_eq_getElem h2
  simp [cp, List.getD, e]

theorem qs_ne {q : Nat} : (qs q != Str.ofString "") = true → q ≠ 0 := by
  intro h e
  subst e
  revert h
  decide
theorem qs_eq {q : Nat} : (qs q != Str.ofString "") = false → q = 0 := by
  intro h
  by_cases e : q = 0
  · exact e
  · exfalso
    have : qs q = Str.ofString "" := by simpa using h
    have e2 := congrArg (fun x : Str => x.cps.size) this
    rw [show (Str.ofString "").cps.size = 0 from by decide] at e2
    simp [qs, e] at e2
theorem one_eq {c d : Nat} : ((⟨#[c]⟩ : Str) == ⟨#[d]⟩) = decide (c = d) := by
  by_cases e : c = d
  · subst e; simp
  · have : ((⟨#[c]⟩ : Str)) ≠ ⟨#[d]⟩ := fun h => e (by injection h with h; simpa using h)
    simp [e, this]
theorem ofS_rb : Str.ofString "}" = ⟨#[125]⟩ := by decide +kernel
theorem ofS_lb : Str.ofString "{" = ⟨#[123]⟩ := by decide +kernel
theorem ofS_qq : Str.ofString "'\"" = ⟨#[39, 34]⟩ := by decide +kernel
theorem in_qq {c : Nat} : (Builtin.Str.occurrences (Str.ofString "'\"") ⟨#[c]⟩ 0 (Str.ofString "'\"").length 1).isEmpty = !decide (c = 39 ∨ c = 34) := by
  rw [empty_one, ofS_qq]
  simp

section
variable {text : Str} {k : Nat} {c : Nat × Nat × Tok × Tok}
theorem turn_close (h : ScanP text k c) (hi : (c.1 : Int) < (text.length : Int)) (h1 : (qs c.2.1 != Str.ofString "") = true) (h2 : (Txt.item text (c.1 : Int) == qs c.2.1) = true) (t t' : Tok) : ScanP text k (c.1 + 1, 0, t, t') := by
  obtain ⟨a, b, e⟩ := h
  have hi' : c.1 < text.length := by omega
  have q0 := qs_ne h1
  rw [item_is hi', show qs c.2.1 = ⟨#[c.2.1]⟩ from if_neg q0, one_eq, decide_eq_true_eq] at h2
  refine ⟨hi', .inl rfl, ?_⟩
  rw [← e, drop_is hi', scan, if_pos q0, if_pos h2]
theorem turn_within (h : ScanP text k c) (hi : (c.1 : Int) < (text.length : Int)) (h1 : (qs c.2.1 != Str.ofString "") = true) (h2 : (Txt.item text (c.1 : Int) == qs c.2.1) = false) (t t' : Tok) : ScanP text k (c.1 + 1, c.2.1, t, t') := by
  obtain ⟨a, b, e⟩ := h
  have hi' : c.1 < text.length := by omega
  have q0 := qs_ne h1
  rw [item_is hi', show qs c.2.1 = ⟨#[c.2.1]⟩ from if_neg q0, one_eq, decide_eq_false_iff_not] at h2
  refine ⟨hi', b, ?_⟩
  rw [← e, drop_is hi', scan, if_pos q0, if_neg h2]
theorem turn_open (h : ScanP text k c) (hi : (c.1 : Int) < (text.length : Int)) (h1 : (qs c.2.1 != Str.ofString "") = false) (h2 : (Builtin.Str.occurrences (Str.ofString "'\"") (Txt.item text (c.1 : Int)) 0 (Str.ofString "'\"").length 1).isEmpty = false) (t t' : Tok) :
    ScanP text k (c.1 + 1, cp text c.1, t, t') ∧ Txt.item text (c.1 : Int) = qs (cp text c.1) := by
  obtain ⟨a, b, e⟩ := h
  have hi' : c.1 < text.length := by omega
  have q0 := qs_eq h1
  rw [item_is hi', in_qq] at h2
  have h3 : cp text c.1 = 39 ∨ cp text c.1 = 34 := of_decide_eq_true (by rw [Bool.not_eq_false'] at h2; exact h2)
  refine ⟨⟨hi', .inr h3, ?_⟩, ?_⟩
  · rw [← e, drop_is hi', scan, if_neg (by omega), if_pos h3]
  · rw [item_is hi', qs, if_neg (by omega)]
theorem turn_other (h : ScanP text k c) (hi : (c.1 : Int) < (text.length : Int)) (h1 : (qs c.2.1 != Str.ofString "") = false) (h2 : (Builtin.Str.occurrences (Str.ofString "'\"") (Txt.item text (c.1 : Int)) 0 (Str.ofString "'\"").length 1).isEmpty = true)
    (h3 : (Txt.item text (c.1 : Int) == Str.ofString "}") = false) (h4 : (Txt.item text (c.1 : Int) == Str.ofString "{") = false) (t t' : Tok) : ScanP text k (c.1 + 1, c.2.1, t, t') := by
  obtain ⟨a, b, e⟩ := h
  have hi' : c.1 < text.length := by omega
  have q0 := qs_eq h1
  rw [item_is hi'] at h2 h3 h4
  rw [in_qq] at h2
  rw [ofS_rb, one_eq] at h3
  rw [ofS_lb, one_eq] at h4
  have g2 : ¬ (cp text c.1 = 39 ∨ cp text c.1 = 34) := by simpa using h2
  have g3 : ¬ cp text c.1 = 125 := by simpa using h3
  have g4 : ¬ cp text c.1 = 123 := by simpa using h4
  refine ⟨hi', b, ?_⟩
  rw [← e, drop_is hi', scan, if_neg (by omega), if_neg g2, if_neg g3, if_neg g4, q0]
theorem place_found (h : ScanP text k c) (hi : (c.1 : Int) < (text.length : Int)) (h1 : (qs c.2.1 != Str.ofString "") = false) (h2 : (Builtin.Str.occurrences (Str.ofString "'\"") (Txt.item text (c.1 : Int)) 0 (Str.ofString "'\"").length 1).isEmpty = true)
    (h3 : (Txt.item text (c.1 : Int) == Str.ofString "}") = true) : (c.1 : Int) = place text k := by
  obtain ⟨a, b, e⟩ := h
  have hi' : c.1 < text.length := by omega
  have q0 := qs_eq h1
  rw [item_is hi'] at h2 h3
  rw [in_qq] at h2
  rw [ofS_rb, one_eq] at h3
  have g2 : ¬ (cp text c.1 = 39 ∨ cp text c.1 = 34) := by simpa using h2
  have g3 : cp text c.1 = 125 := by simpa using h3
  rw [place, ← e, drop_is hi', scan, if_neg (by omega), if_neg g2, if_pos g3]
theorem place_brace (h : ScanP text k c) (hi : (c.1 : Int) < (text.length : Int)) (h1 : (qs c.2.1 != Str.ofString "") = false) (h2 : (Builtin.Str.occurrences (Str.ofString "'\"") (Txt.item text (c.1 : Int)) 0 (Str.ofString "'\"").length 1).isEmpty = true)
    (h3 : (Txt.item text (c.1 : Int) == Str.ofString "}") = false) (h4 : (Txt.item text (c.1 : Int) == Str.ofString "{") = true) : (-1 : Int) = place text k := by
  obtain ⟨a, b, e⟩ := h
  have hi' : c.1 < text.length := by omega
  have q0 := qs_eq h1
  rw [item_is hi'] at h2 h3 h4
  rw [in_qq] at h2
  rw [ofS_rb, one_eq] at h3
  rw [ofS_lb, one_eq] at h4
  have g2 : ¬ (cp text c.1 = 39 ∨ cp text c.1 = 34) := by simpa using h2
  have g3 : ¬ cp text c.1 = 125 := by simpa using h3
  have g4 : cp text c.1 = 123 := by simpa using h4
  rw [place, ← e, drop_is hi', scan, if_neg (by omega), if_neg g2, if_neg g3, if_pos g4]
theorem place_end (h : ScanP text k c) (hi : ¬ (c.1 : Int) < (text.length : Int)) : (-1 : Int) = place text k := by
  obtain ⟨a, b, e⟩ := h
  have hi' : text.cps.toList.length ≤ c.1 := by
    have : text.cps.toList.length = text.length := by simp [Str.length]
    omega
  rw [place, ← e, List.drop_eq_nil_of_le hi', scan]
end
end

section -- HS
open PySem PySem.W PyProof.Rows PySem.Calls PySem.Spec
noncomputable def PlaceT : Prop := ∀ {w : World} {p : Program} {loose : List Str} {mean : ExcName → Option Value} {mg mb : Str → Option Value} {dp un : Nat} {gd : Option (List Code)} {cn : Str} {cs : Scope} {a : Addr} {ccd : Value} {cl : List (Str × Addr)} {outer : List Env} {A₀ : Around} {base h₀ : Heap} {L : Addr} {m : Str → Option Value} {led : List (Addr × Obj)} {s : Shared} {Q E : Value → Shared → Prop}
    (text : Str) (t1 : Tok) (k : Nat) (t2 : Tok), Below A₀ base outer h₀ → Fr h₀ L s.heap m → (KK w.params).In h₀ → News h₀ L s.heap led → Top p loose mean mg mb h₀ → (KK w.params).In base → Top p loose mean mg mb base → cs.kind = .function → text.length ≤ 1000 → k ≤ text.length → dp + 8 ≤ 900 → un + 60 ≤ 1000 →
    (∀ h₀' t h' tk', UpFr (frs outer) h₀ h₀' → Below A₀ base outer h₀' → Fr h₀' L h' m → News h₀' L h' led → Q (.int (place text k) t) { s with heap := h', toks := tk' }) →
    wpAny (model PySem.Challenge.rw_xm0674_01.prog w) (ktrTop dp un gd cn cs L a ccd cl outer) (call (.ref 1282) [.str text t1, .int (k : Int) t2]) Q E s
noncomputable def PoolT : Prop := ∀ {w : World} {p : Program} {loose : List Str} {mean : ExcName → Option Value} {mg mb : Str → Option Value} {dp un : Nat} {gd : Option (List Code)} {cn : Str} {cs : Scope} {a : Addr} {ccd : Value} {cl : List (Str × Addr)} {outer : List Env} {A₀ : Around} {base h₀ : Heap} {L : Addr} {m : Str → Option Value} {s : Shared} {Q E : Value → Shared → Prop} {ns : List Int} {vs : List Value} {sc : Addr} {news : List (Addr × Obj)},
    Below A₀ base outer h₀ → Fr h₀ L s.heap m → (KK w.params).In h₀ → News h₀ L s.heap news → base.IsList sc vs.toArray → IntsAre vs ns → PyData.layable0 (.list (ns.map .int)) = true → Top p loose mean mg mb h₀ → cs.kind = .function → dp + 16 ≤ 900 → un + 200 ≤ 1000 →
    (∀ (l' : Addr) x y tx ty h' tk', Pool x y → Fr h₀ L h' m → News h₀ L h' ((l', pool x y tx ty 0) :: news) → (∀ q ∈ news, q.1 < l') → Q (.ref l') { s with heap := h', toks := tk' }) →
    wpAny (model PySem.Challenge.rw_xm0674_01.prog w) (ktrTop dp un gd cn cs L a ccd cl outer) (call (.ref 1261) [.ref sc]) Q E s
noncomputable def EndsT : Prop := ∀ {w : World} {p : Program} {loose : List Str} {mean : ExcName → Option Value} {mg mb : Str → Option Value} {dp un : Nat} {gd : Option (List Code)} {cn : Str} {cs : Scope} {a : Addr} {ccd : Value} {cl : List (Str × Addr)} {outer : List Env} {A₀ : Around} {base h₀ : Heap} {L : Addr} {m : Str → Option Value} {s : Shared} {Q E : Value → Shared → Prop} {src : Addr} {x y : Int} {tx ty : Tok} {n : Nat} {PT : Addr},
    @Ne Nat PT src → Below A₀ base outer h₀ → Fr h₀ L s.heap m → (KK w.params).In h₀ → News h₀ L s.heap [(src, pool x y tx ty n), (PT, tabObj #[])] → Top p loose mean mg mb h₀ → (KK w.params).In base → Top p loose mean mg mb base → cs.kind = .function → Pool x y → dp + 16 ≤ 900 → un + 200 ≤ 1000 →
    (∀ h₀' x' y' tx' ty' n' h' tk', UpFr (frs outer) h₀ h₀' → Below A₀ base outer h₀' → Fr h₀' L h' m → News h₀' L h' [(src, pool x' y' tx' ty' n'), (PT, tabObj #[])] → Pool x' y' → Q (.bool true) { s with heap := h', toks := tk' }) →
    wpAny (model PySem.Challenge.rw_xm0674_01.prog w) (ktrTop dp un gd cn cs L a ccd cl outer) (call (.ref 1287) [.ref src]) Q E s
noncomputable def ValuesT : Prop := ∀ {w : World} {p : Program} {loose : List Str} {mean : ExcName → Option Value} {mg mb : Str → Option Value} {dp un : Nat} {gd : Option (List Code)} {cn : Str} {cs : Scope} {a : Addr} {ccd : Value} {cl : List (Str × Addr)} {outer : List Env} {A₀ : Around} {base h₀ : Heap} {L : Addr} {m : Str → Option Value} {s : Shared} {Q E : Value → Shared → Prop} {PT src : Addr} {x y : Int} {tx ty : Tok} {n : Nat},
    @Ne Nat PT src → Below A₀ base outer h₀ → Fr h₀ L s.heap m → (KK w.params).In h₀ → News h₀ L s.heap [(src, pool x y tx ty n), (PT, tabObj #[])] → CodeHd base 999 PT → Top p loose mean mg mb h₀ → (KK w.params).In base → Top p loose mean mg mb base → cs.kind = .function → Pool x y → dp + 80 ≤ 900 → un + 600 ≤ 1000 →
    (∀ h₀' ps h' tk', UpFr (frs outer) h₀ h₀' → Below A₀ base outer h₀' → Fr h₀' L h' m → News h₀' L h' [(PT, tabObj ps)] → Q (.bool true) { s with heap := h', toks := tk' }) →
    wpAny (model PySem.Challenge.rw_xm0674_01.prog w) (ktrTop dp un gd cn cs L a ccd cl outer) (call (.ref 1320) [.ref src]) Q E s
noncomputable def Four : Prop := PlaceT ∧ PoolT ∧ EndsT ∧ ValuesT
end

section -- head
open PySem PySem.W PyProof.Rows PySem.Calls PySem.Spec
set_option maxHeartbeats 0
noncomputable def kkHook : Hook := kHook KK [nat_lit 0, nat_lit 2, nat_lit 3, nat_lit 52, nat_lit 53, nat_lit 166, nat_lit 172, nat_lit 173, nat_lit 196, nat_lit 197, nat_lit 201, nat_lit 202, nat_lit 208, nat_lit 209, nat_lit 288, nat_lit 289, nat_lit 291, nat_lit 292, nat_lit 293, nat_lit 304, nat_lit 305, nat_lit 316, nat_lit 317, nat_lit 328, nat_lit 329, nat_lit 708, nat_lit 709, nat_lit 718, nat_lit 719, nat_lit 720, nat_lit 721, nat_lit 736, nat_lit 737, nat_lit 746, nat_lit 747, nat_lit 748, nat_lit 749, nat_lit 764, nat_lit 765, nat_lit 774, nat_lit 775, nat_lit 776, nat_lit 777, nat_lit 802, nat_lit 803, nat_lit 804, nat_lit 805, nat_lit 830, nat_lit 831, nat_lit 832, nat_lit 833, nat_lit 858, nat_lit 859, nat_lit 860, nat_lit 861, nat_lit 886, nat_lit 887, nat_lit 888, nat_lit 889, nat_lit 914, nat_lit 915, nat_lit 916, nat_lit 917, nat_lit 978, nat_lit 979, nat_lit 985, nat_lit 986, nat_lit 992, nat_lit 993, nat_lit 999, nat_lit 1000, nat_lit 1008, nat_lit 1014, nat_lit 1015, nat_lit 1028, nat_lit 1029, nat_lit 1038, nat_lit 1039, nat_lit 1040, nat_lit 1041, nat_lit 1044, nat_lit 1057, nat_lit 1058, nat_lit 1060, nat_lit 1061, nat_lit 1062, nat_lit 1063, nat_lit 1078, nat_lit 1079, nat_lit 1085, nat_lit 1086, nat_lit 1092, nat_lit 1093, nat_lit 1099, nat_lit 1100, nat_lit 1106, nat_lit 1107, nat_lit 1113, nat_lit 1114, nat_lit 1120, nat_lit 1121, nat_lit 1127, nat_lit 1128, nat_lit 1141, nat_lit 1142, nat_lit 1148, nat_lit 1149, nat_lit 1169, nat_lit 1170, nat_lit 1197, nat_lit 1198, nat_lit 1211, nat_lit 1212, nat_lit 1249, nat_lit 1250, nat_lit 1251, nat_lit 1252, nat_lit 1260, nat_lit 1261, nat_lit 1267, nat_lit 1268, nat_lit 1274, nat_lit 1275, nat_lit 1281, nat_lit 1282, nat_lit 1286, nat_lit 1287, nat_lit 1293, nat_lit 1294, nat_lit 1300, nat_lit 1301, nat_lit 1305, nat_lit 1306, nat_lit 1312, nat_lit 1313, nat_lit 1319, nat_lit 1320, nat_lit 1326, nat_lit 1327] (fun _ => by kernel_rfl)
noncomputable def top.tw15068483726869450994 : Params → Frag := frag.heap_1
theorem top.te15068483726869450994 : frag.heap_1 = top.tw15068483726869450994 := rfl
noncomputable def top.tw4816591812421909578 : Params → Frag := KK
theorem top.te4816591812421909578 : KK = top.tw4816591812421909578 := rfl
theorem top.tw2601905985415302144 : True := trivial
theorem top.tw11582926029173025856 : True := trivial
theorem top.tw8069049012094873728 : True := trivial
theorem top.tw14142502885225118848 : True := trivial
theorem top.tw5472114250418208992 : True := trivial
theorem top.tw6432616177841060128 : True := trivial
theorem top.tw984902984118615328 : True := trivial
theorem top.tw15360274220829721888 : True := trivial
theorem top.tw13370185576492129568 : True := trivial
theorem top.tw304654302220672320 : True := trivial
theorem top.tw15491019914900986176 : True := trivial
theorem top.tw2218668502564051296 : True := trivial
theorem top.tw4154345032738424160 : True := trivial
theorem top.tw15542334942015070624 : True := trivial
theorem top.tw13160728816969591200 : True := trivial
theorem top.tw13223034962123697568 : True := trivial
theorem top.tw8722410040271553984 : True := trivial
theorem top.tw14168018189251442112 : True := trivial
theorem top.tw17009415399725018624 : True := trivial
theorem top.tw17861464445857800736 : True := trivial
theorem top.tw2417791160451022400 : True := trivial
theorem top.tw4597200072644226624 : True := trivial
theorem top.tw76412952228603488 : True := trivial
theorem top.tw2741389259953327712 : True := trivial
theorem top.tw1732150942055357024 : True := trivial
theorem top.tw15874363893724204672 : True := trivial
theorem top.tw6065713072024180384 : True := trivial
theorem top.tw4770301895538212512 : True := trivial
theorem top.tw7438316178485321408 : True := trivial
theorem top.tw1971433849790844608 : True := trivial
theorem top.tw16663787254893796032 : True := trivial
theorem top.tw3474246075231452896 : True := trivial
theorem top.tw7847650389618582240 : True := trivial
theorem top.tw4468942710605802240 : True := trivial
theorem top.tw16104615914030681952 : True := trivial
theorem top.tw8687831153774095200 : True := trivial
theorem top.tw16659674399394625376 : True := trivial
theorem top.tw14713311804777202560 : True := trivial
theorem top.tw114735475811551136 : True := trivial
theorem top.tw2424727229257130912 : True := trivial
theorem top.tw12896061891902650272 : True := trivial
theorem top.tw17953984050398360512 : True := trivial
theorem top.tw3764141193738528704 : True := trivial
theorem top.tw11613256710310857696 : True := trivial
theorem top.tw10947151441379659809 : True := trivial
theorem top.tw2847958352784047137 : True := trivial
theorem top.tw9666326922614434849 : True := trivial
theorem top.tw15159858333777297473 : True := trivial
theorem top.tw17795014544551873601 : True := trivial
theorem top.tw14708653179930882113 : True := trivial
theorem top.tw7761843605638006849 : True := trivial
theorem top.tw9953747333497923681 : True := trivial
theorem top.tw2529601377429677153 : True := trivial
theorem top.tw1400011881503588481 : True := trivial
theorem top.tw10892192912376451201 : True := trivial
theorem top.tw2896640688883821729 : True := trivial
theorem top.tw8507776931139520737 : True := trivial
theorem top.tw2770563814800254177 : True := trivial
theorem top.tw1068965626710143233 : True := trivial
theorem top.tw17104280840954017025 : True := trivial
theorem top.tw1227046207026093345 : True := trivial
theorem top.tw443688265066261825 : True := trivial
theorem top.tw4859757453598101857 : True := trivial
theorem top.tw1584292188352093569 : True := trivial
theorem top.tw15506382734810221985 : True := trivial
theorem top.tw18289109515434150305 : True := trivial
theorem top.tw13985988839938425345 : True := trivial
theorem top.tw15177526630643400193 : True := trivial
theorem top.tw8833944927944761889 : True := trivial
theorem top.tw11377482038585738817 : True := trivial
theorem top.tw6480638250107114081 : True := trivial
theorem top.tw12643520174271941249 : True := trivial
theorem top.tw8485949089215259265 : True := trivial
theorem top.tw11045010717311733409 : True := trivial
theorem top.tw6381231289166406305 : True := trivial
theorem top.tw15248220891095644897 : True := trivial
theorem top.tw11845233108574324481 : True := trivial
theorem top.tw1043701613660472097 : True := trivial
theorem top.tw1601500998369573665 : True := trivial
theorem top.tw999761390096101185 : True := trivial
theorem top.tw9016798869158615873 : True := trivial
theorem top.tw462939625794472801 : True := trivial
theorem top.tw3696473221133414273 : True := trivial
theorem top.tw10005945817407372193 : True := trivial
theorem top.tw5303079699428457377 : True := trivial
theorem top.tw9272544492142499777 : True := trivial
theorem top.tw4856909995586565122 : True := trivial
theorem top.tw5647976800219259906 : True := trivial
theorem top.tw2405475915293451298 : True := trivial
theorem top.tw15508944514630427714 : True := trivial
theorem top.tw5184313038246851650 : True := trivial
theorem top.tw9601329371697537090 : True := trivial
theorem top.tw11862920568910387298 : True := trivial
theorem top.tw16542083797698202722 : True := trivial
theorem top.tw4231656071295301730 : True := trivial
theorem top.tw4177254973167742082 : True := trivial
theorem top.tw2029088862249889922 : True := trivial
theorem top.tw5552270689369575618 : True := trivial
theorem top.tw14428541309147478210 : True := trivial
theorem top.tw728428047077509346 : True := trivial
theorem top.tw18404935858338921730 : True := trivial
theorem top.tw3217022616335106338 : True := trivial
theorem top.tw2531698151371588898 : True := trivial
theorem top.tw7314081408670574914 : True := trivial
theorem top.tw16580785732701462914 : True := trivial
theorem top.tw2972514686349903234 : True := trivial
theorem top.tw2670627174450433442 : True := trivial
theorem top.tw16441578918305252802 : True := trivial
theorem top.tw3767615275625035234 : True := trivial
theorem top.tw1291508964198565346 : True := trivial
theorem top.tw17545328352263074274 : True := trivial
theorem top.tw11153979150802330146 : True := trivial
theorem top.tw1016984595167383106 : True := trivial
theorem top.tw11620634932572840514 : True := trivial
theorem top.tw11263669390164206178 : True := trivial
theorem top.tw8566151710794823266 : True := trivial
theorem top.tw4258143625173308034 : True := trivial
theorem top.tw15823732540823425666 : True := trivial
theorem top.tw15748125925826647682 : True := trivial
theorem top.tw5958459099580689026 : True := trivial
theorem top.tw15254643099363442306 : True := trivial
theorem top.tw16721989186581611170 : True := trivial
theorem top.tw5411213471307467458 : True := trivial
theorem top.tw9739860059890490050 : True := trivial
theorem top.tw15234444972351076034 : True := trivial
theorem top.tw12502491890553978562 : True := trivial
theorem top.tw5728218623943512802 : True := trivial
theorem top.tw3302753350502126306 : True := trivial
theorem top.tw7538252964068480738 : True := trivial
theorem top.tw11470690223818410786 : True := trivial
theorem top.tw12425085872883035938 : True := trivial
theorem top.tw4730768163679209282 : True := trivial
theorem top.tw4392038535549328194 : True := trivial
theorem top.tw17103177528636943170 : True := trivial
theorem top.tw14751435942891637570 : True := trivial
theorem top.tw9930815651645962114 : True := trivial
theorem top.tw6220391956798857122 : True := trivial
theorem top.tw17490797095573647266 : True := trivial
theorem top.tw11735923915801401282 : True := trivial
theorem top.tw450566749975022562 : True := trivial
theorem top.tw16878204669230926818 : True := trivial
theorem top.tw8321918168302905379 : True := trivial
theorem top.tw2988451766255067171 : True := trivial
theorem top.tw3644161924160858147 : True := trivial
theorem top.tw14235281626263879747 : True := trivial
theorem top.tw9961057766049560675 : True := trivial
theorem top.tw13990698242589431971 : True := trivial
theorem top.tw10414433010598505635 : True := trivial
theorem top.tw8311017846404947139 : True := trivial
theorem top.tw6756868429301003459 : True := trivial
theorem top.tw10505224238033894595 : True := trivial
theorem top.tw6761616313442571491 : True := trivial
theorem top.tw4010397242664982755 : True := trivial
theorem top.tw15696354942287192291 : True := trivial
theorem top.tw15073315481182737699 : True := trivial
theorem top.tw15687709949711836451 : True := trivial
theorem top.tw9835852885743449411 : True := trivial
theorem top.tw3704924817259034979 : True := trivial
theorem top.tw4977374598719398275 : True := trivial
theorem top.tw1212798325632107971 : True := trivial
theorem top.tw5163715390036670947 : True := trivial
theorem top.tw15029563650323070435 : True := trivial
theorem top.tw6821124136996835843 : True := trivial
theorem top.tw11384800866962632227 : True := trivial
theorem top.tw65929781887070819 : True := trivial
theorem top.tw10936122117785486979 : True := trivial
theorem top.tw11939397010239605379 : True := trivial
theorem top.tw3871027444623705763 : True := trivial
theorem top.tw17474498911051797155 : True := trivial
theorem top.tw15008207993883188931 : True := trivial
theorem top.tw9149571693438533347 : True := trivial
theorem top.tw4532190169414405891 : True := trivial
theorem top.tw14632489290957082403 : True := trivial
theorem top.tw15740088241188596515 : True := trivial
theorem top.tw14796646475526232899 : True := trivial
theorem top.tw3095723055068941187 : True := trivial
theorem top.tw15024216053386777475 : True := trivial
theorem top.tw12521587561680038787 : True := trivial
theorem top.tw13305523845174962083 : True := trivial
theorem top.tw1297684725254868899 : True := trivial
theorem top.tw9590619109379692515 : True := trivial
theorem top.tw2367422256012758020 : True := trivial
theorem top.tw16054190913257422852 : True := trivial
theorem top.tw14920630486856261636 : True := trivial
theorem top.tw3848903353894205444 : True := trivial
theorem top.tw7320551387929283620 : True := trivial
theorem top.tw15836908640704697380 : True := trivial
theorem top.tw7847352863974893604 : True := trivial
theorem top.tw14608685727046917156 : True := trivial
theorem top.tw2287823674025257028 : True := trivial
theorem top.tw2737145857125637188 : True := trivial
theorem top.tw8155677260382574692 : True := trivial
theorem top.tw15740948416001004644 : True := trivial
theorem top.tw12033610942823940228 : True := trivial
theorem top.tw6292954644110606532 : True := trivial
theorem top.tw12787338502077490372 : True := trivial
theorem top.tw15212760480394562756 : True := trivial
theorem top.tw16734371015571099844 : True := trivial
theorem top.tw8281120267493503204 : True := trivial
theorem top.tw14450715343900746980 : True := trivial
theorem top.tw13710211086531791108 : True := trivial
theorem top.tw9831455883205970180 : True := trivial
theorem top.tw3831216023754155268 : True := trivial
theorem top.tw10694878333477680388 : True := trivial
theorem top.tw401921906979044612 : True := trivial
theorem top.tw17420174224997489956 : True := trivial
theorem top.tw146815374380898660 : True := trivial
theorem top.tw14987219478266130788 : True := trivial
theorem top.tw7033079012710635876 : True := trivial
theorem top.tw305557533498188196 : True := trivial
theorem top.tw1717825165581474212 : True := trivial
theorem top.tw8672883130414831044 : True := trivial
theorem top.tw7817637940432870852 : True := trivial
theorem top.tw8746584487950033348 : True := trivial
theorem top.tw15525995667512963556 : True := trivial
theorem top.tw12764151676501842404 : True := trivial
theorem top.tw15498596964979890660 : True := trivial
theorem top.tw16058212318047004132 : True := trivial
theorem top.tw370947364307004932 : True := trivial
theorem top.tw10248073240650190340 : True := trivial
theorem top.tw13012589842206080548 : True := trivial
theorem top.tw941743491117558340 : True := trivial
theorem top.tw14459580976405569124 : True := trivial
theorem top.tw12483720753089274532 : True := trivial
theorem top.tw3418912648064540324 : True := trivial
theorem top.tw15262977503361262276 : True := trivial
theorem top.tw13896958669275611876 : True := trivial
theorem top.tw814325599930780420 : True := trivial
theorem top.tw4282000862649549572 : True := trivial
theorem top.tw7513348675853666084 : True := trivial
theorem top.tw2700199365505918788 : True := trivial
theorem top.tw8355760468068845380 : True := trivial
theorem top.tw4292522238394942308 : True := trivial
theorem top.tw11093206078495630212 : True := trivial
theorem top.tw16258771989139608452 : True := trivial
theorem top.tw6763507551630497732 : True := trivial
theorem top.tw7671549972530922468 : True := trivial
theorem top.tw17412589854805754852 : True := trivial
theorem top.tw3735150638455610340 : True := trivial
theorem top.tw4656485037274611717 : True := trivial
theorem top.tw16120041803238788101 : True := trivial
theorem top.tw15646934709686841381 : True := trivial
theorem top.tw17810072253543177317 : True := trivial
theorem top.tw2565563351968343141 : True := trivial
theorem top.tw4691186174975459493 : True := trivial
theorem top.tw18330144715369815205 : True := trivial
theorem top.tw3796891538752321733 : True := trivial
theorem top.tw7280543176740627685 : True := trivial
theorem top.tw15833254233020807429 : True := trivial
theorem top.tw3657543652526465285 : True := trivial
theorem top.tw8892184565913893157 : True := trivial
theorem top.tw2685012915969955173 : True := trivial
theorem top.tw3695669965767098725 : True := trivial
theorem top.tw7069076742222632293 : True := trivial
theorem top.tw13001836021917841797 : True := trivial
theorem top.tw18201758440048473509 : True := trivial
theorem top.tw679676368844127653 : True := trivial
theorem top.tw9227541089923242437 : True := trivial
theorem top.tw3976154599441133093 : True := trivial
theorem top.tw81815255157605957 : True := trivial
theorem top.tw196536941598035525 : True := trivial
theorem top.tw7313339093194340965 : True := trivial
theorem top.tw1236304545764765349 : True := trivial
theorem top.tw7925146906966333093 : True := trivial
theorem top.tw8212240652046128837 : True := trivial
theorem top.tw9059832203979395877 : True := trivial
theorem top.tw15401514717468139301 : True := trivial
theorem top.tw17033825039287860005 : True := trivial
theorem top.tw9685713192446186341 : True := trivial
theorem top.tw8363718466572441477 : True := trivial
theorem top.tw11592465598724292549 : True := trivial
theorem top.tw1294077662247117797 : True := trivial
theorem top.tw3669314199184481253 : True := trivial
theorem top.tw2394881407643693062 : True := trivial
theorem top.tw10006222313960134694 : True := trivial
theorem top.tw4840481374290595910 : True := trivial
theorem top.tw3570499242123996262 : True := trivial
theorem top.tw12879618353801967718 : True := trivial
theorem top.tw16736118626332596326 : True := trivial
theorem top.tw6520327441239513222 : True := trivial
theorem top.tw13501252493785611398 : True := trivial
theorem top.tw5379463472682653830 : True := trivial
theorem top.tw9684699057600944294 : True := trivial
theorem top.tw3140898538269762758 : True := trivial
theorem top.tw5590232498371695878 : True := trivial
theorem top.tw297971269722091814 : True := trivial
theorem top.tw11383000496634168614 : True := trivial
theorem top.tw6749217079512962374 : True := trivial
theorem top.tw11134249225346278790 : True := trivial
theorem top.tw14645912567700417926 : True := trivial
theorem top.tw11917448952958348678 : True := trivial
theorem top.tw8541664164027344294 : True := trivial
theorem top.tw8435561252592420358 : True := trivial
theorem top.tw3992022051434115590 : True := trivial
theorem top.tw5969682004907312646 : True := trivial
theorem top.tw9514800995652322822 : True := trivial
theorem top.tw8640399195822439974 : True := trivial
theorem top.tw14042817526060737062 : True := trivial
theorem top.tw10617020205504526918 : True := trivial
theorem top.tw18186074749648716422 : True := trivial
theorem top.tw8420165910927482534 : True := trivial
theorem top.tw1736530178072539846 : True := trivial
theorem top.tw7715697345341360870 : True := trivial
theorem top.tw9614876229902214918 : True := trivial
theorem top.tw731822037213393670 : True := trivial
theorem top.tw14526540143163920134 : True := trivial
theorem top.tw4835499133494076262 : True := trivial
theorem top.tw7615525527098106726 : True := trivial
theorem top.tw15690355392615275366 : True := trivial
theorem top.tw8985709366574770022 : True := trivial
theorem top.tw14671331368771545958 : True := trivial
theorem top.tw9694206877528517478 : True := trivial
theorem top.tw5860347150701562758 : True := trivial
theorem top.tw2506305409684761478 : True := trivial
theorem top.tw10783980745131425670 : True := trivial
theorem top.tw8679839319945467846 : True := trivial
theorem top.tw8939158312904601542 : True := trivial
theorem top.tw4870201379501977574 : True := trivial
theorem top.tw4807402645868434406 : True := trivial
theorem top.tw10467260515200827399 : True := trivial
theorem top.tw3195968871104189447 : True := trivial
theorem top.tw16840627104734473223 : True := trivial
theorem top.tw9572121911122791463 : True := trivial
theorem top.tw11189890337720088615 : True := trivial
theorem top.tw6491118196486620199 : True := trivial
theorem top.tw5078243831526850631 : True := trivial
theorem top.tw860223938195835975 : True := trivial
theorem top.tw11459358961799972967 : True := trivial
theorem top.tw12256363837256957063 : True := trivial
theorem top.tw953821971998124167 : True := trivial
theorem top.tw8043003576528973991 : True := trivial
theorem top.tw53344730913325255 : True := trivial
theorem top.tw11443710868159068359 : True := trivial
theorem top.tw1697544655201012999 : True := trivial
theorem top.tw13532860479073427719 : True := trivial
theorem top.tw6459276657848829223 : True := trivial
theorem top.tw1054488965285714247 : True := trivial
theorem top.tw9759319705405543751 : True := trivial
theorem top.tw1950521091445644615 : True := trivial
theorem top.tw6176384092110617959 : True := trivial
theorem top.tw2731995056826638727 : True := trivial
theorem top.tw6286779285267259847 : True := trivial
theorem top.tw14214845130331304391 : True := trivial
theorem top.tw15735037969156040135 : True := trivial
theorem top.tw12931362102233154023 : True := trivial
theorem top.tw18236517294668709415 : True := trivial
theorem top.tw9165953624949470791 : True := trivial
theorem top.tw4111001743050654279 : True := trivial
theorem top.tw2050295075708095047 : True := trivial
theorem top.tw12545222027267286695 : True := trivial
theorem top.tw6883741973766446791 : True := trivial
theorem top.tw10864713392326063847 : True := trivial
theorem top.tw2404127567346610951 : True := trivial
theorem top.tw13968125046926948103 : True := trivial
theorem top.tw13090165191389475591 : True := trivial
theorem top.tw5186518429493523239 : True := trivial
theorem top.tw775762912060472103 : True := trivial
theorem top.tw12819366960792805191 : True := trivial
theorem top.tw13385244156195431271 : True := trivial
theorem top.tw14214649769353832295 : True := trivial
theorem top.tw10361075674979980167 : True := trivial
theorem top.tw3581848524822189991 : True := trivial
theorem top.tw2859833716702649255 : True := trivial
theorem top.tw12317137736924338119 : True := trivial
theorem top.tw14145802354927516647 : True := trivial
theorem top.tw7657828476027519975 : True := trivial
theorem top.tw8013090884974467112 : True := trivial
theorem top.tw5244899138074338376 : True := trivial
theorem top.tw16982378080980825192 : True := trivial
theorem top.tw13994475860397038760 : True := trivial
theorem top.tw5535988348211436712 : True := trivial
theorem top.tw10643057118474118344 : True := trivial
theorem top.tw16770000883354449096 : True := trivial
theorem top.tw14615657086365298920 : True := trivial
theorem top.tw9487724021038755048 : True := trivial
theorem top.tw16439428074185983240 : True := trivial
theorem top.tw13864677062968915208 : True := trivial
theorem top.tw708234853630380328 : True := trivial
theorem top.tw2685745773621513544 : True := trivial
theorem top.tw5240389563564037448 : True := trivial
theorem top.tw9757572049824486728 : True := trivial
theorem top.tw11635994124231255368 : True := trivial
theorem top.tw151297168226168136 : True := trivial
theorem top.tw3261557481417251176 : True := trivial
theorem top.tw7108139096449030536 : True := trivial
theorem top.tw14512255991650004360 : True := trivial
theorem top.tw4205137553216949640 : True := trivial
theorem top.tw18063644159110109576 : True := trivial
theorem top.tw6370870915552960936 : True := trivial
theorem top.tw83393220934416808 : True := trivial
theorem top.tw13915387964903991752 : True := trivial
theorem top.tw15817181387143870920 : True := trivial
theorem top.tw1486479319815781832 : True := trivial
theorem top.tw3603051052118289896 : True := trivial
theorem top.tw15743347864482560488 : True := trivial
theorem top.tw12622177474791663080 : True := trivial
theorem top.tw17916939684832112104 : True := trivial
theorem top.tw9723989250521069032 : True := trivial
theorem top.tw16414630628198896168 : True := trivial
theorem top.tw2564807258711394888 : True := trivial
theorem top.tw4705723845826882120 : True := trivial
theorem top.tw11828478481110319688 : True := trivial
theorem top.tw12638030207367898728 : True := trivial
theorem top.tw12944596839952905832 : True := trivial
theorem top.tw10657950659306570408 : True := trivial
theorem top.tw5667650583090716360 : True := trivial
theorem top.tw6460121766331871944 : True := trivial
theorem top.tw17595191090738125544 : True := trivial
theorem top.tw10648311167861321448 : True := trivial
theorem top.tw14677765105775291144 : True := trivial
theorem top.tw11408453963512735496 : True := trivial
theorem top.tw2249405535684624136 : True := trivial
theorem top.tw10233937372900511528 : True := trivial
theorem top.tw594810645892935528 : True := trivial
theorem top.tw6042063481754889096 : True := trivial
theorem top.tw137813150952109960 : True := trivial
theorem top.tw4501217679856968648 : True := trivial
theorem top.tw7230903212357928904 : True := trivial
theorem top.tw4916261283513009128 : True := trivial
theorem top.tw517144808224063464 : True := trivial
theorem top.tw479018264907363369 : True := trivial
theorem top.tw1792224892710378537 : True := trivial
theorem top.tw12573315948526539849 : True := trivial
theorem top.tw6906291655842520137 : True := trivial
theorem top.tw32865551896584297 : True := trivial
theorem top.tw13177472732611162249 : True := trivial
theorem top.tw2047500489365003465 : True := trivial
theorem top.tw15878805988109762761 : True := trivial
theorem top.tw7896245365604500681 : True := trivial
theorem top.tw12397598024624889033 : True := trivial
theorem top.tw10548783162686979305 : True := trivial
theorem top.tw15860264024139754761 : True := trivial
theorem top.tw10549977736560136457 : True := trivial
theorem top.tw13303987763403120937 : True := trivial
theorem top.tw12287887523310495049 : True := trivial
theorem top.tw3909029901177050473 : True := trivial
theorem top.tw17103585973383926153 : True := trivial
theorem top.tw2580922434103091657 : True := trivial
theorem top.tw5290597957214086601 : True := trivial
theorem top.tw6786057226368545225 : True := trivial
theorem top.tw10512489437642701289 : True := trivial
theorem top.tw14082171712413598185 : True := trivial
theorem top.tw3618190572293784073 : True := trivial
theorem top.tw16123964013534891561 : True := trivial
theorem top.tw6509661102738689577 : True := trivial
theorem top.tw4555866861457887817 : True := trivial
theorem top.tw11561827921928013385 : True := trivial
theorem top.tw13290321428070320777 : True := trivial
theorem top.tw15569959144833144457 : True := trivial
theorem top.tw7675417749720738473 : True := trivial
theorem top.tw7980593446034420393 : True := trivial
theorem top.tw14687197162769931945 : True := trivial
theorem top.tw16782997733028217545 : True := trivial
theorem top.tw8637452081102412489 : True := trivial
theorem top.tw13571448547899197161 : True := trivial
theorem top.tw7845129631348957993 : True := trivial
theorem top.tw12777601194060584777 : True := trivial
theorem top.tw657111498738832265 : True := trivial
theorem top.tw3087888393795971977 : True := trivial
theorem top.tw9326722878772556681 : True := trivial
theorem top.tw3378803678994701225 : True := trivial
theorem top.tw17788931634197215145 : True := trivial
theorem top.tw516228168201391017 : True := trivial
theorem top.tw4671429814451907529 : True := trivial
theorem top.tw7855079511596107753 : True := trivial
theorem top.tw10915162052029792233 : True := trivial
theorem top.tw2770239361232196585 : True := trivial
theorem top.tw13187519465064655849 : True := trivial
theorem top.tw8622502720953521162 : True := trivial
theorem top.tw12043218685254973450 : True := trivial
theorem top.tw9990226795618131978 : True := trivial
theorem top.tw3265191590900254762 : True := trivial
theorem top.tw339143206060000330 : True := trivial
theorem top.tw6600658504840714314 : True := trivial
theorem top.tw2732273902793177162 : True := trivial
theorem top.tw8729362747519067210 : True := trivial
theorem top.tw3315250197877816394 : True := trivial
theorem top.tw16674975167109581930 : True := trivial
theorem top.tw12756434147638494346 : True := trivial
theorem top.tw9059672392935016618 : True := trivial
theorem top.tw10763682846017881258 : True := trivial
theorem top.tw12166907935582030026 : True := trivial
theorem top.tw10187724287525710026 : True := trivial
theorem top.tw8523463495250067690 : True := trivial
theorem top.tw7204493036743257322 : True := trivial
theorem top.tw14317375437502057738 : True := trivial
theorem top.tw1293289543672728842 : True := trivial
theorem top.tw9233715247699887402 : True := trivial
theorem top.tw5483185372664623402 : True := trivial
theorem top.tw5058314954733539658 : True := trivial
theorem top.tw9437893007894698314 : True := trivial
theorem top.tw17160434163424456010 : True := trivial
theorem top.tw342308947776675178 : True := trivial
theorem top.tw5804503181746721162 : True := trivial
theorem top.tw6885214360128481674 : True := trivial
theorem top.tw501154541418245514 : True := trivial
theorem top.tw16004416686337608138 : True := trivial
theorem top.tw14372152842798730730 : True := trivial
theorem top.tw2369445192022557226 : True := trivial
theorem top.tw15976228082101565994 : True := trivial
theorem top.tw2788377495573325354 : True := trivial
theorem top.tw1595350964381101642 : True := trivial
theorem top.tw2125386657190883914 : True := trivial
theorem top.tw12218787953657430602 : True := trivial
theorem top.tw1999819345807860298 : True := trivial
theorem top.tw8184561461823581802 : True := trivial
theorem top.tw12193372218175167114 : True := trivial
theorem top.tw17085176360113175178 : True := trivial
theorem top.tw7717162694582976202 : True := trivial
theorem top.tw13844505572957833930 : True := trivial
theorem top.tw5938710623178642122 : True := trivial
theorem top.tw9919435345466941130 : True := trivial
theorem top.tw17469865338272021226 : True := trivial
theorem top.tw13889309363888878346 : True := trivial
theorem top.tw16068562728529669930 : True := trivial
theorem top.tw1142465760834251562 : True := trivial
theorem top.tw1655259298481077034 : True := trivial
theorem top.tw1321871150748368714 : True := trivial
theorem top.tw14724332232928298890 : True := trivial
theorem top.tw3299242776949789610 : True := trivial
theorem top.tw8443935842833279946 : True := trivial
theorem top.tw16525863338940772298 : True := trivial
theorem top.tw9951221954081769418 : True := trivial
theorem top.tw5513142621748847562 : True := trivial
theorem top.tw8975108423156789194 : True := trivial
theorem top.tw6624316729101989866 : True := trivial
theorem top.tw6057728870046649322 : True := trivial
theorem top.tw9308151640839208011 : True := trivial
theorem top.tw5005317128667965579 : True := trivial
theorem top.tw16149628235652541579 : True := trivial
theorem top.tw14248925298954806443 : True := trivial
theorem top.tw6919701780365589675 : True := trivial
theorem top.tw17794366733547915435 : True := trivial
theorem top.tw13178059906610389163 : True := trivial
theorem top.tw13370750898655102155 : True := trivial
theorem top.tw2683898200743741643 : True := trivial
theorem top.tw4828031223510198475 : True := trivial
theorem top.tw3002795768020413707 : True := trivial
theorem top.tw14810493832863049995 : True := trivial
theorem top.tw9908339238214195531 : True := trivial
theorem top.tw10328360990557673835 : True := trivial
theorem top.tw1312780250039628139 : True := trivial
theorem top.tw8598144960395782539 : True := trivial
theorem top.tw6812286434817487243 : True := trivial
theorem top.tw9622763587122877835 : True := trivial
theorem top.tw12031303853943761323 : True := trivial
theorem top.tw6431110157172167083 : True := trivial
theorem top.tw13706816188851595723 : True := trivial
theorem top.tw6430265229019958763 : True := trivial
theorem top.tw9806617501295524395 : True := trivial
theorem top.tw7587601194962177611 : True := trivial
theorem top.tw6674990990233134667 : True := trivial
theorem top.tw16415559393655328363 : True := trivial
theorem top.tw9936536881743500907 : True := trivial
theorem top.tw8779778587388263019 : True := trivial
theorem top.tw15350006587542526571 : True := trivial
theorem top.tw13272337422414781067 : True := trivial
theorem top.tw17316021358764173963 : True := trivial
theorem top.tw1522322319653140107 : True := trivial
theorem top.tw8140125068956082859 : True := trivial
theorem top.tw14709367294833977003 : True := trivial
theorem top.tw17444329988762607307 : True := trivial
theorem top.tw17391775962083533515 : True := trivial
theorem top.tw956942650209027819 : True := trivial
theorem top.tw15766219058475960075 : True := trivial
theorem top.tw2170277104671012619 : True := trivial
theorem top.tw17315540178315561739 : True := trivial
theorem top.tw7673058066778466091 : True := trivial
theorem top.tw17489137672866753323 : True := trivial
theorem top.tw14282377253939248939 : True := trivial
theorem top.tw15271675978053873483 : True := trivial
theorem top.tw15678150376924940171 : True := trivial
theorem top.tw17774833976778514315 : True := trivial
theorem top.tw9962302188120564619 : True := trivial
theorem top.tw2063449620868658059 : True := trivial
theorem top.tw9233335307524088747 : True := trivial
theorem top.tw13713866747541496747 : True := trivial
theorem top.tw5786237608948540331 : True := trivial
theorem top.tw12329864456250741675 : True := trivial
theorem top.tw17576975557295073227 : True := trivial
theorem top.tw10871174231137468428 : True := trivial
theorem top.tw9227057690007400460 : True := trivial
theorem top.tw5915399644114372684 : True := trivial
theorem top.tw15985680467844229196 : True := trivial
theorem top.tw7191137982244381804 : True := trivial
theorem top.tw9776112803966576748 : True := trivial
theorem top.tw7249705126575804556 : True := trivial
theorem top.tw16689171030330870956 : True := trivial
theorem top.tw7926136590108786892 : True := trivial
theorem top.tw13029900630750994668 : True := trivial
theorem top.tw5077617475879078156 : True := trivial
theorem top.tw12704153843328093452 : True := trivial
theorem top.tw15744752440731449612 : True := trivial
theorem top.tw2443449257678562572 : True := trivial
theorem top.tw16919938111736474924 : True := trivial
theorem top.tw5609151216138764652 : True := trivial
theorem top.tw9833397302626899308 : True := trivial
theorem top.tw17046948494117081484 : True := trivial
theorem top.tw3331421620988305804 : True := trivial
theorem top.tw3969286963782609292 : True := trivial
theorem top.tw5240762971458559404 : True := trivial
theorem top.tw8347795973495727564 : True := trivial
theorem top.tw13799840507378627052 : True := trivial
theorem top.tw12275968198652590572 : True := trivial
theorem top.tw6333448901615975916 : True := trivial
theorem top.tw9195894827357321740 : True := trivial
theorem top.tw10768140376307724812 : True := trivial
theorem top.tw6503730183909636620 : True := trivial
theorem top.tw93012567124736588 : True := trivial
theorem top.tw8746941081350896204 : True := trivial
theorem top.tw11542710104232473196 : True := trivial
theorem top.tw17781115878593249900 : True := trivial
theorem top.tw3254097082911018636 : True := trivial
theorem top.tw17377934564383891116 : True := trivial
theorem top.tw12603656398198563500 : True := trivial
theorem top.tw4951766788466123468 : True := trivial
theorem top.tw12958664272152378060 : True := trivial
theorem top.tw2511388062720753356 : True := trivial
theorem top.tw9358617607463016204 : True := trivial
theorem top.tw16240068400928781132 : True := trivial
theorem top.tw10333212225245001580 : True := trivial
theorem top.tw14429954968415203212 : True := trivial
theorem top.tw2680655200719965100 : True := trivial
theorem top.tw13902025155065610156 : True := trivial
theorem top.tw13546161746385187788 : True := trivial
theorem top.tw10404823597219466188 : True := trivial
theorem top.tw17323899518341599180 : True := trivial
theorem top.tw13987285891283452908 : True := trivial
theorem top.tw16326585352142918636 : True := trivial
theorem top.tw2365566498512967660 : True := trivial
theorem top.tw16663450692288620524 : True := trivial
theorem top.tw6942226510957090829 : True := trivial
theorem top.tw6240723676877644813 : True := trivial
theorem top.tw372964977893139469 : True := trivial
theorem top.tw15151295755643613229 : True := trivial
theorem top.tw14453841093610474573 : True := trivial
theorem top.tw15383718091736126541 : True := trivial
theorem top.tw2165817408578904141 : True := trivial
theorem top.tw13822267516522204269 : True := trivial
theorem top.tw55027467381167213 : True := trivial
theorem top.tw18137363274558907533 : True := trivial
theorem top.tw16174758807025615021 : True := trivial
theorem top.tw7527032243904285869 : True := trivial
theorem top.tw17135812771915316397 : True := trivial
theorem top.tw3846862658102513837 : True := trivial
theorem top.tw16352630495959832749 : True := trivial
theorem top.tw17555251805378815213 : True := trivial
theorem top.tw7744093853086628109 : True := trivial
theorem top.tw15542300402876303629 : True := trivial
theorem top.tw17337222044243258637 : True := trivial
theorem top.tw6937078607013753133 : True := trivial
theorem top.tw16844067456194695469 : True := trivial
theorem top.tw4586369020291528013 : True := trivial
theorem top.tw14510474431719978317 : True := trivial
theorem top.tw1112988674713690477 : True := trivial
theorem top.tw11038064363049568621 : True := trivial
theorem top.tw15125931889511115149 : True := trivial
theorem top.tw8330300561463054765 : True := trivial
theorem top.tw3479634599624807885 : True := trivial
theorem top.tw3715792687998586317 : True := trivial
theorem top.tw4047667213573674445 : True := trivial
theorem top.tw13743916774706631149 : True := trivial
theorem top.tw18062624165398249997 : True := trivial
theorem top.tw10774637447528242797 : True := trivial
theorem top.tw2742194189697913485 : True := trivial
theorem top.tw283044589724301 : True := trivial
theorem top.tw682014064893787789 : True := trivial
theorem top.tw13830271770371739309 : True := trivial
theorem top.tw4940147422707163885 : True := trivial
theorem top.tw16719718919923625709 : True := trivial
theorem top.tw1814787853859245837 : True := trivial
theorem top.tw12080426169559351053 : True := trivial
theorem top.tw17964300760807480141 : True := trivial
theorem top.tw8265191368974092141 : True := trivial
theorem top.tw17921175469725437805 : True := trivial
theorem top.tw16869365282274683789 : True := trivial
theorem top.tw672699306608606093 : True := trivial
theorem top.tw10574840078274726829 : True := trivial
theorem top.tw661290744650703789 : True := trivial
theorem top.tw1516213087968936877 : True := trivial
theorem top.tw18362437273917381549 : True := trivial
theorem top.tw12427389293880184781 : True := trivial
theorem top.tw13191473780850816973 : True := trivial
theorem top.tw13318506193475082254 : True := trivial
theorem top.tw16357309143852133390 : True := trivial
theorem top.tw7439886461454727182 : True := trivial
theorem top.tw2104741419117168686 : True := trivial
theorem top.tw1974259917200649262 : True := trivial
theorem top.tw16426902794028739630 : True := trivial
theorem top.tw14502225709538309166 : True := trivial
theorem top.tw16994376123345812558 : True := trivial
theorem top.tw11840804652615492782 : True := trivial
theorem top.tw4636308790740814030 : True := trivial
theorem top.tw12385144161495827662 : True := trivial
theorem top.tw6203543418390704334 : True := trivial
theorem top.tw2809488002615124206 : True := trivial
theorem top.tw12209182163369298222 : True := trivial
theorem top.tw15451780782824253742 : True := trivial
theorem top.tw7297446738713254254 : True := trivial
theorem top.tw4131498621145694574 : True := trivial
theorem top.tw14429230371299607918 : True := trivial
theorem top.tw6506245621856685454 : True := trivial
theorem top.tw405421117753717134 : True := trivial
theorem top.tw5476889619067714990 : True := trivial
theorem top.tw2544169868661182894 : True := trivial
theorem top.tw18386854893347148238 : True := trivial
theorem top.tw13474863142627684814 : True := trivial
theorem top.tw5571243529121415630 : True := trivial
theorem top.tw6916252892733821390 : True := trivial
theorem top.tw6647988282438417870 : True := trivial
theorem top.tw12894197372075662830 : True := trivial
theorem top.tw2462062305354472974 : True := trivial
theorem top.tw9822532417609929294 : True := trivial
theorem top.tw10558761922227201614 : True := trivial
theorem top.tw1142415686869020238 : True := trivial
theorem top.tw15240379268576122478 : True := trivial
theorem top.tw893595371883084398 : True := trivial
theorem top.tw6124053682588569230 : True := trivial
theorem top.tw14611434983143301774 : True := trivial
theorem top.tw10362775142378211054 : True := trivial
theorem top.tw17542608870123051758 : True := trivial
theorem top.tw5380135791562185454 : True := trivial
theorem top.tw8922926602274725614 : True := trivial
theorem top.tw6553124395847675662 : True := trivial
theorem top.tw10367675484739944270 : True := trivial
theorem top.tw15299407806266782574 : True := trivial
theorem top.tw12718909917080609646 : True := trivial
theorem top.tw15503665604740900718 : True := trivial
theorem top.tw4547113066930546574 : True := trivial
theorem top.tw10317287140990440334 : True := trivial
theorem top.tw12958502747184954254 : True := trivial
theorem top.tw15438179002428589006 : True := trivial
theorem top.tw3453223234828964814 : True := trivial
theorem top.tw15985961358823992270 : True := trivial
theorem top.tw5938664839603501006 : True := trivial
theorem top.tw10752159689236168654 : True := trivial
theorem top.tw18229784292405043182 : True := trivial
theorem top.tw11503242561204267055 : True := trivial
theorem top.tw17176029603704830031 : True := trivial
theorem top.tw18185382058313985135 : True := trivial
theorem top.tw8640417174963836015 : True := trivial
theorem top.tw2910609919460849807 : True := trivial
theorem top.tw6898770573198911631 : True := trivial
theorem top.tw1759469698184221871 : True := trivial
theorem top.tw11334350811105764591 : True := trivial
theorem top.tw1638113669730673903 : True := trivial
theorem top.tw1123975283337734383 : True := trivial
theorem top.tw14697636140705633519 : True := trivial
theorem top.tw17565814175750979855 : True := trivial
theorem top.tw6684265986288010511 : True := trivial
theorem top.tw8560541052185303311 : True := trivial
theorem top.tw381845443943030031 : True := trivial
theorem top.tw16900427199656544559 : True := trivial
theorem top.tw9631074621892390191 : True := trivial
theorem top.tw5596365628329696591 : True := trivial
theorem top.tw4655869559712951663 : True := trivial
theorem top.tw5311694039014081935 : True := trivial
theorem top.tw7737320934136571279 : True := trivial
theorem top.tw7198060816514059695 : True := trivial
theorem top.tw9511011655687381423 : True := trivial
theorem top.tw17240160907184977327 : True := trivial
theorem top.tw2422214840401454511 : True := trivial
theorem top.tw13326734554550294991 : True := trivial
theorem top.tw9913501989792142831 : True := trivial
theorem top.tw11765434788231831023 : True := trivial
theorem top.tw1880918794155911695 : True := trivial
theorem top.tw16809779246217341487 : True := trivial
theorem top.tw11779653239440661071 : True := trivial
theorem top.tw10010203797729834575 : True := trivial
theorem top.tw9590735534726013551 : True := trivial
theorem top.tw11145643937294416527 : True := trivial
theorem top.tw2103985501979894447 : True := trivial
theorem top.tw17138679496734019247 : True := trivial
theorem top.tw17756194745548210895 : True := trivial
theorem top.tw8369368087495890639 : True := trivial
theorem top.tw5581607755468803823 : True := trivial
theorem top.tw46980244435833615 : True := trivial
theorem top.tw5341432206176310031 : True := trivial
theorem top.tw17707810329133513487 : True := trivial
theorem top.tw10567129059001840431 : True := trivial
theorem top.tw10296497611174029103 : True := trivial
theorem top.tw7883991259331220303 : True := trivial
theorem top.tw11762496359356365647 : True := trivial
theorem top.tw2126296398998916975 : True := trivial
theorem top.tw9319964216562750351 : True := trivial
theorem top.tw4462018665069346703 : True := trivial
theorem top.tw352232786441526191 : True := trivial
theorem top.tw9378254376102152143 : True := trivial
theorem top.tw1559226430018442191 : True := trivial
theorem top.tw14041154887136619503 : True := trivial
theorem top.tw1040915598704419856 : True := trivial
theorem top.tw16793365374058956912 : True := trivial
theorem top.tw4186445540838780016 : True := trivial
theorem top.tw1843344800811705456 : True := trivial
theorem top.tw2145171640123136144 : True := trivial
theorem top.tw12392516345856041104 : True := trivial
theorem top.tw10968536479657739408 : True := trivial
theorem top.tw6893477703608230032 : True := trivial
theorem top.tw3591793333600012464 : True := trivial
theorem top.tw390997316461189296 : True := trivial
theorem top.tw3664424711883983056 : True := trivial
theorem top.tw5235370132326077648 : True := trivial
theorem top.tw11982747722937265360 : True := trivial
theorem top.tw8538268897159353584 : True := trivial
theorem top.tw7414872774492366064 : True := trivial
theorem top.tw10276331973627342096 : True := trivial
theorem top.tw104434173382791472 : True := trivial
theorem top.tw12554540806306477360 : True := trivial
theorem top.tw13901205277877782832 : True := trivial
theorem top.tw9382581127745807760 : True := trivial
theorem top.tw2009410202504348048 : True := trivial
theorem top.tw1585457916280141200 : True := trivial
theorem top.tw8735323631387419056 : True := trivial
theorem top.tw5341934141677670832 : True := trivial
theorem top.tw2712389131950775728 : True := trivial
theorem top.tw7444641836354208208 : True := trivial
theorem top.tw7908083297732987344 : True := trivial
theorem top.tw17576949682797635024 : True := trivial
theorem top.tw3061314461118691792 : True := trivial
theorem top.tw7849799639701767664 : True := trivial
theorem top.tw2752453847809088016 : True := trivial
theorem top.tw602653604445443664 : True := trivial
theorem top.tw2968346561183084112 : True := trivial
theorem top.tw11873480291556300464 : True := trivial
theorem top.tw14537839394382259888 : True := trivial
theorem top.tw15327166235007040176 : True := trivial
theorem top.tw10577396366154187472 : True := trivial
theorem top.tw8410488445778877200 : True := trivial
theorem top.tw7600245330811189008 : True := trivial
theorem top.tw11842451847925006096 : True := trivial
theorem top.tw15095372191486117680 : True := trivial
theorem top.tw12342655685612074800 : True := trivial
theorem top.tw7360070258638436176 : True := trivial
theorem top.tw6900192571869012848 : True := trivial
theorem top.tw14861896470697024400 : True := trivial
theorem top.tw3242435153667248048 : True := trivial
theorem top.tw12610894086807397328 : True := trivial
theorem top.tw4383139521930768336 : True := trivial
theorem top.tw12507017104952529904 : True := trivial
theorem top.tw8393700709775954928 : True := trivial
theorem top.tw6263863080660174929 : True := trivial
theorem top.tw11689902799995417681 : True := trivial
theorem top.tw7429413206186439793 : True := trivial
theorem top.tw6196800358849779857 : True := trivial
theorem top.tw10596656941412748465 : True := trivial
theorem top.tw2926424126403749041 : True := trivial
theorem top.tw3820434133910038737 : True := trivial
theorem top.tw18086089286151905521 : True := trivial
theorem top.tw6143595290313323761 : True := trivial
theorem top.tw10996937224433265937 : True := trivial
theorem top.tw1245559373397905713 : True := trivial
theorem top.tw17226846203573267761 : True := trivial
theorem top.tw8547604310838440241 : True := trivial
theorem top.tw7250933059871147345 : True := trivial
theorem top.tw16634809260590126417 : True := trivial
theorem top.tw870079450109401425 : True := trivial
theorem top.tw8297286125493194097 : True := trivial
theorem top.tw14597223018079223185 : True := trivial
theorem top.tw5151264090131730833 : True := trivial
theorem top.tw8823455108540655025 : True := trivial
theorem top.tw7913636548009798097 : True := trivial
theorem top.tw17828378304095215089 : True := trivial
theorem top.tw11457754044182789617 : True := trivial
theorem top.tw9305691244287143441 : True := trivial
theorem top.tw2835187731363253809 : True := trivial
theorem top.tw7522852383072776753 : True := trivial
theorem top.tw10219655510578893393 : True := trivial
theorem top.tw2630061898475652689 : True := trivial
theorem top.tw8693662901424576113 : True := trivial
theorem top.tw1706793611546318481 : True := trivial
theorem top.tw14301671488300290737 : True := trivial
theorem top.tw408693308722189009 : True := trivial
theorem top.tw9166809390415177425 : True := trivial
theorem top.tw5225153198818245361 : True := trivial
theorem top.tw2446451932059125521 : True := trivial
theorem top.tw9335426496214029073 : True := trivial
theorem top.tw2095105360761779985 : True := trivial
theorem top.tw13307591127769906961 : True := trivial
theorem top.tw18008055252877512497 : True := trivial
theorem top.tw7326723310030351153 : True := trivial
theorem top.tw4158126171336067921 : True := trivial
theorem top.tw1990408344712342385 : True := trivial
theorem top.tw2822501910515967889 : True := trivial
theorem top.tw7138430578808182737 : True := trivial
theorem top.tw9811366534603930577 : True := trivial
theorem top.tw4076138812419527698 : True := trivial
theorem top.tw10836530967397901330 : True := trivial
theorem top.tw908825868028484722 : True := trivial
theorem top.tw987869383939708018 : True := trivial
theorem top.tw16597617366809209970 : True := trivial
theorem top.tw7188692134583612594 : True := trivial
theorem top.tw12960919825447276754 : True := trivial
theorem top.tw2287362676942042354 : True := trivial
theorem top.tw9259421805112917234 : True := trivial
theorem top.tw8372035913837991250 : True := trivial
theorem top.tw2907113945770861938 : True := trivial
theorem top.tw3951254518941146482 : True := trivial
theorem top.tw15877122091014420850 : True := trivial
theorem top.tw7949364180301290898 : True := trivial
theorem top.tw8292330764949567954 : True := trivial
theorem top.tw14657780768301432306 : True := trivial
theorem top.tw16354691339474908690 : True := trivial
theorem top.tw156775121503410738 : True := trivial
theorem top.tw8720027088463671890 : True := trivial
theorem top.tw17504273579162756690 : True := trivial
theorem top.tw3843465024185675410 : True := trivial
theorem top.tw13947007510445982354 : True := trivial
theorem top.tw1137235612907882162 : True := trivial
theorem top.tw16866024460163772082 : True := trivial
theorem top.tw427420600052151026 : True := trivial
theorem top.tw8645369167282567922 : True := trivial
theorem top.tw705360758644809490 : True := trivial
theorem top.tw9328819404386307858 : True := trivial
theorem top.tw14399976873020721970 : True := trivial
theorem top.tw13261893007816960818 : True := trivial
theorem top.tw3357215229441099570 : True := trivial
theorem top.tw10987319290404115282 : True := trivial
theorem top.tw15092371282622821202 : True := trivial
theorem top.tw12540527436937284434 : True := trivial
theorem top.tw10090393231696489298 : True := trivial
theorem top.tw8025738503920905074 : True := trivial
theorem top.tw16550210197400561554 : True := trivial
theorem top.tw2619622883677149074 : True := trivial
theorem top.tw8148004212497801138 : True := trivial
theorem top.tw4699463449715708850 : True := trivial
theorem top.tw18016941796951652274 : True := trivial
theorem top.tw17177869089781658578 : True := trivial
theorem top.tw1483126911874232274 : True := trivial
theorem top.tw16795567611416646642 : True := trivial
theorem top.tw17790942634138044402 : True := trivial
theorem top.tw887695700811335699 : True := trivial
theorem top.tw18297691965846887475 : True := trivial
theorem top.tw6700739122468367443 : True := trivial
theorem top.tw4571971715460732019 : True := trivial
theorem top.tw5507162329139097715 : True := trivial
theorem top.tw9229161468869434483 : True := trivial
theorem top.tw4345882819342510227 : True := trivial
theorem top.tw7387763944681370771 : True := trivial
theorem top.tw2007660962349395123 : True := trivial
theorem top.tw3663364146628395187 : True := trivial
theorem top.tw16204670001084760307 : True := trivial
theorem top.tw13432635357386499347 : True := trivial
theorem top.tw1117029662656177491 : True := trivial
theorem top.tw11141966352661209427 : True := trivial
theorem top.tw5088376156974544275 : True := trivial
theorem top.tw11133666699803404755 : True := trivial
theorem top.tw11732849358908057107 : True := trivial
theorem top.tw14877882586016980531 : True := trivial
theorem top.tw16752354649701903923 : True := trivial
theorem top.tw5398424786039705171 : True := trivial
theorem top.tw16157251822727197267 : True := trivial
theorem top.tw1275901062530889299 : True := trivial
theorem top.tw8879822979380727411 : True := trivial
theorem top.tw8450641986135516787 : True := trivial
theorem top.tw16460436044903216755 : True := trivial
theorem top.tw8903290554218469011 : True := trivial
theorem top.tw13007260833023717011 : True := trivial
theorem top.tw14558130701515357843 : True := trivial
theorem top.tw877433047237710547 : True := trivial
theorem top.tw9843949296442739443 : True := trivial
theorem top.tw12117888159696746259 : True := trivial
theorem top.tw7160873610591055699 : True := trivial
theorem top.tw1924644684860415827 : True := trivial
theorem top.tw5278709424875269971 : True := trivial
theorem top.tw1492452104121835379 : True := trivial
theorem top.tw8874702517807110003 : True := trivial
theorem top.tw7743179893348639699 : True := trivial
theorem top.tw17486766287000646611 : True := trivial
theorem top.tw11133537522755846099 : True := trivial
theorem top.tw2758071753971750899 : True := trivial
theorem top.tw15166127791298437107 : True := trivial
theorem top.tw4526881389914513428 : True := trivial
theorem top.tw5771795636922677268 : True := trivial
theorem top.tw9635476784945057844 : True := trivial
theorem top.tw4181406029030974548 : True := trivial
theorem top.tw6265675901050258516 : True := trivial
theorem top.tw1676862907878916244 : True := trivial
theorem top.tw15918733279669447828 : True := trivial
theorem top.tw13975414291046593716 : True := trivial
theorem top.tw16509065781470453940 : True := trivial
theorem top.tw11803689641445798100 : True := trivial
theorem top.tw16342770487823414484 : True := trivial
theorem top.tw12415523145999629524 : True := trivial
theorem top.tw1394568958698188020 : True := trivial
theorem top.tw9442318146202087700 : True := trivial
theorem top.tw84136930442132756 : True := trivial
theorem top.tw17830291351795818772 : True := trivial
theorem top.tw9407396174263392564 : True := trivial
theorem top.tw7714757148821155124 : True := trivial
theorem top.tw3656269831002480980 : True := trivial
theorem top.tw14789260269991461300 : True := trivial
theorem top.tw7799483888651840948 : True := trivial
theorem top.tw9410359166525395380 : True := trivial
theorem top.tw7079599612431449588 : True := trivial
theorem top.tw14309182039651084788 : True := trivial
theorem top.tw17676611151829563924 : True := trivial
theorem top.tw13291821707692614196 : True := trivial
theorem top.tw17022078359063049780 : True := trivial
theorem top.tw14562072457839527476 : True := trivial
theorem top.tw5691087667936548404 : True := trivial
theorem top.tw8800459187187324500 : True := trivial
theorem top.tw11760055953109336660 : True := trivial
theorem top.tw3698484244233388692 : True := trivial
theorem top.tw1284575025550258836 : True := trivial
theorem top.tw4159251561096739476 : True := trivial
theorem top.tw12535971307161669396 : True := trivial
theorem top.tw11922380849998532372 : True := trivial
theorem top.tw1897025099450329940 : True := trivial
theorem top.tw16759092144687519636 : True := trivial
theorem top.tw6694047246710070196 : True := trivial
theorem top.tw6265701101103706036 : True := trivial
theorem top.tw13983857475226248213 : True := trivial
theorem top.tw4784893810139332661 : True := trivial
theorem top.tw12306412976881803317 : True := trivial
theorem top.tw5225916559131626549 : True := trivial
theorem top.tw16574829098063585333 : True := trivial
theorem top.tw14707807475535933493 : True := trivial
theorem top.tw10577272966987657301 : True := trivial
theorem top.tw8340158742958640245 : True := trivial
theorem top.tw2686433634493928565 : True := trivial
theorem top.tw4796303294375832693 : True := trivial
theorem top.tw2924597203103170677 : True := trivial
theorem top.tw4778504736273101941 : True := trivial
theorem top.tw9854493187847425173 : True := trivial
theorem top.tw6664487174759623829 : True := trivial
theorem top.tw1867163669062818997 : True := trivial
theorem top.tw650146959520709813 : True := trivial
theorem top.tw13047834502658803893 : True := trivial
theorem top.tw11994683656316670133 : True := trivial
theorem top.tw10562855833978642645 : True := trivial
theorem top.tw7008692893051332821 : True := trivial
theorem top.tw11468358511172941013 : True := trivial
theorem top.tw18374746225686918389 : True := trivial
theorem top.tw16882738081622503669 : True := trivial
theorem top.tw8817415213059835157 : True := trivial
theorem top.tw14402358008270493973 : True := trivial
theorem top.tw15687179758580229397 : True := trivial
theorem top.tw4791253341166991637 : True := trivial
theorem top.tw3739144386018749749 : True := trivial
theorem top.tw2167618695193717045 : True := trivial
theorem top.tw15431936980592406869 : True := trivial
theorem top.tw11960245374511038805 : True := trivial
theorem top.tw859137505422859605 : True := trivial
theorem top.tw1988063486488863061 : True := trivial
theorem top.tw6276886402236213621 : True := trivial
theorem top.tw7386116660499605909 : True := trivial
theorem top.tw439095664309466517 : True := trivial
theorem top.tw12079853824583626197 : True := trivial
theorem top.tw575894324575664597 : True := trivial
theorem top.tw4213018616267185653 : True := trivial
theorem top.tw2175593866937868789 : True := trivial
theorem top.tw11203750815551599093 : True := trivial
theorem top.tw18371284783138465269 : True := trivial
theorem top.tw72247145696351765 : True := trivial
theorem top.tw11533307084868028949 : True := trivial
theorem top.tw16034636559557993077 : True := trivial
theorem top.tw8147957265983640181 : True := trivial
theorem top.tw10797620697341660853 : True := trivial
theorem top.tw15242500199121756853 : True := trivial
theorem top.tw4058662728301269685 : True := trivial
theorem top.tw864819663365544661 : True := trivial
theorem top.tw10242591131026960117 : True := trivial
theorem top.tw13345470168829271861 : True := trivial
theorem top.tw9854310039474760501 : True := trivial
theorem top.tw5196900775432865589 : True := trivial
theorem top.tw9777375502002234229 : True := trivial
theorem top.tw10372856604765933493 : True := trivial
theorem top.tw492879137614061493 : True := trivial
theorem top.tw18367679650794681301 : True := trivial
theorem top.tw1366310378809935829 : True := trivial
theorem top.tw4898356984482387957 : True := trivial
theorem top.tw17342085116792181814 : True := trivial
theorem top.tw8813761850579938390 : True := trivial
theorem top.tw14705559076539443318 : True := trivial
theorem top.tw13044034144603486326 : True := trivial
theorem top.tw9800703332001039478 : True := trivial
theorem top.tw4626048006780466326 : True := trivial
theorem top.tw8265311939077410998 : True := trivial
theorem top.tw12443789822770055382 : True := trivial
theorem top.tw9287724387753133302 : True := trivial
theorem top.tw10801874191123338550 : True := trivial
theorem top.tw8054331753737935190 : True := trivial
theorem top.tw17346259052997144950 : True := trivial
theorem top.tw4023782888421380502 : True := trivial
theorem top.tw11116745826364501430 : True := trivial
theorem top.tw5648408011753718230 : True := trivial
theorem top.tw13264354339760550358 : True := trivial
theorem top.tw4736427724481360342 : True := trivial
theorem top.tw13805588055438515702 : True := trivial
theorem top.tw17003929029777066486 : True := trivial
theorem top.tw15362295582089109014 : True := trivial
theorem top.tw11159431927160009238 : True := trivial
theorem top.tw231919175587332662 : True := trivial
theorem top.tw15003358760713899574 : True := trivial
theorem top.tw9366391650621772374 : True := trivial
theorem top.tw15638586536077026902 : True := trivial
theorem top.tw10353446712322349686 : True := trivial
theorem top.tw15169761463676818070 : True := trivial
theorem top.tw8694864300669457046 : True := trivial
theorem top.tw17050326753033342646 : True := trivial
theorem top.tw1195175773429642966 : True := trivial
theorem top.tw4166218997396506358 : True := trivial
theorem top.tw9429129263215473398 : True := trivial
theorem top.tw3473093325804163894 : True := trivial
theorem top.tw8657480035899644758 : True := trivial
theorem top.tw16739174306508632950 : True := trivial
theorem top.tw11646828089304223638 : True := trivial
theorem top.tw3584897518013459382 : True := trivial
theorem top.tw15330153412207162294 : True := trivial
theorem top.tw2985252069258134486 : True := trivial
theorem top.tw913810622518204374 : True := trivial
theorem top.tw7549577893838418902 : True := trivial
theorem top.tw10194810499950245846 : True := trivial
theorem top.tw16281582537960229878 : True := trivial
theorem top.tw419386298079150103 : True := trivial
theorem top.tw6438537300738474071 : True := trivial
theorem top.tw11053662475850362967 : True := trivial
theorem top.tw14466935161476858967 : True := trivial
theorem top.tw17492772389151264855 : True := trivial
theorem top.tw620129878449983639 : True := trivial
theorem top.tw4052878762203253943 : True := trivial
theorem top.tw7458633546980236471 : True := trivial
theorem top.tw1970226141267450039 : True := trivial
theorem top.tw16885616592811714743 : True := trivial
theorem top.tw12318557346453588183 : True := trivial
theorem top.tw7204998973626084599 : True := trivial
theorem top.tw3712731000106771831 : True := trivial
theorem top.tw9332579688445097367 : True := trivial
theorem top.tw12751139281825843639 : True := trivial
theorem top.tw7381879191629600215 : True := trivial
theorem top.tw14996135249977892343 : True := trivial
theorem top.tw3120133295221510679 : True := trivial
theorem top.tw14065501367340364311 : True := trivial
theorem top.tw2312856594315299383 : True := trivial
theorem top.tw8388089289598778967 : True := trivial
theorem top.tw16264823338695392855 : True := trivial
theorem top.tw11889597043561437815 : True := trivial
theorem top.tw4299629679881509495 : True := trivial
theorem top.tw14120148312427719287 : True := trivial
theorem top.tw18444284757076569719 : True := trivial
theorem top.tw15349318334595610263 : True := trivial
theorem top.tw12182655422080760471 : True := trivial
theorem top.tw8143265674769528471 : True := trivial
theorem top.tw8139039716903228087 : True := trivial
theorem top.tw4721632059943922391 : True := trivial
theorem top.tw1981915974141516567 : True := trivial
theorem top.tw7830913209206220567 : True := trivial
theorem top.tw9104712851299545879 : True := trivial
theorem top.tw15722756333993289495 : True := trivial
theorem top.tw4395346232132896567 : True := trivial
theorem top.tw7781603739153083191 : True := trivial
theorem top.tw16487795177693110071 : True := trivial
theorem top.tw9238823003894178615 : True := trivial
theorem top.tw3561193834555079511 : True := trivial
theorem top.tw5868845118606482295 : True := trivial
theorem top.tw14319750081657075607 : True := trivial
theorem top.tw5245862010334584759 : True := trivial
theorem top.tw4331257952254489624 : True := trivial
theorem top.tw17594962761535629368 : True := trivial
theorem top.tw9843447840031818808 : True := trivial
theorem top.tw1131157812783598648 : True := trivial
theorem top.tw10008474027749305400 : True := trivial
theorem top.tw12294689066310865016 : True := trivial
theorem top.tw8376602336982375544 : True := trivial
theorem top.tw11199710921928265848 : True := trivial
theorem top.tw1139600151236580504 : True := trivial
theorem top.tw18134043772397237400 : True := trivial
theorem top.tw3033006917804047512 : True := trivial
theorem top.tw681777741448182936 : True := trivial
theorem top.tw6383614241601562808 : True := trivial
theorem top.tw6623532728838073528 : True := trivial
theorem top.tw5386005190664262872 : True := trivial
theorem top.tw6487610083215253720 : True := trivial
theorem top.tw3347922821702440152 : True := trivial
theorem top.tw9063741608606530840 : True := trivial
theorem top.tw16166457384891526456 : True := trivial
theorem top.tw12725264436868645240 : True := trivial
theorem top.tw2812155379371279736 : True := trivial
theorem top.tw7158002623345892728 : True := trivial
theorem top.tw16262243036561855896 : True := trivial
theorem top.tw18326957874037197240 : True := trivial
theorem top.tw4498253355057717688 : True := trivial
theorem top.tw7985608403216412088 : True := trivial
theorem top.tw12783364522390391256 : True := trivial
theorem top.tw4551080515912023512 : True := trivial
theorem top.tw6211089042160764376 : True := trivial
theorem top.tw13500427573557490136 : True := trivial
theorem top.tw8500458220134822360 : True := trivial
theorem top.tw9768079942903668216 : True := trivial
theorem top.tw8107780213005350392 : True := trivial
theorem top.tw8599977235414819352 : True := trivial
theorem top.tw1149218181149386328 : True := trivial
theorem top.tw2617719716777270872 : True := trivial
theorem top.tw8810280945414196856 : True := trivial
theorem top.tw8237333600419904120 : True := trivial
theorem top.tw18164388396756303480 : True := trivial
theorem top.tw6746510453823603384 : True := trivial
theorem top.tw1592229195962567352 : True := trivial
theorem top.tw16713831800681072344 : True := trivial
theorem top.tw2617181576586992344 : True := trivial
theorem top.tw6572447435987645144 : True := trivial
theorem top.tw3995942328266245912 : True := trivial
theorem top.tw13128134590637569816 : True := trivial
theorem top.tw8144448655795402552 : True := trivial
theorem top.tw2975709217455756120 : True := trivial
theorem top.tw9516688046558066552 : True := trivial
theorem top.tw17886615442053742456 : True := trivial
theorem top.tw15245507539482535896 : True := trivial
theorem top.tw5790966258338625528 : True := trivial
theorem top.tw7160130303325142008 : True := trivial
theorem top.tw5889316905344633881 : True := trivial
theorem top.tw11546936639936008217 : True := trivial
theorem top.tw6908635100366463001 : True := trivial
theorem top.tw16273406610938067001 : True := trivial
theorem top.tw9038659593494541401 : True := trivial
theorem top.tw8235891563360409721 : True := trivial
theorem top.tw17030962893124633753 : True := trivial
theorem top.tw2596539476470345881 : True := trivial
theorem top.tw4695670854781333657 : True := trivial
theorem top.tw10001883323181062329 : True := trivial
theorem top.tw13359135706311490777 : True := trivial
theorem top.tw16352725718246490361 : True := trivial
theorem top.tw11072019736110318841 : True := trivial
theorem top.tw13576654369662418201 : True := trivial
theorem top.tw17253974145678602553 : True := trivial
theorem top.tw2387695369934537081 : True := trivial
theorem top.tw3605147657684821369 : True := trivial
theorem top.tw13385996262653078937 : True := trivial
theorem top.tw1256179869646671321 : True := trivial
theorem top.tw5251713544086459897 : True := trivial
theorem top.tw1551491737661789689 : True := trivial
theorem top.tw5365650347091420665 : True := trivial
theorem top.tw15799541711010589177 : True := trivial
theorem top.tw17687602583917657593 : True := trivial
theorem top.tw9851269098105209369 : True := trivial
theorem top.tw302023382947574297 : True := trivial
theorem top.tw8327351992414209593 : True := trivial
theorem top.tw17741875731164886585 : True := trivial
theorem top.tw18394268562011335289 : True := trivial
theorem top.tw16738887294677167769 : True := trivial
theorem top.tw8620165645458168473 : True := trivial
theorem top.tw6189502492464219833 : True := trivial
theorem top.tw3874152929960365753 : True := trivial
theorem top.tw795583310449317561 : True := trivial
theorem top.tw15682138244387914425 : True := trivial
theorem top.tw17735899436944072409 : True := trivial
theorem top.tw10180943152330463961 : True := trivial
theorem top.tw9178861053002065721 : True := trivial
theorem top.tw3901323768455840569 : True := trivial
theorem top.tw16325430554902658873 : True := trivial
theorem top.tw1670607248958778201 : True := trivial
theorem top.tw6659320528611288953 : True := trivial
theorem top.tw16128028805679967097 : True := trivial
theorem top.tw16196420915677631385 : True := trivial
theorem top.tw5071412327939943321 : True := trivial
theorem top.tw14380302785272570777 : True := trivial
theorem top.tw1304757597395314617 : True := trivial
theorem top.tw1147548669246485465 : True := trivial
theorem top.tw17395277212465857529 : True := trivial
theorem top.tw5176459694589498394 : True := trivial
theorem top.tw11199532085631943738 : True := trivial
theorem top.tw9743097575036673082 : True := trivial
theorem top.tw16526113553464788058 : True := trivial
theorem top.tw6973401727384321114 : True := trivial
theorem top.tw2307138979858485370 : True := trivial
theorem top.tw4827538265410502810 : True := trivial
theorem top.tw7681529838311687354 : True := trivial
theorem top.tw13525443076416275642 : True := trivial
theorem top.tw9233344734837729466 : True := trivial
theorem top.tw2411195145006440666 : True := trivial
theorem top.tw17620759639134147866 : True := trivial
theorem top.tw14277827659066580250 : True := trivial
theorem top.tw10079171474624433434 : True := trivial
theorem top.tw1047907039808853306 : True := trivial
theorem top.tw14823308797102314842 : True := trivial
theorem top.tw3195522803047326042 : True := trivial
theorem top.tw17366924284538989914 : True := trivial
theorem top.tw3512812017678644602 : True := trivial
theorem top.tw16307090917165222298 : True := trivial
theorem top.tw11961350612320602522 : True := trivial
theorem top.tw14627593546857162170 : True := trivial
theorem top.tw10448899703829047738 : True := trivial
theorem top.tw9673933992889287130 : True := trivial
theorem top.tw2047080938173012442 : True := trivial
theorem top.tw3949973439248644570 : True := trivial
theorem top.tw1107088416671253978 : True := trivial
theorem top.tw16843226685827341786 : True := trivial
theorem top.tw6345181382737326586 : True := trivial
theorem top.tw5105846836358774362 : True := trivial
theorem top.tw1108800333578037850 : True := trivial
theorem top.tw8912170899635468890 : True := trivial
theorem top.tw2341375176344054394 : True := trivial
theorem top.tw10885322118463539834 : True := trivial
theorem top.tw5702910450625016506 : True := trivial
theorem top.tw7215319984434753242 : True := trivial
theorem top.tw5591473977707886298 : True := trivial
theorem top.tw16420938139371093754 : True := trivial
theorem top.tw3143785405151724282 : True := trivial
theorem top.tw6075534854705499898 : True := trivial
theorem top.tw12105128591322288922 : True := trivial
theorem top.tw17069463140951725850 : True := trivial
theorem top.tw14885488134526808858 : True := trivial
theorem top.tw17219337458794519322 : True := trivial
theorem top.tw1886144042066472794 : True := trivial
theorem top.tw12379415707883124570 : True := trivial
theorem top.tw4713442408853163898 : True := trivial
theorem top.tw17566744294597663674 : True := trivial
theorem top.tw2675166985342186458 : True := trivial
theorem top.tw99440450732166138 : True := trivial
theorem top.tw13068111086705522682 : True := trivial
theorem top.tw427269002284569659 : True := trivial
theorem top.tw10187264123177260123 : True := trivial
theorem top.tw6699709698940308603 : True := trivial
theorem top.tw18415971267559613563 : True := trivial
theorem top.tw4773702212245658779 : True := trivial
theorem top.tw7892811243723596987 : True := trivial
theorem top.tw4002441696211005659 : True := trivial
theorem top.tw12559286593441436923 : True := trivial
theorem top.tw485662357110503675 : True := trivial
theorem top.tw17089494485692210459 : True := trivial
theorem top.tw16836452506482946331 : True := trivial
theorem top.tw17981982808018919739 : True := trivial
theorem top.tw17301418000779511131 : True := trivial
theorem top.tw995497684801637723 : True := trivial
theorem top.tw1353657120722975067 : True := trivial
theorem top.tw16896751376397280635 : True := trivial
theorem top.tw4566856676736034171 : True := trivial
theorem top.tw10017263926548143515 : True := trivial
theorem top.tw14064017878368662971 : True := trivial
theorem top.tw17674451897172544987 : True := trivial
theorem top.tw5922324665105752571 : True := trivial
theorem top.tw12157284967251751451 : True := trivial
theorem top.tw11726560247610144283 : True := trivial
theorem top.tw5970215366352900667 : True := trivial
theorem top.tw15755962551988530747 : True := trivial
theorem top.tw15911569825323301435 : True := trivial
theorem top.tw4134505453457115739 : True := trivial
theorem top.tw3422688185749166683 : True := trivial
theorem top.tw16800595933775061595 : True := trivial
theorem top.tw16821654228018055803 : True := trivial
theorem top.tw1368107221856924347 : True := trivial
theorem top.tw3337584539547039419 : True := trivial
theorem top.tw14456272776232333019 : True := trivial
theorem top.tw14396322363301952219 : True := trivial
theorem top.tw17176153746220573435 : True := trivial
theorem top.tw7059692629156357883 : True := trivial
theorem top.tw11858546649754279707 : True := trivial
theorem top.tw11131206648525784891 : True := trivial
theorem top.tw9152664641465651067 : True := trivial
theorem top.tw14219799110322211707 : True := trivial
theorem top.tw16759193500350966715 : True := trivial
theorem top.tw6127594578889010139 : True := trivial
theorem top.tw1192657577511650299 : True := trivial
theorem top.tw12520176845478516731 : True := trivial
theorem top.tw13120753694373217308 : True := trivial
theorem top.tw1169771345039838236 : True := trivial
theorem top.tw15996449679401966620 : True := trivial
theorem top.tw6240597372359344220 : True := trivial
theorem top.tw13134186033006778460 : True := trivial
theorem top.tw11334415319851112604 : True := trivial
theorem top.tw3465488137227279516 : True := trivial
theorem top.tw5523086135645875356 : True := trivial
theorem top.tw6912233166142098652 : True := trivial
theorem top.tw18245740138792012028 : True := trivial
theorem top.tw15286249088069653756 : True := trivial
theorem top.tw2105017259488925948 : True := trivial
theorem top.tw3423177367516475676 : True := trivial
theorem top.tw2377541652452675900 : True := trivial
theorem top.tw11593399256984752444 : True := trivial
theorem top.tw14826035006057030972 : True := trivial
theorem top.tw1007256952997204316 : True := trivial
theorem top.tw17709558473723601244 : True := trivial
theorem top.tw4269943819458244956 : True := trivial
theorem top.tw13928562000808390012 : True := trivial
theorem top.tw3392894077380570524 : True := trivial
theorem top.tw2879243146029554076 : True := trivial
theorem top.tw11577829705659331004 : True := trivial
theorem top.tw18200808041648558556 : True := trivial
theorem top.tw8814567910327776732 : True := trivial
theorem top.tw1869187583165140508 : True := trivial
theorem top.tw15873491276070852124 : True := trivial
theorem top.tw13802547742096326172 : True := trivial
theorem top.tw14917401599646851644 : True := trivial
theorem top.tw4321519831107876412 : True := trivial
theorem top.tw8689318265317240412 : True := trivial
theorem top.tw10195997230039290492 : True := trivial
theorem top.tw2727672472851901052 : True := trivial
theorem top.tw17336350906216195740 : True := trivial
theorem top.tw4807692442873511580 : True := trivial
theorem top.tw13890846271309207196 : True := trivial
theorem top.tw8260818223659903644 : True := trivial
theorem top.tw16453443671601555132 : True := trivial
theorem top.tw8243169916365450940 : True := trivial
theorem top.tw216529984938456764 : True := trivial
theorem top.tw1088946173253831356 : True := trivial
theorem top.tw15361541807878343388 : True := trivial
theorem top.tw5158987858606641884 : True := trivial
theorem top.tw4250950275838387964 : True := trivial
theorem top.tw2446586112883488508 : True := trivial
theorem top.tw13478431904813821724 : True := trivial
theorem top.tw16007503158450755388 : True := trivial
theorem top.tw12734148187753135964 : True := trivial
theorem top.tw14786789198576647004 : True := trivial
theorem top.tw1124271682379634556 : True := trivial
theorem top.tw18034075008235765660 : True := trivial
theorem top.tw10350142207108426684 : True := trivial
theorem top.tw6754034310392073148 : True := trivial
theorem top.tw3776753064480771068 : True := trivial
theorem top.tw5184316447030610940 : True := trivial
theorem top.tw4547018644641229820 : True := trivial
theorem top.tw568400683779154973 : True := trivial
theorem top.tw956089473029861405 : True := trivial
theorem top.tw11240886729373846589 : True := trivial
theorem top.tw6185767955086497853 : True := trivial
theorem top.tw1186331607622873149 : True := trivial
theorem top.tw6733462575251390621 : True := trivial
theorem top.tw7475746777092488413 : True := trivial
theorem top.tw13762209637798829341 : True := trivial
theorem top.tw6594526768476950845 : True := trivial
theorem top.tw12488038555639769405 : True := trivial
theorem top.tw12932905502366258525 : True := trivial
theorem top.tw8150499350492408157 : True := trivial
theorem top.tw17286469954988799325 : True := trivial
theorem top.tw14308104382005812605 : True := trivial
theorem top.tw7669972870368051581 : True := trivial
theorem top.tw1805163160381243805 : True := trivial
theorem top.tw2782073688633401757 : True := trivial
theorem top.tw6287420888163001789 : True := trivial
theorem top.tw668136137496459709 : True := trivial
theorem top.tw2057334267981633021 : True := trivial
theorem top.tw1536312445118062077 : True := trivial
theorem top.tw5692499903750754813 : True := trivial
theorem top.tw13820912127525551613 : True := trivial
theorem top.tw10359867905803958813 : True := trivial
theorem top.tw10160972259590274589 : True := trivial
theorem top.tw13899568491130100285 : True := trivial
theorem top.tw16533540343700365917 : True := trivial
theorem top.tw15688460231516280413 : True := trivial
theorem top.tw2248615004971204189 : True := trivial
theorem top.tw6307490494728462973 : True := trivial
theorem top.tw10773188271377071773 : True := trivial
theorem top.tw13629508380711501469 : True := trivial
theorem top.tw7325726471975496349 : True := trivial
theorem top.tw1841203439943692989 : True := trivial
theorem top.tw16155163154822807229 : True := trivial
theorem top.tw11430207588045935325 : True := trivial
theorem top.tw16615598289260009181 : True := trivial
theorem top.tw2479311146797828861 : True := trivial
theorem top.tw18392722231026035453 : True := trivial
theorem top.tw18177719399980262173 : True := trivial
theorem top.tw8716659796364181309 : True := trivial
theorem top.tw3730354652608582461 : True := trivial
theorem top.tw17683472795295644477 : True := trivial
theorem top.tw12609604535291364189 : True := trivial
theorem top.tw11423202765487971197 : True := trivial
theorem top.tw18121752080927795069 : True := trivial
theorem top.tw1833847959688406909 : True := trivial
theorem top.tw8529706226740600733 : True := trivial
theorem top.tw10239475785048107997 : True := trivial
theorem top.tw47109162367338493 : True := trivial
theorem top.tw14901070454687303710 : True := trivial
theorem top.tw4758991174889311326 : True := trivial
theorem top.tw18237780215024852062 : True := trivial
theorem top.tw13091174067606910046 : True := trivial
theorem top.tw8973803690348224638 : True := trivial
theorem top.tw9908739903337578654 : True := trivial
theorem top.tw6619077023068780702 : True := trivial
theorem top.tw14851680436948445374 : True := trivial
theorem top.tw16345600495311464638 : True := trivial
theorem top.tw2555065506035805374 : True := trivial
theorem top.tw17958866498819703998 : True := trivial
theorem top.tw14747140909534839006 : True := trivial
theorem top.tw5850499497852442878 : True := trivial
theorem top.tw8968299171318014206 : True := trivial
theorem top.tw6930518751129746686 : True := trivial
theorem top.tw9361663168868926718 : True := trivial
theorem top.tw9989051494896439582 : True := trivial
theorem top.tw6933892841690572062 : True := trivial
theorem top.tw12904532413392791838 : True := trivial
theorem top.tw18344159896984962366 : True := trivial
theorem top.tw4046864289407762814 : True := trivial
theorem top.tw10579768621468169598 : True := trivial
theorem top.tw9108098604805947806 : True := trivial
theorem top.tw2878843996050045342 : True := trivial
theorem top.tw9041457687873607070 : True := trivial
theorem top.tw6859976401760118174 : True := trivial
theorem top.tw10956490626425055710 : True := trivial
theorem top.tw7358114872323791358 : True := trivial
theorem top.tw8417208461021683230 : True := trivial
theorem top.tw3486219094355674750 : True := trivial
theorem top.tw5764397981948056254 : True := trivial
theorem top.tw9075757514644619006 : True := trivial
theorem top.tw17258124492514966302 : True := trivial
theorem top.tw16656781636731879198 : True := trivial
theorem top.tw12322150652039217950 : True := trivial
theorem top.tw8455645898260960030 : True := trivial
theorem top.tw17783859843131274014 : True := trivial
theorem top.tw105208000716104510 : True := trivial
theorem top.tw16085473023203611486 : True := trivial
theorem top.tw8374938949443298174 : True := trivial
theorem top.tw13889484949932952446 : True := trivial
theorem top.tw16753658254399821694 : True := trivial
theorem top.tw5969987386201385886 : True := trivial
theorem top.tw12841572728458906558 : True := trivial
theorem top.tw5444345374180229054 : True := trivial
theorem top.tw2867133514656366558 : True := trivial
theorem top.tw5983031951866500094 : True := trivial
theorem top.tw15058813355848621054 : True := trivial
theorem top.tw2267912224990424062 : True := trivial
theorem top.tw14371913498598963198 : True := trivial
theorem top.tw14390669486469195807 : True := trivial
theorem top.tw17434308400759680031 : True := trivial
theorem top.tw6259670677727819807 : True := trivial
theorem top.tw5738303106652476479 : True := trivial
theorem top.tw1754339480302792767 : True := trivial
theorem top.tw15277652076535365695 : True := trivial
theorem top.tw7990429038631628895 : True := trivial
theorem top.tw17494340499879156831 : True := trivial
theorem top.tw11173010173815179391 : True := trivial
theorem top.tw5072613934562372735 : True := trivial
theorem top.tw17428532607074087071 : True := trivial
theorem top.tw6187478851450931391 : True := trivial
theorem top.tw10101883924317870271 : True := trivial
theorem top.tw2464713573024523455 : True := trivial
theorem top.tw14771320824794740959 : True := trivial
theorem top.tw10341860258655708415 : True := trivial
theorem top.tw13852830345959847167 : True := trivial
theorem top.tw18085771088847121727 : True := trivial
theorem top.tw2502181453436431679 : True := trivial
theorem top.tw4885547446624616799 : True := trivial
theorem top.tw9456006794991739263 : True := trivial
theorem top.tw378458367893578143 : True := trivial
theorem top.tw11584198869435930015 : True := trivial
theorem top.tw15516308363225789855 : True := trivial
theorem top.tw11279390925490393535 : True := trivial
theorem top.tw314455870634268127 : True := trivial
theorem top.tw9589608677651300831 : True := trivial
theorem top.tw9486757043174368735 : True := trivial
theorem top.tw17431308487043992063 : True := trivial
theorem top.tw14762295962024373759 : True := trivial
theorem top.tw5766051744304087583 : True := trivial
theorem top.tw13709580248569299487 : True := trivial
theorem top.tw7702549930194098719 : True := trivial
theorem top.tw2514443458684651071 : True := trivial
theorem top.tw6448850889433096767 : True := trivial
theorem top.tw13167462122316868159 : True := trivial
theorem top.tw12094960947251128927 : True := trivial
theorem top.tw13188079976727067231 : True := trivial
theorem top.tw453181688931711583 : True := trivial
theorem top.tw8345894832289464959 : True := trivial
theorem top.tw17582957951858275007 : True := trivial
theorem top.tw8999917154711486175 : True := trivial
theorem top.tw649594095290182367 : True := trivial
theorem top.tw8170299122808406783 : True := trivial
theorem top.tw15966430410579761919 : True := trivial
theorem top.tw13369591340354186047 : True := trivial
theorem top.tw12543184057631004479 : True := trivial
theorem top.tw8163011886388404031 : True := trivial
theorem top.tw10399464001100048223 : True := trivial
theorem top.tw8628236747792435071 : True := trivial
theorem top.tw2965125352208521119 : True := trivial
theorem top.tw9682687983338836895 : True := trivial
theorem top.tw5839659824258004927 : True := trivial
theorem top.tw7436774141650363327 : True := trivial
theorem top.tw965346924571166687 : True := trivial
theorem top.tw17586783052614405119 : True := trivial
theorem top.tw5287913139189335185 : True := trivial
theorem top.tw11775233781037092672 : True := trivial
theorem goodW_kept {c : ClaimW} {cl : Str → Option Addr} {mean : ExcName → Option Value} {args : List WData} {s₁ s' : Shared} {b : Bool} (hk : ∀ b o, s₁.heap.get? b = some o → s'.heap.get? b = some o) (hg : s'.gens = #[]) (hn : ∀ cls, c.raises args cls = false) (hp : c.post args (.bool b) args = true) (hos : s'.os = s₁.os) :
    GoodW c cl mean args s₁ (.ok (.ret (.bool b))) s' := ⟨.inl ⟨.bool b, .bool b, [], rfl, hn, .bool b, hp, unshared_nil⟩, hk, hos, hg⟩
noncomputable def vq (p : Program) : Program := { p with main := { p.main with body := (p.main.body.drop 145).take 1 ++ p.main.body.drop 163 } }
noncomputable def vloose : List Str := [Str.ofString "_wall", Str.ofString "NAN", Str.ofString "INFINITY", Str.ofString "ZERO", Str.ofString "SPACES_numbers", Str.ofString "DIGITS", Str.ofString "MOST_FIGURES", Str.ofString "MOST", Str.ofString "common_divisor", Str.ofString "sign_of", Str.ofString "number_of", Str.ofString "is_nan", Str.ofString "negated", Str.ofString "plus", Str.ofString "minus", Str.ofString "times", Str.ofString "divided", Str.ofString "modulo", Str.ofString "order_of", Str.ofString "compared_numbers", Str.ofString "floor_of", Str.ofString "ceiling_of", Str.ofString "rounded", Str.ofString "digits_end", Str.ofString "trimmed", Str.ofString "whole_of", Str.ofString "read_number", Str.ofString "number_of_digits", Str.ofString "write_number", Str.ofString "lines_marked", Str.ofString "sorted_beneath", Str.ofString "in_order", Str.ofString "beneath", Str.ofString "string_value", Str.ofString "as_text", Str.ofString "as_number", Str.ofString "as_truth", Str.ofString "is_equality", Str.ofString "compared_texts", Str.ofString "compared_plain", Str.ofString "as_compared", Str.ofString "some_pair", Str.ofString "texts_of", Str.ofString "listed", Str.ofString "compared", Str.ofString "MarkupError", Str.ofString "TreeFault", Str.ofString "PathFault", Str.ofString "SheetFault", Str.ofString "SPACES_chars", Str.ofString "is_space", Str.ofString "space_split", Str.ofString "collapsed", Str.ofString "nodes_of", Str.ofString "counted", Str.ofString "summed", Str.ofString "told_node", Str.ofString "name_part", Str.ofString "id_texts", Str.ofString "elements_by_ids", Str.ofString "language_of", Str.ofString "speaks", Str.ofString "call_of_sets", Str.ofString "starts_with", Str.ofString "contains", Str.ofString "before", Str.ofString "after", Str.ofString "within", Str.ofString "substring", Str.ofString "translated", Str.ofString "normalized", Str.ofString "told_value", Str.ofString "call_of_truths", Str.ofString "call_of_numbers", Str.ofString "call_of_two_texts", Str.ofString "call_of_texts", Str.ofString "SETS", Str.ofString "TRUTHS", Str.ofString "NUMBERS", Str.ofString "TEXTS", Str.ofString "NONE_LET", Str.ofString "ONE_AT_MOST", Str.ofString "TWO_WANTED", Str.ofString "MANY", Str.ofString "is_core", Str.ofString "bounds_of", Str.ofString "check_many", Str.ofString "call_core", Str.ofString "is_beside", Str.ofString "descendants", Str.ofString "ancestors", Str.ofString "siblings_ahead", Str.ofString "siblings_behind", Str.ofString "with_descendants", Str.ofString "following", Str.ofString "preceding", Str.ofString "namespaces_in_scope", Str.ofString "short_axis", Str.ofString "axis", Str.ofString "principal_kind", Str.ofString "bound_uri", Str.ofString "is_named", Str.ofString "passes", Str.ofString "holds", Str.ofString "kept", Str.ofString "step_from", Str.ofString "unlike", Str.ofString "after_step", Str.ofString "steps_from", Str.ofString "rows_of", Str.ofString "Literal", Str.ofString "NumberNode", Str.ofString "VariableNode", Str.ofString "Call", Str.ofString "Binary", Str.ofString "Negated", Str.ofString "Filter", Str.ofString "Path", Str.ofString "COMPARISONS", Str.ofString "needs_nodes", Str.ofString "reckoned", Str.ofString "united", Str.ofString "asker", Str.ofString "of_binary", Str.ofString "of_call", Str.ofString "of_filter", Str.ofString "of_path", Str.ofString "evaluate", Str.ofString "expression_end", Str.ofString "filled", Str.ofString "Context", Str.ofString "PARENTS", Str.ofString "NodeRow", Str.ofString "Tree", Str.ofString "_law_pool", Str.ofString "_law_take", Str.ofString "_law_one", Str.ofString "_law_place", Str.ofString "_law_ends_right", Str.ofString "_law_grown", Str.ofString "_law_number", Str.ofString "_law_worth", Str.ofString "_law_value", Str.ofString "_law_values_right"]
noncomputable def top.tw2620726211844778143 : List Str := [⟨#[95, 119, 97, 108, 108]⟩, ⟨#[78, 65, 78]⟩, ⟨#[73, 78, 70, 73, 78, 73, 84, 89]⟩, ⟨#[90, 69, 82, 79]⟩, ⟨#[83, 80, 65, 67, 69, 83, 95, 110, 117, 109, 98, 101, 114, 115]⟩, ⟨#[68, 73, 71, 73, 84, 83]⟩, ⟨#[77, 79, 83, 84, 95, 70, 73, 71, 85, 82, 69, 83]⟩, ⟨#[77, 79, 83, 84]⟩, ⟨#[99, 111, 109, 109, 111, 110, 95, 100, 105, 118, 105, 115, 111, 114]⟩, ⟨#[115, 105, 103, 110, 95, 111, 102]⟩, ⟨#[110, 117, 109, 98, 101, 114, 95, 111, 102]⟩, ⟨#[105, 115, 95, 110, 97, 110]⟩, ⟨#[110, 101, 103, 97, 116, 101, 100]⟩, ⟨#[112, 108, 117, 115]⟩, ⟨#[109, 105, 110, 117, 115]⟩, ⟨#[116, 105, 109, 101, 115]⟩, ⟨#[100, 105, 118, 105, 100, 101, 100]⟩, ⟨#[109, 111, 100, 117, 108, 111]⟩, ⟨#[111, 114, 100, 101, 114, 95, 111, 102]⟩, ⟨#[99, 111, 109, 112, 97, 114, 101, 100, 95, 110, 117, 109, 98, 101, 114, 115]⟩, ⟨#[102, 108, 111, 111, 114, 95, 111, 102]⟩, ⟨#[99, 101, 105, 108, 105, 110, 103, 95, 111, 102]⟩, ⟨#[114, 111, 117, 110, 100, 101, 100]⟩, ⟨#[100, 105, 103, 105, 116, 115, 95, 101, 110, 100]⟩, ⟨#[116, 114, 105, 109, 109, 101, 100]⟩, ⟨#[119, 104, 111, 108, 101, 95, 111, 102]⟩, ⟨#[114, 101, 97, 100, 95, 110, 117, 109, 98, 101, 114]⟩, ⟨#[110, 117, 109, 98, 101, 114, 95, 111, 102, 95, 100, 105, 103, 105, 116, 115]⟩, ⟨#[119, 114, 105, 116, 101, 95, 110, 117, 109, 98, 101, 114]⟩, ⟨#[108, 105, 110, 101, 115, 95, 109, 97, 114, 107, 101, 100]⟩, ⟨#[115, 111, 114, 116, 101, 100, 95, 98, 101, 110, 101, 97, 116, 104]⟩, ⟨#[105, 110, 95, 111, 114, 100, 101, 114]⟩, ⟨#[98, 101, 110, 101, 97, 116, 104]⟩, ⟨#[115, 116, 114, 105, 110, 103, 95, 118, 97, 108, 117, 101]⟩, ⟨#[97, 115, 95, 116, 101, 120, 116]⟩, ⟨#[97, 115, 95, 110, 117, 109, 98, 101, 114]⟩, ⟨#[97, 115, 95, 116, 114, 117, 116, 104]⟩, ⟨#[105, 115, 95, 101, 113, 117, 97, 108, 105, 116, 121]⟩, ⟨#[99, 111, 109, 112, 97, 114, 101, 100, 95, 116, 101, 120, 116, 115]⟩, ⟨#[99, 111, 109, 112, 97, 114, 101, 100, 95, 112, 108, 97, 105, 110]⟩, ⟨#[97, 115, 95, 99, 111, 109, 112, 97, 114, 101, 100]⟩, ⟨#[115, 111, 109, 101, 95, 112, 97, 105, 114]⟩, ⟨#[116, 101, 120, 116, 115, 95, 111, 102]⟩, ⟨#[108, 105, 115, 116, 101, 100]⟩, ⟨#[99, 111, 109, 112, 97, 114, 101, 100]⟩, ⟨#[77, 97, 114, 107, 117, 112, 69, 114, 114, 111, 114]⟩, ⟨#[84, 114, 101, 101, 70, 97, 117, 108, 116]⟩, ⟨#[80, 97, 116, 104, 70, 97, 117, 108, 116]⟩, ⟨#[83, 104, 101, 101, 116, 70, 97, 117, 108, 116]⟩, ⟨#[83, 80, 65, 67, 69, 83, 95, 99, 104, 97, 114, 115]⟩, ⟨#[105, 115, 95, 115, 112, 97, 99, 101]⟩, ⟨#[115, 112, 97, 99, 101, 95, 115, 112, 108, 105, 116]⟩, ⟨#[99, 111, 108, 108, 97, 112, 115, 101, 100]⟩, ⟨#[110, 111, 100, 101, 115, 95, 111, 102]⟩, ⟨#[99, 111, 117, 110, 116, 101, 100]⟩, ⟨#[115, 117, 109, 109, 101, 100]⟩, ⟨#[116, 111, 108, 100, 95, 110, 111, 100, 101]⟩, ⟨#[110, 97, 109, 101, 95, 112, 97, 114, 116]⟩, ⟨#[105, 100, 95, 116, 101, 120, 116, 115]⟩, ⟨#[101, 108, 101, 109, 101, 110, 116, 115, 95, 98, 121, 95, 105, 100, 115]⟩, ⟨#[108, 97, 110, 103, 117, 97, 103, 101, 95, 111, 102]⟩, ⟨#[115, 112, 101, 97, 107, 115]⟩, ⟨#[99, 97, 108, 108, 95, 111, 102, 95, 115, 101, 116, 115]⟩, ⟨#[115, 116, 97, 114, 116, 115, 95, 119, 105, 116, 104]⟩, ⟨#[99, 111, 110, 116, 97, 105, 110, 115]⟩, ⟨#[98, 101, 102, 111, 114, 101]⟩, ⟨#[97, 102, 116, 101, 114]⟩, ⟨#[119, 105, 116, 104, 105, 110]⟩, ⟨#[115, 117, 98, 115, 116, 114, 105, 110, 103]⟩, ⟨#[116, 114, 97, 110, 115, 108, 97, 116, 101, 100]⟩, ⟨#[110, 111, 114, 109, 97, 108, 105, 122, 101, 100]⟩, ⟨#[116, 111, 108, 100, 95, 118, 97, 108, 117, 101]⟩, ⟨#[99, 97, 108, 108, 95, 111, 102, 95, 116, 114, 117, 116, 104, 115]⟩, ⟨#[99, 97, 108, 108, 95, 111, 102, 95, 110, 117, 109, 98, 101, 114, 115]⟩, ⟨#[99, 97, 108, 108, 95, 111, 102, 95, 116, 119, 111, 95, 116, 101, 120, 116, 115]⟩, ⟨#[99, 97, 108, 108, 95, 111, 102, 95, 116, 101, 120, 116, 115]⟩, ⟨#[83, 69, 84, 83]⟩, ⟨#[84, 82, 85, 84, 72, 83]⟩, ⟨#[78, 85, 77, 66, 69, 82, 83]⟩, ⟨#[84, 69, 88, 84, 83]⟩, ⟨#[78, 79, 78, 69, 95, 76, 69, 84]⟩, ⟨#[79, 78, 69, 95, 65, 84, 95, 77, 79, 83, 84]⟩, ⟨#[84, 87, 79, 95, 87, 65, 78, 84, 69, 68]⟩, ⟨#[77, 65, 78, 89]⟩, ⟨#[105, 115, 95, 99, 111, 114, 101]⟩, ⟨#[98, 111, 117, 110, 100, 115, 95, 111, 102]⟩, ⟨#[99, 104, 101, 99, 107, 95, 109, 97, 110, 121]⟩, ⟨#[99, 97, 108, 108, 95, 99, 111, 114, 101]⟩, ⟨#[105, 115, 95, 98, 101, 115, 105, 100, 101]⟩, ⟨#[100, 101, 115, 99, 101, 110, 100, 97, 110, 116, 115]⟩, ⟨#[97, 110, 99, 101, 115, 116, 111, 114, 115]⟩, ⟨#[115, 105, 98, 108, 105, 110, 103, 115, 95, 97, 104, 101, 97, 100]⟩, ⟨#[115, 105, 98, 108, 105, 110, 103, 115, 95, 98, 101, 104, 105, 110, 100]⟩, ⟨#[119, 105, 116, 104, 95, 100, 101, 115, 99, 101, 110, 100, 97, 110, 116, 115]⟩, ⟨#[102, 111, 108, 108, 111, 119, 105, 110, 103]⟩, ⟨#[112, 114, 101, 99, 101, 100, 105, 110, 103]⟩, ⟨#[110, 97, 109, 101, 115, 112, 97, 99, 101, 115, 95, 105, 110, 95, 115, 99, 111, 112, 101]⟩, ⟨#[115, 104, 111, 114, 116, 95, 97, 120, 105, 115]⟩, ⟨#[97, 120, 105, 115]⟩, ⟨#[112, 114, 105, 110, 99, 105, 112, 97, 108, 95, 107, 105, 110, 100]⟩, ⟨#[98, 111, 117, 110, 100, 95, 117, 114, 105]⟩, ⟨#[105, 115, 95, 110, 97, 109, 101, 100]⟩, ⟨#[112, 97, 115, 115, 101, 115]⟩, ⟨#[104, 111, 108, 100, 115]⟩, ⟨#[107, 101, 112, 116]⟩, ⟨#[115, 116, 101, 112, 95, 102, 114, 111, 109]⟩, ⟨#[117, 110, 108, 105, 107, 101]⟩, ⟨#[97, 102, 116, 101, 114, 95, 115, 116, 101, 112]⟩, ⟨#[115, 116, 101, 112, 115, 95, 102, 114, 111, 109]⟩, ⟨#[114, 111, 119, 115, 95, 111, 102]⟩, ⟨#[76, 105, 116, 101, 114, 97, 108]⟩, ⟨#[78, 117, 109, 98, 101, 114, 78, 111, 100, 101]⟩, ⟨#[86, 97, 114, 105, 97, 98, 108, 101, 78, 111, 100, 101]⟩, ⟨#[67, 97, 108, 108]⟩, ⟨#[66, 105, 110, 97, 114, 121]⟩, ⟨#[78, 101, 103, 97, 116, 101, 100]⟩, ⟨#[70, 105, 108, 116, 101, 114]⟩, ⟨#[80, 97, 116, 104]⟩, ⟨#[67, 79, 77, 80, 65, 82, 73, 83, 79, 78, 83]⟩, ⟨#[110, 101, 101, 100, 115, 95, 110, 111, 100, 101, 115]⟩, ⟨#[114, 101, 99, 107, 111, 110, 101, 100]⟩, ⟨#[117, 110, 105, 116, 101, 100]⟩, ⟨#[97, 115, 107, 101, 114]⟩, ⟨#[111, 102, 95, 98, 105, 110, 97, 114, 121]⟩, ⟨#[111, 102, 95, 99, 97, 108, 108]⟩, ⟨#[111, 102, 95, 102, 105, 108, 116, 101, 114]⟩, ⟨#[111, 102, 95, 112, 97, 116, 104]⟩, ⟨#[101, 118, 97, 108, 117, 97, 116, 101]⟩, ⟨#[101, 120, 112, 114, 101, 115, 115, 105, 111, 110, 95, 101, 110, 100]⟩, ⟨#[102, 105, 108, 108, 101, 100]⟩, ⟨#[67, 111, 110, 116, 101, 120, 116]⟩, ⟨#[80, 65, 82, 69, 78, 84, 83]⟩, ⟨#[78, 111, 100, 101, 82, 111, 119]⟩, ⟨#[84, 114, 101, 101]⟩, ⟨#[95, 108, 97, 119, 95, 112, 111, 111, 108]⟩, ⟨#[95, 108, 97, 119, 95, 116, 97, 107, 101]⟩, ⟨#[95, 108, 97, 119, 95, 111, 110, 101]⟩, ⟨#[95, 108, 97, 119, 95, 112, 108, 97, 99, 101]⟩, ⟨#[95, 108, 97, 119, 95, 101, 110, 100, 115, 95, 114, 105, 103, 104, 116]⟩, ⟨#[95, 108, 97, 119, 95, 103, 114, 111, 119, 110]⟩, ⟨#[95, 108, 97, 119, 95, 110, 117, 109, 98, 101, 114]⟩, ⟨#[95, 108, 97, 119, 95, 119, 111, 114, 116, 104]⟩, ⟨#[95, 108, 97, 119, 95, 118, 97, 108, 117, 101]⟩, ⟨#[95, 108, 97, 119, 95, 118, 97, 108, 117, 101, 115, 95, 114, 105, 103, 104, 116]⟩]
theorem top.te2620726211844778143 : vloose = top.tw2620726211844778143 := by kernel_rfl
theorem PySem.W.holds_open {r : OpenRow} {q : Program} {loose : List Str} {Xt : Shared → Bool} {XP : (Str → Option Value) → Heap → Prop} {α : Type} {Yf : Shared → α} {Ya : World → α} {YP : World → Heap → Prop} {d : DefRec} {kwd : List (Str × Expr)} {N : Nat}
    (left : LeftO r.prog (vq r.prog) vloose (fun s => xlAt (vq r.prog) [] s && recOk (RowW.records r.toRowW) s) Yf Ya N) (hY : ∀ w s, Yf s = Ya w → YP w s.heap) (hYk : ∀ w h h', YP w h → (∀ b o, h.get? b = some o → h'.get? b = some o) → YP w h')
    (_hX : ∀ s, Xt s = true → XP (s.heap.nsMap mainGlobals) s.heap) (_hXk : ∀ mg h h', XP mg h → (∀ b o, h.get? b = some o → h'.get? b = some o) → XP mg h')
    (_hdef : defOf q r.name = some (d, kwd)) (hp : r.prog.theDef r.name = some (d.params, d.body, d.scope)) (hk : kwWritten? d.params.kwonlyargs d.params.kw_defaults = some kwd) (_hRf : ∀ s, Xt s = true → RecFacts r.records s.heap) (hwr : (!r.writes || r.records.isEmpty) = true)
    (k1 : r.wellSaid = true) (ok : (chainsOk q && opensWell r.prog && (frees r.toRowW && r.within.isEmpty)) = true) (hb : r.prog.bare) (hw : r.toRowW.promised)
    (call : Four → WalkO (vq r.prog) vloose (XL (vq r.prog) []) YP r.toRowW d kwd fun f vs => PySem.call f vs) (four : Four := by assumption)
    (hdv : defOf (vq r.prog) r.name = some (d, kwd) := by rfl) (okv : chainsOk (vq r.prog) = true := by decide +kernel) : r.Holds :=
  _root_.PySem.W.holds_open left hY hYk (fun s e => xl_of s (Bool.and_eq_true_iff.mp e).1) XL.keeps hdv hp hk (fun s e => recFacts_of (Bool.and_eq_true_iff.mp e).2) hwr k1 (by simp only [Bool.and_eq_true] at ok ⊢; exact ⟨⟨okv, ok.1.2⟩, ok.2⟩) hb hw (call four)
set_option Elab.async true
theorem top (four : Four) : PySem.Challenge.rw_xm0674_01.Holds := by
  k_with_none
  k_with "memR" => (first | with_reducible assumption | exact List.Mem.head _ | (refine' List.Mem.tail _ ?_; k_extra "memR"))
  k_with "memD" => (first | exact List.Mem.head _ | assumption | (refine' List.Mem.tail _ ?_; k_extra "memD"))
  k_with "mem" => (first | k_extra "memR" | k_extra "memD")
  k_with "allR" => (first | with_reducible assumption | exact List.forall_mem_nil _ | (refine' List.forall_mem_cons.mpr ⟨?a, ?b⟩; (case a => first | with_reducible assumption | k_ne); (case b => k_extra "allR")))
  k_with "all" => (first | with_reducible assumption | exact List.forall_mem_nil _ | with_reducible (first | exact aa0 (by assumption) | exact aa1 (by assumption) | exact aa2 (by assumption) | exact aa3 (by assumption) | exact aa4 (by assumption) | exact aa5 (by assumption) | exact aa6 (by assumption) | exact aa7 (by assumption) | exact ab0 (by assumption) (by assumption) | exact ab1 (by assumption) (by assumption)) | k_extra "allR" | assumption)
  k_with "cj" => (with_reducible (first | assumption | exact cj0 (by assumption) | exact cj1 (by assumption) | exact cj2 (by assumption) | exact cj3 (by assumption) | exact cj4 (by assumption) | exact cj5 (by assumption) | exact cj6 (by assumption) | exact cj7 (by assumption) | exact cj8 (by assumption) | exact cj9 (by assumption) | exact cj10 (by assumption) | exact cj11 (by assumption) | exact cj12 (by assumption) | exact cj13 (by assumption) | exact cj14 (by assumption) | exact cj15 (by assumption) | exact cj16 (by assumption) | exact cl1 (by assumption) | exact cl2 (by assumption) | exact cl3 (by assumption) | exact cl4 (by assumption) | exact cl5 (by assumption) | exact cl6 (by assumption) | exact cl7 (by assumption) | exact cl8 (by assumption) | exact cl9 (by assumption) | exact cl10 (by assumption) | exact cl11 (by assumption) | exact cl12 (by assumption) | exact cl13 (by assumption) | exact cl14 (by assumption) | exact cl15 (by assumption) | exact cl16 (by assumption) | exact ct0t0x (by assumption) | exact ct0t1x (by assumption) | exact ct0t2x (by assumption) | exact ct1t0x (by assumption) | exact ct1t1x (by assumption) | exact ct1t2x (by assumption) | exact ct2t0x (by assumption) | exact ct2t1x (by assumption) | exact ct2t2x (by assumption) | exact ct3t0x (by assumption) | exact ct3t1x (by assumption) | exact ct3t2x (by assumption) | exact ct4t0x (by assumption) | exact ct4t1x (by assumption) | exact ct4t2x (by assumption)))
  k_with "ne" => ((refine neN ?_; (try dsimp only); first | with_reducible (first | assumption | exact ngt (by assumption) | exact nlt (by assumption) | exact Ne.symm (by assumption)) | with_reducible (first | exact al0 (by assumption) | exact ar0 (by assumption) | exact al1 (by assumption) | exact ar1 (by assumption) | exact al2 (by assumption) | exact ar2 (by assumption) | exact al3 (by assumption) | exact ar3 (by assumption) | exact al4 (by assumption) | exact ar4 (by assumption) | exact al5 (by assumption) | exact ar5 (by assumption) | exact al6 (by assumption) | exact ar6 (by assumption) | exact al7 (by assumption) | exact ar7 (by assumption) | exact al8 (by assumption) | exact ar8 (by assumption) | exact al9 (by assumption) | exact ar9 (by assumption) | exact al10 (by assumption) | exact ar10 (by assumption) | exact al11 (by assumption) | exact ar11 (by assumption) | exact al12 (by assumption) | exact ar12 (by assumption) | exact al13 (by assumption) | exact ar13 (by assumption) | exact al14 (by assumption) | exact ar14 (by assumption) | exact al15 (by assumption) | exact ar15 (by assumption)) | with_reducible (first | exact at0 (by assumption) (by assumption) | exact au0 (by assumption) (by assumption) | exact at1 (by assumption) (by assumption) | exact au1 (by assumption) (by assumption) | exact at2 (by assumption) (by assumption) | exact au2 (by assumption) (by assumption) | exact at3 (by assumption) (by assumption) | exact au3 (by assumption) (by assumption) | exact at4 (by assumption) (by assumption) | exact au4 (by assumption) (by assumption) | exact at5 (by assumption) (by assumption) | exact au5 (by assumption) (by assumption) | exact at6 (by assumption) (by assumption) | exact au6 (by assumption) (by assumption) | exact at7 (by assumption) (by assumption) | exact au7 (by assumption) (by assumption)) | with_reducible (first | exact av0 (by assumption) | exact avs0 (by assumption) | exact av1 (by assumption) | exact avs1 (by assumption) | exact av2 (by assumption) | exact avs2 (by assumption) | exact av3 (by assumption) | exact avs3 (by assumption) | exact av4 (by assumption) | exact avs4 (by assumption) | exact av5 (by assumption) | exact avs5 (by assumption) | exact aw0 (by assumption) | exact aws0 (by assumption) | exact aw1 (by assumption) | exact aws1 (by assumption) | exact aw2 (by assumption) | exact aws2 (by assumption) | exact aw3 (by assumption) | exact aws3 (by assumption) | exact aw4 (by assumption) | exact aws4 (by assumption) | exact aw5 (by assumption) | exact aws5 (by assumption)) | (refine nlt ?_; k_data) | (refine ngt ?_; k_data) | k_data | (refine Ne.symm ?_; k_data) | (refine ngt1 ?_; k_data) | (refine ngt2 ?_; k_data) | (refine nlt1 ?_; k_data) | (refine nlt2 ?_; k_data) | omega))
  k_with "room" => (first | exact room_le2 (by assumption) (by exact rfl) | exact room_lt2 (by assumption) (by exact rfl) | exact room_le1 (by assumption) (by exact rfl) | exact room_lt1 (by assumption) (by exact rfl) | exact room_le3 (by assumption) (by exact rfl) | exact room_lt3 (by assumption) (by exact rfl) | exact room_ltF (by assumption) (by exact rfl) (by exact rfl))
  k_with "units" => (first | exact unit_le2 (by assumption) (by exact rfl) | exact unit_lt2 (by assumption) (by exact rfl) | exact unit_le1 (by assumption) (by exact rfl) | exact unit_lt1 (by assumption) (by exact rfl) | exact unit_le3 (by assumption) (by exact rfl) | exact unit_lt3 (by assumption) (by exact rfl) | exact unit_ltE (by assumption) (by exact rfl) (by exact rfl) | exact unit_ltF (by assumption) (by exact rfl) (by exact rfl))
  k_with "callWith ref nil nil" => (k_here; k_dflt (refine' callWith_K ?k1 ?k2 ?_; (case k1 => k_asm); (case k2 => k_is); k_whole))
  k_with "eval Name" => (k_here; k_dflt (refine' nameX_L ?F ?v ?_ ?a ?b; (case b => exact rfl); (case F => k_asm); (case a => rfl); (case v => rfl); k_whole))
  k_with "eval Name" => (k_here; k_dflt (refine' nameX_K ?F ?X ?T ?e ?_ ?a ?b; (case b => exact rfl); (case F => k_asm); (case X => k_asm); (case T => k_asm); (case a => rfl); (case e => k_is); k_whole))
  k_with "eval Name" => (k_here; k_dflt (refine' nameX_B ?F ?X ?T ?e ?v ?n ?_ ?a ?b; (case b => exact rfl); (case F => k_asm); (case X => k_asm); (case T => k_asm); (case a => rfl); (case e => k_is); (case v => boot_fast); (case n => decide); k_whole))
  k_with "subscriptTail Name Constant ref int" => (k_here; (with_reducible show wpAny _ _ (subscriptTail _ _ (Value.ref _) (Value.int _ _)) _ _ _); k_dflt (first | (refine' item_tupleT ?t ?a ?b ?c ?d ?_; (case t => first | with_reducible assumption | exact News.isTup (by k_asm) (by k_mem)); (case a => decide); (case b => decide); (case c => rfl); (case d => rfl); k_whole) | (refine' topTup_K ?F ?X ?l ?a ?b ?c ?d ?_; (case F => k_asm); (case X => k_asm); (case l => k_is); (case a => decide); (case b => decide); (case c => rfl); (case d => rfl)) | (refine' topList_K ?F ?X ?l ?a ?b ?d ?_; (case F => k_asm); (case X => k_asm); (case l => k_is); (case a => decide); (case b => decide); (case d => rfl); k_whole)))
  k_with "subscriptTail Name Constant ref int" => (k_here; (with_reducible show wpAny _ _ (subscriptTail _ _ (Value.ref _) (Value.int _ _)) _ _ _); (with_unfolding_all refine' item_litK ?k1 ?k2 ?k3 ?k4 ?_ ?k6; (case k1 => is_list); (case k2 => decide); (case k3 => decide); (case k4 => rfl); (case k6 => with_unfolding_all rfl); k_whole))
  k_with "call builtin:list.pop" => (k_here; k_dflt ((with_reducible show wpAny _ _ (call (Value.builtin _) [Value.ref _]) _ _ _); refine' kl_pop ?F ?N ?e ?U ?z ?_; (case F => k_asm); (case N => k_asm); (case U => k_upd); (case e => rfl); (case z => kl_room)); kl_rest)
  k_with "lt" => with_reducible (first | assumption | exact ll0 (by assumption) | exact ll1 (by assumption) | exact ll2 (by assumption) | exact ll3 (by assumption) | exact ll4 (by assumption) | exact ll5 (by assumption) | exact ll6 (by assumption) | exact ll7 (by assumption) | exact ll8 (by assumption) | exact ll9 (by assumption) | exact ll10 (by assumption) | exact ll11 (by assumption) | exact ll12 (by assumption) | exact ll13 (by assumption) | exact la0 (by assumption) | exact la1 (by assumption) | exact la2 (by assumption) | exact la3 (by assumption) | exact la4 (by assumption) | exact la5 (by assumption) | exact la6 (by assumption) | exact la7 (by assumption))
  k_with "keeplt" => skip
  k_with "ite" => with_reducible (first | refine ite_tt ?_ | refine ite_ff ?_)
  k_with "subscriptTail Attribute Name Name ref int" => (walk_at "last subscriptTail")
  k_with "callWith ref cons nil" => (k_here; k_dflt (refine' callWith_K ?k1 ?k2 ?_; (case k1 => k_asm); (case k2 => k_is); k_whole))
  w_on
  o_law
  o_head Mine.kkHook
  (case hw => w_witness2)
  intro four
  obtain ⟨hplace, hpool, hends, hvals⟩ := four
  k_go0
  (all_goals try k_fold)
  repeat (fail_if_success (with_reducible show wpAny _ _ (call (Value.ref 1282) _) _ _ _)); (first | walk1 | (dsimp only; walk1))
  k_dflt (refine' hplace _ _ _ _ ?k1 ?k2 ?k3 ?k4 ?k5 ?k6 ?k7 ?k8 ?k9 ?k10 ?k11 ?k12 ?_)
  (case k1 => k_asm)
  (case k2 => k_asm)
  (case k3 => k_asm)
  (case k4 => k_asm)
  (case k5 => k_asm)
  (case k6 => assumption)
  (case k7 => assumption)
  (case k8 => exact rfl)
  (case k9 => decide +kernel)
  (case k10 => exact Nat.zero_le _)
  (case k11 => decide +kernel)
  (case k12 => decide +kernel)
  intro h1 t1 h2 tk1 U1 B1 F1 N1
  have X1 := Frag.In.keeps (K := KK _) (by assumption) (Below.stays B1)
  have T1 := Top.keeps (by assumption) (Below.stays B1)
  have e1 : place (Str.ofString "\"}\"}") 0 = 3 := by decide +kernel
  rw [e1]
  (try dsimp only)
  (try k_fold)
  repeat (fail_if_success (with_reducible show wpAny _ _ (call (Value.ref 1261) _) _ _ _)); (first | walk1 | (dsimp only; walk1))
  k_dflt (refine' hpool ?p1 ?p2 ?p3 ?p4 ?p5 ?p6 ?p7 ?p8 ?p9 ?pa ?pb ?_)
  (case p1 => k_asm)
  (case p2 => k_asm)
  (case p3 => k_asm)
  (case p4 => k_asm)
  (case p5 => assumption)
  (case p6 => assumption)
  (case p7 => assumption)
  (case p8 => k_asm)
  (case p9 => exact rfl)
  (case pa => decide +kernel)
  (case pb => decide +kernel)
  intro src9 x9 y9 tx9 ty9 h3 tk3 P3 F3 N3 l3
  have hPS := Nat.ne_of_lt (l3 _ (.head _))
  dsimp only at hPS
  (try dsimp only)
  repeat (fail_if_success (with_reducible show wpAny _ _ (call (Value.ref 1287) _) _ _ _)); (first | walk1 | (dsimp only; walk1))
  k_dflt (refine' hends hPS ?c1 ?c2 ?c3 ?c4 ?c5 ?c6 ?c7 ?c8 P3 ?c9 ?ca ?_)
  (case c1 => k_asm)
  (case c2 => k_asm)
  (case c3 => k_asm)
  (case c4 => k_asm)
  (case c5 => k_asm)
  (case c6 => assumption)
  (case c7 => assumption)
  (case c8 => exact rfl)
  (case c9 => decide +kernel)
  (case ca => decide +kernel)
  intro h4 x4 y4 tx4 ty4 n4 h5 tk5 U5 B5 F5 N5 P5
  have X5 := Frag.In.keeps (K := KK _) (by assumption) (Below.stays B5)
  have T5 := Top.keeps (by assumption) (Below.stays B5)
  (try dsimp only)
  repeat (fail_if_success (with_reducible show wpAny _ _ (call (Value.ref 1320) _) _ _ _)); (first | walk1 | (dsimp only; walk1))
  k_dflt (refine' hvals hPS ?d1 ?d2 ?d3 ?d4 ?d5 ?d6 ?d7 ?d8 ?d9 P5 ?da ?db ?_)
  (case d1 => k_asm)
  (case d2 => k_asm)
  (case d3 => k_asm)
  (case d4 => k_asm)
  (case d5 => assumption)
  (case d6 => k_asm)
  (case d7 => assumption)
  (case d8 => assumption)
  (case d9 => exact rfl)
  (case da => decide +kernel)
  (case db => decide +kernel)
  intro h6 ps7 h7 tk7 U7 B7 F7 N7
  (try dsimp only)
  k_steps
  refine goodW_kept (fun b o e => F7.keep b o (Below.stays B7 b o e)) (by assumption) (raisesW_false ?_) ?_ rfl
  · wrow_none_raised
  · wrow_post
set_option Elab.async false
theorem ends : True := trivial
end

section -- T3
open PySem PySem.W PyProof.Rows PySem.Calls

noncomputable abbrev psW (c : Nat × Nat × Tok × Tok) : List (Str × Value) := [(Str.ofString "at", Value.int (c.1 : Int) c.2.2.1), (Str.ofString "quote", Value.str (qs c.2.1) c.2.2.2)]
noncomputable abbrev stW : List Str := [Str.ofString "sign"]
noncomputable abbrev muW (text : Str) (c : Nat × Nat × Tok × Tok) : Nat := text.length - c.1

theorem mu_falls {text : Str} {c : Nat × Nat × Tok × Tok} {q : Nat} {t t' : Tok} (hi : (c.1 : Int) < (text.length : Int)) : muW text (c.1 + 1, q, t, t') < muW text c := by
  simp only [muW]
  omega
theorem call_sheet {w : World} {A : Around} {s : Shared} {msg : Str} {t : Tok} {E₁ E : Value → Shared → Prop} (h1 : A.handled = none) (h2 : A.depth ≤ 900) (h5 : A.units ≤ 1000) (X : (KK w.params).In s.heap)
    (h : ∀ h' e tk', MadeF s.heap h' e 329 → E₁ (.ref e) { s with heap := h', toks := tk' }) : wpAny (model PySem.Challenge.rw_xm0674_01.prog w) A (call (.ref 329) [.str msg t]) (RaisableF E₁) E s :=
  wpAny_weaken (mk_sheet X fun h' e tk' hm => raisableF_of hm (isFault_329 (Frag.In.keeps X hm.keeps)) (h h' e tk' hm)) h1 h2 rfl rfl h5

section
variable (w : World) (p : Program) (loose : List Str) (mean : ExcName → Option Value) (mg mb : Str → Option Value)
    (dp un : Nat) (gd : Option (List Code)) (cn : Str) (cs : Scope) (a : Addr) (ccd : Value) (cl : List (Str × Addr)) (outer : List Env) (A₀ : Around) (base h₀ : Heap) (L : Addr) (m : Str → Option Value) (led : List (Addr × Obj)) (s : Shared)
    (Q E : Value → Shared → Prop)


set_option maxHeartbeats 4000000 in
theorem place_U (text : Str) (t1 : Tok) (k : Nat) (t2 : Tok)
    (B : Below A₀ base outer h₀) (F : Fr h₀ L s.heap m) (X : (KK w.params).In h₀) (N : News h₀ L s.heap led)
    (T : Top p loose mean mg mb h₀) (XB : (KK w.params).In base) (TB : Top p loose mean mg mb base) (hk : cs.kind = .function) (hl : text.length ≤ 1000) (hkl : k ≤ text.length) (hd : dp + 8 ≤ 900) (hu : un + 60 ≤ 1000)
    (ret : ∀ h₀' t h' tk', UpFr (frs outer) h₀ h₀' → Below A₀ base outer h₀' → Fr h₀' L h' m → News h₀' L h' led → Q (.int (place text k) t) { s with heap := h', toks := tk' }) :
    wpAny (model PySem.Challenge.rw_xm0674_01.prog w) (ktrTop dp un gd cn cs L a ccd cl outer) (call (.ref 1282) [.str text t1, .int (k : Int) t2]) Q E s := by
  k_with_none
  k_with "memR" => (first | with_reducible assumption | exact List.Mem.head _ | (refine' List.Mem.tail _ ?_; k_extra "memR"))
  k_with "memD" => (first | exact List.Mem.head _ | assumption | (refine' List.Mem.tail _ ?_; k_extra "memD"))
  k_with "mem" => (first | k_extra "memR" | k_extra "memD")
  k_with "allR" => (first | with_reducible assumption | exact List.forall_mem_nil _ | (refine' List.forall_mem_cons.mpr ⟨?a, ?b⟩; (case a => first | with_reducible assumption | k_ne); (case b => k_extra "allR")))
  k_with "all" => (first | with_reducible assumption | exact List.forall_mem_nil _ | with_reducible (first | exact aa0 (by assumption) | exact aa1 (by assumption) | exact aa2 (by assumption) | exact aa3 (by assumption) | exact aa4 (by assumption) | exact aa5 (by assumption) | exact aa6 (by assumption) | exact aa7 (by assumption) | exact ab0 (by assumption) (by assumption) | exact ab1 (by assumption) (by assumption)) | k_extra "allR" | assumption)
  k_with "cj" => (with_reducible (first | assumption | exact cj0 (by assumption) | exact cj1 (by assumption) | exact cj2 (by assumption) | exact cj3 (by assumption) | exact cj4 (by assumption) | exact cj5 (by assumption) | exact cj6 (by assumption) | exact cj7 (by assumption) | exact cj8 (by assumption) | exact cj9 (by assumption) | exact cj10 (by assumption) | exact cj11 (by assumption) | exact cj12 (by assumption) | exact cj13 (by assumption) | exact cj14 (by assumption) | exact cj15 (by assumption) | exact cj16 (by assumption) | exact cl1 (by assumption) | exact cl2 (by assumption) | exact cl3 (by assumption) | exact cl4 (by assumption) | exact cl5 (by assumption) | exact cl6 (by assumption) | exact cl7 (by assumption) | exact cl8 (by assumption) | exact cl9 (by assumption) | exact cl10 (by assumption) | exact cl11 (by assumption) | exact cl12 (by assumption) | exact cl13 (by assumption) | exact cl14 (by assumption) | exact cl15 (by assumption) | exact cl16 (by assumption) | exact ct0t0x (by assumption) | exact ct0t1x (by assumption) | exact ct0t2x (by assumption) | exact ct1t0x (by assumption) | exact ct1t1x (by assumption) | exact ct1t2x (by assumption) | exact ct2t0x (by assumption) | exact ct2t1x (by assumption) | exact ct2t2x (by assumption) | exact ct3t0x (by assumption) | exact ct3t1x (by assumption) | exact ct3t2x (by assumption) | exact ct4t0x (by assumption) | exact ct4t1x (by assumption) | exact ct4t2x (by assumption)))
  k_with "ne" => ((refine neN ?_; (try dsimp only); first | with_reducible (first | assumption | exact ngt (by assumption) | exact nlt (by assumption) | exact Ne.symm (by assumption)) | with_reducible (first | exact al0 (by assumption) | exact ar0 (by assumption) | exact al1 (by assumption) | exact ar1 (by assumption) | exact al2 (by assumption) | exact ar2 (by assumption) | exact al3 (by assumption) | exact ar3 (by assumption) | exact al4 (by assumption) | exact ar4 (by assumption) | exact al5 (by assumption) | exact ar5 (by assumption) | exact al6 (by assumption) | exact ar6 (by assumption) | exact al7 (by assumption) | exact ar7 (by assumption) | exact al8 (by assumption) | exact ar8 (by assumption) | exact al9 (by assumption) | exact ar9 (by assumption) | exact al10 (by assumption) | exact ar10 (by assumption) | exact al11 (by assumption) | exact ar11 (by assumption) | exact al12 (by assumption) | exact ar12 (by assumption) | exact al13 (by assumption) | exact ar13 (by assumption) | exact al14 (by assumption) | exact ar14 (by assumption) | exact al15 (by assumption) | exact ar15 (by assumption)) | with_reducible (first | exact at0 (by assumption) (by assumption) | exact au0 (by assumption) (by assumption) | exact at1 (by assumption) (by assumption) | exact au1 (by assumption) (by assumption) | exact at2 (by assumption) (by assumption) | exact au2 (by assumption) (by assumption) | exact at3 (by assumption) (by assumption) | exact au3 (by assumption) (by assumption) | exact at4 (by assumption) (by assumption) | exact au4 (by assumption) (by assumption) | exact at5 (by assumption) (by assumption) | exact au5 (by assumption) (by assumption) | exact at6 (by assumption) (by assumption) | exact au6 (by assumption) (by assumption) | exact at7 (by assumption) (by assumption) | exact au7 (by assumption) (by assumption)) | with_reducible (first | exact av0 (by assumption) | exact avs0 (by assumption) | exact av1 (by assumption) | exact avs1 (by assumption) | exact av2 (by assumption) | exact avs2 (by assumption) | exact av3 (by assumption) | exact avs3 (by assumption) | exact av4 (by assumption) | exact avs4 (by assumption) | exact av5 (by assumption) | exact avs5 (by assumption) | exact aw0 (by assumption) | exact aws0 (by assumption) | exact aw1 (by assumption) | exact aws1 (by assumption) | exact aw2 (by assumption) | exact aws2 (by assumption) | exact aw3 (by assumption) | exact aws3 (by assumption) | exact aw4 (by assumption) | exact aws4 (by assumption) | exact aw5 (by assumption) | exact aws5 (by assumption)) | (refine nlt ?_; k_data) | (refine ngt ?_; k_data) | k_data | (refine Ne.symm ?_; k_data) | (refine ngt1 ?_; k_data) | (refine ngt2 ?_; k_data) | (refine nlt1 ?_; k_data) | (refine nlt2 ?_; k_data) | omega))
  k_with "room" => (first | exact room_le2 (by assumption) (by exact rfl) | exact room_lt2 (by assumption) (by exact rfl) | exact room_le1 (by assumption) (by exact rfl) | exact room_lt1 (by assumption) (by exact rfl) | exact room_le3 (by assumption) (by exact rfl) | exact room_lt3 (by assumption) (by exact rfl) | exact room_ltF (by assumption) (by exact rfl) (by exact rfl))
  k_with "units" => (first | exact unit_le2 (by assumption) (by exact rfl) | exact unit_lt2 (by assumption) (by exact rfl) | exact unit_le1 (by assumption) (by exact rfl) | exact unit_lt1 (by assumption) (by exact rfl) | exact unit_le3 (by assumption) (by exact rfl) | exact unit_lt3 (by assumption) (by exact rfl) | exact unit_ltE (by assumption) (by exact rfl) (by exact rfl) | exact unit_ltF (by assumption) (by exact rfl) (by exact rfl))
  k_with "callWith ref nil nil" => (k_here; k_dflt (refine' callWith_K ?k1 ?k2 ?_; (case k1 => k_asm); (case k2 => k_is); k_whole))
  k_with "eval Name" => (k_here; k_dflt (refine' nameX_L ?F ?v ?_ ?a ?b; (case b => exact rfl); (case F => k_asm); (case a => rfl); (case v => rfl); k_whole))
  k_with "eval Name" => (k_here; k_dflt (refine' nameX_K ?F ?X ?T ?e ?_ ?a ?b; (case b => exact rfl); (case F => k_asm); (case X => k_asm); (case T => k_asm); (case a => rfl); (case e => k_is); k_whole))
  k_with "eval Name" => (k_here; k_dflt (refine' nameX_B ?F ?X ?T ?e ?v ?n ?_ ?a ?b; (case b => exact rfl); (case F => k_asm); (case X => k_asm); (case T => k_asm); (case a => rfl); (case e => k_is); (case v => boot_fast); (case n => decide); k_whole))
  k_with "subscriptTail Name Constant ref int" => (k_here; (with_reducible show wpAny _ _ (subscriptTail _ _ (Value.ref _) (Value.int _ _)) _ _ _); k_dflt (first | (refine' item_tupleT ?t ?a ?b ?c ?d ?_; (case t => first | with_reducible assumption | exact News.isTup (by k_asm) (by k_mem)); (case a => decide); (case b => decide); (case c => rfl); (case d => rfl); k_whole) | (refine' topTup_K ?F ?X ?l ?a ?b ?c ?d ?_; (case F => k_asm); (case X => k_asm); (case l => k_is); (case a => decide); (case b => decide); (case c => rfl); (case d => rfl)) | (refine' topList_K ?F ?X ?l ?a ?b ?d ?_; (case F => k_asm); (case X => k_asm); (case l => k_is); (case a => decide); (case b => decide); (case d => rfl); k_whole)))
  k_with "subscriptTail Name Constant ref int" => (k_here; (with_reducible show wpAny _ _ (subscriptTail _ _ (Value.ref _) (Value.int _ _)) _ _ _); (with_unfolding_all refine' item_litK ?k1 ?k2 ?k3 ?k4 ?_ ?k6; (case k1 => is_list); (case k2 => decide); (case k3 => decide); (case k4 => rfl); (case k6 => with_unfolding_all rfl); k_whole))
  k_with "call builtin:list.pop" => (k_here; k_dflt ((with_reducible show wpAny _ _ (call (Value.builtin _) [Value.ref _]) _ _ _); refine' kl_pop ?F ?N ?e ?U ?z ?_; (case F => k_asm); (case N => k_asm); (case U => k_upd); (case e => rfl); (case z => kl_room)); kl_rest)
  k_with "lt" => with_reducible (first | assumption | exact ll0 (by assumption) | exact ll1 (by assumption) | exact ll2 (by assumption) | exact ll3 (by assumption) | exact ll4 (by assumption) | exact ll5 (by assumption) | exact ll6 (by assumption) | exact ll7 (by assumption) | exact ll8 (by assumption) | exact ll9 (by assumption) | exact ll10 (by assumption) | exact ll11 (by assumption) | exact ll12 (by assumption) | exact ll13 (by assumption) | exact la0 (by assumption) | exact la1 (by assumption) | exact la2 (by assumption) | exact la3 (by assumption) | exact la4 (by assumption) | exact la5 (by assumption) | exact la6 (by assumption) | exact la7 (by assumption))
  k_with "keeplt" => skip
  k_with "ite" => with_reducible (first | refine ite_tt ?_ | refine ite_ff ?_)
  k_with "subscriptTail Attribute Name Name ref int" => (walk_at "last subscriptTail")
  k_with "callWith ref cons nil" => (k_here; k_dflt (refine' callWith_K ?k1 ?k2 ?_; (case k1 => k_asm); (case k2 => k_is); k_whole))
  k_with "KswEnd" => (refine hold ?_)
  k_with "exec Raise some none" => (k_here; k_dflt (refine' raise_F ?k1 ?_; (case k1 => exact rfl)))
  k_with "call ref" => (k_here; (with_reducible show wpAny _ _ (call (Value.ref 329) _) _ _ _); k_dflt (refine' call_sheet ?k1 ?k2 ?k3 ?k4 ?_; (case k1 => exact rfl); (case k2 => ktr_room); (case k3 => ktr_units); (case k4 => k_in); k_whole); intro h' e' tk' M')
  k_with "leaving ref" => (k_here; k_dflt (refine' leave_U ?k1 ?k2 ?k3 ?k4 ?_; (case k2 => assumption); (case k1 => assumption); (case k3 => assumption); (case k4 => k_asm); k_whole); intro h' a0' R'; (try dsimp only at R' ⊢))
  k_with "noteFrame ref" => (k_here; k_dflt (refine' caught_U ?k1 ?k2 ?k4 ?k5 ?k6 ?k7 ?k8 ?_; (case k4 => assumption); (case k1 => assumption); (case k2 => assumption); (case k5 => assumption); (case k6 => assumption); (case k7 => k_is); (case k8 => exact isFault_329 (by assumption)); k_whole); intro h' g' U' B' F' N' X' T')
  k_with "LeaveU" => (k_dflt (refine' leaveU_ ?k0 ?k1 ?k2 ?_; (case k1 => k_asm); (case k2 => k_asm); (case k0 => first | assumption | exact UpFr.refl); k_whole); intro h0' U0' B0' kF kN; (try dsimp only))
  k_with "exec While Compare cons nil" =>
    rename Fr _ _ _ _ => lF'
    rename News _ _ _ _ => lN'
    with_unfolding_all refine' ksw_while (fun _ => led) psW (fun _ => True) stW (ScanP text k) (muW text) (k, 0, t2, _) lF' lN' trivial ?kk ?kp ?_
    (case kk => intro p hp; rcases List.mem_cons.mp hp with hp | hp; (subst hp; exact rfl); (rcases List.mem_cons.mp hp with hp | hp; (subst hp; exact rfl); exact nomatch hp))
    (case kp => exact ⟨hkl, .inl rfl, rfl⟩)
  refine wpAny_call ?_
  k_dflt (refine' code_U ?k1 ?k2 ?k3 ?k4 ?k5 ?kA ?kF ?kK ?k6 ?k7 ?k8 ?k9 ?kB ?_ ?c2 ?c3 ?c4 ?c5; (case kA => exact rfl); (case kF => exact rfl); (case kK => assumption); (case k1 => k_asm); (case k2 => k_asm); (case k3 => assumption); (case k4 => k_asm); (case k5 => assumption); (case k6 => k_is); (case k7 => k_is); (case k8 => ktr_room); (case k9 => exact BindsTo.of_eq rfl); (case c5 => decide); (case kB => exact locs rfl); (case c2 => exact rfl); (case c3 => exact rfl); (case c4 => exact rfl); k_whole)
  intro g' L' h' FG' F' N' B' X' T'
  (try dsimp only)
  (try k_fold)
  k_steps
  · refine' ksw_end (_, _, _, _) (by assumption) (by assumption) (fun p hp => hp) trivial ?kk ?kr (turn_close (by assumption) (by assumption) (by assumption) (by assumption) _ _) ?km
    (case kk => kst_all)
    (case kr =>
      intro z h2 h3
      have a1 : z ≠ Str.ofString "at" := h2 _ (.head _)
      have a2 : z ≠ Str.ofString "quote" := h2 _ (.tail _ (.head _))
      have a3 : z ≠ Str.ofString "sign" := by simpa using h3
      simp [a1, a2, a3, kstB])
    (case km => exact mu_falls (by assumption))
  · refine' ksw_end (_, _, _, _) (by assumption) (by assumption) (fun p hp => hp) trivial ?kk ?kr (turn_within (by assumption) (by assumption) (by assumption) (by assumption) _ _) ?km
    (case kk => kst_all)
    (case kr =>
      intro z h2 h3
      have a1 : z ≠ Str.ofString "at" := h2 _ (.head _)
      have a2 : z ≠ Str.ofString "quote" := h2 _ (.tail _ (.head _))
      have a3 : z ≠ Str.ofString "sign" := by simpa using h3
      simp [a1, a2, a3, kstB])
    (case km => exact mu_falls (by assumption))
  · have e := place_found (text := text) (k := k) (by assumption) (by assumption) (by assumption) (by assumption) (by assumption)
    rw [← e] at ret
    exact ret _ _ _ _ (by assumption) (by assumption) (by assumption) (by assumption)
  · have e := place_brace (text := text) (k := k) (by assumption) (by assumption) (by assumption) (by assumption) (by assumption) (by assumption)
    rw [← e] at ret
    exact ret _ _ _ _ (by assumption) (by assumption) (by assumption) (by assumption)
  · refine' ksw_end (_, _, _, _) (by assumption) (by assumption) (fun p hp => hp) trivial ?kk ?kr (turn_other (by assumption) (by assumption) (by assumption) (by assumption) (by assumption) (by assumption) _ _) ?km
    (case kk => kst_all)
    (case kr =>
      intro z h2 h3
      have a1 : z ≠ Str.ofString "at" := h2 _ (.head _)
      have a2 : z ≠ Str.ofString "quote" := h2 _ (.tail _ (.head _))
      have a3 : z ≠ Str.ofString "sign" := by simpa using h3
      simp [a1, a2, a3, kstB])
    (case km => exact mu_falls (by assumption))
  · have e := turn_open (text := text) (k := k) (by assumption) (by assumption) (by assumption) (by assumption)
    refine' ksw_end (_, _, _, _) (by assumption) (by assumption) (fun p hp => hp) trivial ?kk ?kr (e _ _).1 ?km
    (case kk => (simp only [psW]; rw [← (e 0 0).2]; kst_all))
    (case kr =>
      intro z h2 h3
      have a1 : z ≠ Str.ofString "at" := h2 _ (.head _)
      have a2 : z ≠ Str.ofString "quote" := h2 _ (.tail _ (.head _))
      have a3 : z ≠ Str.ofString "sign" := by simpa using h3
      simp [a1, a2, a3, kstB])
    (case km => exact mu_falls (by assumption))
  · have e := place_end (text := text) (k := k) (by assumption) (by assumption)
    rw [← e] at ret
    exact ret _ _ _ _ (by assumption) (by assumption) (by assumption) (by assumption)
end
end

section -- S2
open PySem PySem.W PyProof.Rows PySem.Calls
/-- the state of the scan behind a text that neither opens nor closes a brace -/
noncomputable def run : Nat → List Nat → Option Nat
  | q, [] => some q
  | q, c :: r => if q ≠ 0 then run (if c = q then 0 else q) r else if c = 39 ∨ c = 34 then run c r else if c = 125 then none else if c = 123 then none else run 0 r
theorem scan_run : ∀ (l r : List Nat) (q at_ q' : Nat), run q l = some q' → scan q at_ (l ++ r) = scan q' (at_ + l.length) r
  | [], r, q, k, q', h => by
    obtain rfl : q = q' := Option.some.inj h
    rfl
  | c :: l, r, q, k, q', h => by
    rw [run] at h
    rw [List.cons_append, scan, List.length_cons, show k + (l.length + 1) = k + 1 + l.length by omega]
    by_cases h1 : q ≠ 0
    · rw [if_pos h1] at h ⊢
      exact scan_run l r _ _ _ h
    · rw [if_neg h1] at h ⊢
      by_cases h2 : c = 39 ∨ c = 34
      · rw [if_pos h2] at h ⊢
        exact scan_run l r _ _ _ h
      · rw [if_neg h2] at h ⊢
        by_cases h3 : c = 125
        · rw [if_pos h3] at h; cases h
        · rw [if_neg h3] at h ⊢
          by_cases h4 : c = 123
          · rw [if_pos h4] at h; cases h
          · rw [if_neg h4] at h ⊢
            exact scan_run l r _ _ _ h
theorem run_app : ∀ (l r : List Nat) (q q' : Nat), run q l = some q' → run q (l ++ r) = run q' r
  | [], r, q, q', h => by
    obtain rfl : q = q' := Option.some.inj h
    rfl
  | c :: l, r, q, q', h => by
    rw [run] at h
    rw [List.cons_append, run]
    by_cases h1 : q ≠ 0
    · rw [if_pos h1] at h ⊢
      exact run_app l r _ _ h
    · rw [if_neg h1] at h ⊢
      by_cases h2 : c = 39 ∨ c = 34
      · rw [if_pos h2] at h ⊢
        exact run_app l r _ _ h
      · rw [if_neg h2] at h ⊢
        by_cases h3 : c = 125
        · rw [if_pos h3] at h; cases h
        · rw [if_neg h3] at h ⊢
          by_cases h4 : c = 123
          · rw [if_pos h4] at h; cases h
          · rw [if_neg h4] at h ⊢
            exact run_app l r _ _ h
theorem scan_shift : ∀ (l : List Nat) (q k : Nat), scan q k l = none → ∀ j, scan q j l = none
  | [], _, _, _, _ => rfl
  | c :: l, q, k, h, j => by
    rw [scan] at h ⊢
    split at h
    · rename_i h1; rw [if_pos h1]; exact scan_shift l _ _ h _
    · rename_i h1
      rw [if_neg h1]
      split at h
      · rename_i h2; rw [if_pos h2]; exact scan_shift l _ _ h _
      · rename_i h2
        rw [if_neg h2]
        split at h
        · cases h
        · rename_i h3
          rw [if_neg h3]
          split at h
          · rename_i h4; rw [if_pos h4]
          · rename_i h4; rw [if_neg h4]; exact scan_shift l _ _ h _

theorem cps_app (a b : Str) : (a ++ b).cps.toList = a.cps.toList ++ b.cps.toList := Array.toList_append
theorem drop_len (a b : Str) : (a ++ b).cps.toList.drop a.length = b.cps.toList := by
  have e : a.length = a.cps.toList.length := by simp [Str.length]
  rw [cps_app, e, List.drop_left]
theorem app3 (a b c : Str) : a ++ b ++ c = a ++ (b ++ c) := by
  have h : ∀ x y : Str, x ++ y = ⟨x.cps ++ y.cps⟩ := fun _ _ => rfl
  simp only [h, Array.append_assoc]

section
variable {a u b : Str} (hu : run 0 u.cps.toList = some 0)
include hu
theorem place_good (c : Str) : place (a ++ u ++ Str.ofString "}" ++ c) a.length = (a.length : Int) + (u.length : Int) := by
  have e : a ++ u ++ Str.ofString "}" ++ c = a ++ (u ++ (Str.ofString "}" ++ c)) := by rw [app3, app3]
  rw [place, e, drop_len, cps_app, scan_run _ _ _ _ _ hu, cps_app, ofS_rb]
  have e2 : u.cps.toList.length = u.length := by simp [Str.length]
  simp only [List.cons_append, List.nil_append, scan]
  rw [e2]
  show ((_ : Nat) : Int) = _
  omega
theorem place_none0 : place (a ++ u) a.length = -1 := by
  have e : (a ++ u).cps.toList.drop a.length = u.cps.toList ++ [] := by rw [drop_len, List.append_nil]
  rw [place, e, scan_run _ _ _ _ _ hu]
  rfl
theorem place_none (hb : scan 0 0 b.cps.toList = none) : place (a ++ u ++ b) a.length = -1 := by
  rw [place, app3, drop_len, cps_app, scan_run _ _ _ _ _ hu, scan_shift _ _ _ hb]
theorem place_open (c : Str) : place (a ++ u ++ Str.ofString "{" ++ u ++ Str.ofString "}" ++ c) a.length = -1 := by
  have e : a ++ u ++ Str.ofString "{" ++ u ++ Str.ofString "}" ++ c = a ++ u ++ (Str.ofString "{" ++ (u ++ (Str.ofString "}" ++ c))) := by simp only [app3]
  rw [e]
  refine place_none hu ?_
  rw [cps_app, ofS_lb]
  rfl
end

noncomputable def pieceB (v : Value) : Bool := match v with | .str s _ => decide (s.length ≤ 8) && decide (run 0 s.cps.toList = some 0) | _ => false
noncomputable def PieceV (v : Value) : Prop := ∃ s t, v = .str s t ∧ s.length ≤ 8 ∧ run 0 s.cps.toList = some 0
theorem pieceV_of {vs : List Value} {v : Value} (hv : v ∈ vs) (h : vs.all pieceB = true) : PieceV v := by
  have := List.all_eq_true.mp h v hv
  unfold pieceB at this
  split at this
  · have h2 := Bool.and_eq_true_iff.mp this
    exact ⟨_, _, rfl, of_decide_eq_true h2.1, of_decide_eq_true h2.2⟩
  · cases this
noncomputable def badB (v : Value) : Bool := match v with | .str s _ => decide (s.length ≤ 8) && decide (scan 0 0 s.cps.toList = none) | _ => false
theorem bad_of {vs : List Value} {s : Str} {t : Tok} (hv : Value.str s t ∈ vs) (h : vs.all badB = true) : scan 0 0 s.cps.toList = none := by
  have := List.all_eq_true.mp h _ hv
  exact of_decide_eq_true (Bool.and_eq_true_iff.mp this).2
theorem run_join : ∀ (l : List Str), (∀ u ∈ l, u.length ≤ 8 ∧ run 0 u.cps.toList = some 0) → (Str.join (Str.ofString "") l).length ≤ 8 * l.length ∧ run 0 (Str.join (Str.ofString "") l).cps.toList = some 0
  | [], _ => ⟨by decide, by decide⟩
  | [x], h => by
    have := h x (.head _)
    exact ⟨by show x.length ≤ 8; exact this.1, this.2⟩
  | x :: y :: r, h => by
    have h1 := h x (.head _)
    have h2 := run_join (y :: r) fun u hu => h u (.tail _ hu)
    have e : Str.join (Str.ofString "") (x :: y :: r) = x ++ Str.ofString "" ++ Str.join (Str.ofString "") (y :: r) := rfl
    have z : (Str.ofString "").length = 0 := by decide
    have z2 : (Str.ofString "").cps.toList = [] := by decide
    constructor
    · rw [e, Str.length_append, Str.length_append, z]
      simp only [List.length_cons] at h2 ⊢
      omega
    · rw [e, cps_app, cps_app, z2, List.append_nil, run_app _ _ _ _ h1.2]
      exact h2.2
theorem piece_carried : ∀ (ys : List Value), (∀ v ∈ ys, PieceV v) → ∃ l : List Str, CarriedAll ys (l.map fun a => PyData.str a) ∧ l.length = ys.length ∧ ∀ u ∈ l, u.length ≤ 8 ∧ run 0 u.cps.toList = some 0
  | [], _ => ⟨[], .nil, rfl, fun _ h => nomatch h⟩
  | v :: ys, h => by
    obtain ⟨s, t, rfl, h1, h2⟩ := h v (.head _)
    obtain ⟨l, c, hl, hu⟩ := piece_carried ys fun v hv => h v (.tail _ hv)
    refine ⟨s :: l, .cons ?_ c, by simp [hl], fun u hq => ?_⟩
    · exact .str _ _
    · rcases List.mem_cons.mp hq with rfl | hq
      · exact ⟨h1, h2⟩
      · exact hu u hq
theorem join_pieces {prog : Program} {w : World} {A : Around} {E : Value → Shared → Prop} {s : Shared} {t : Tok} {Q : Value → Shared → Prop} {D : Addr} {ys : List Value} (hl : s.heap.IsList D ys.toArray) (hp : ∀ v ∈ ys, PieceV v) (hn : ys.length ≤ 5)
    (h : ∀ (u : Str) t' k, u.length ≤ 40 → run 0 u.cps.toList = some 0 → Q (.str u t') { s with toks := k }) : wpAny (model prog w) A (call (.builtin "str.join") [.str (Str.ofString "") t, .ref D]) Q E s := by
  obtain ⟨l, c, e, hu⟩ := piece_carried ys hp
  have j := run_join l hu
  refine KT.join_B (l := l) (g := fun a => a) 8 hl c (fun a ha => (hu a ha).1) (by omega) (by decide) fun t' k => ?_
  have e2 : Txt.join (Str.ofString "") (l.map fun a => a) = Str.join (Str.ofString "") l := by
    show Builtin.Str.glued _ _ = _
    rw [StrLaws.glued_eq_join, List.map_id']
  rw [e2]
  exact h _ t' k (by omega) j.2
end

section -- E1
open PySem PySem.W PyProof.Rows PySem.Calls

noncomputable def okS (v : Value) : Bool := match v with | .str s _ => decide (s.length ≤ 8) | _ => false
theorem okS_str {vs : List Value} {v : Value} (h : vs.all okS = true) (hv : v ∈ vs) : ∃ s t, v = .str s t ∧ s.length ≤ 8 := by
  have := List.all_eq_true.mp h v hv
  unfold okS at this
  split at this
  · exact ⟨_, _, rfl, of_decide_eq_true this⟩
  · cases this

section
variable {prog : Program} {w : World} {A : Around} {h₀ : Heap} {L : Addr} {m : Str → Option Value} {env : Env} {elt : Expr} {x : Str} {scope : Scope} {cl : List (Str × Addr)} {s : Shared} {Fin : List Value → List (Addr × Obj) → Prop}
theorem off_upd {src I C D : Addr} {o o' : Obj} {led : List (Addr × Obj)} {g : Obj → List (Addr × Obj)} (U : UpdF src o led g) {o₁ : Obj} (h : LCg.Off3 I C D (g o₁)) : LCg.Off3 I C D (g o') := by
  obtain ⟨pre, post, e1, e2, _, _⟩ := U.split
  rw [e2] at h ⊢
  refine LCg.Off3.of fun p hp => ?_
  have hm := LCg.Off3.mem h
  rcases List.mem_append.mp hp with hp | hp
  · exact hm p (List.mem_append.mpr (.inl hp))
  · rcases List.mem_cons.mp hp with rfl | hp
    · exact hm (src, o₁) (List.mem_append.mpr (.inr (.head _)))
    · exact hm p (List.mem_append.mpr (.inr (.tail _ hp)))
theorem upd_self {src : Addr} {o : Obj} {led : List (Addr × Obj)} {g : Obj → List (Addr × Obj)} (U : UpdF src o led g) : led = g o := by
  obtain ⟨pre, post, e1, e2, _, _⟩ := U.split
  rw [e1, e2]

noncomputable def PoolEnd (g : Obj → List (Addr × Obj)) (PV : Value → Prop) (y : Value) (news' : List (Addr × Obj)) : Prop := PV y ∧ ∃ x' y' tx' ty' n', Pool x' y' ∧ news' = g (pool x' y' tx' ty' n')

theorem pool_rest {a : Int} {src : Addr} {x0 y0 : Int} {tx ty : Tok} {nl N : Nat} {led : List (Addr × Obj)} {g : Obj → List (Addr × Obj)} (PV : Value → Prop)
    (U : UpdF src (pool x0 y0 tx ty nl) led g) (hx : Pool x0 y0)
    (turn : ∀ k t x' y' tx' ty' nl' I oI C oC D m₂ ys h tk (E' : Value → Shared → Prop), LCg.NsObj oC m₂ → m₂ x = some (.int k t) → Fr h₀ L h m → News h₀ L h ((I, oI) :: (C, oC) :: (D, LCg.lst ys) :: g (pool x' y' tx' ty' nl')) → LCg.Off3 I C D (g (pool x' y' tx' ty' nl')) → ((@Ne Nat I C) ∧ (@Ne Nat I D) ∧ (@Ne Nat C D)) → Pool x' y' →
      wpAny (model prog w) A (eval elt (compEnvC scope cl C env)) (LCg.CompEnd h₀ L m { s with heap := h, toks := tk } I oI C oC D (LCg.lst ys) (fun _ => True) (PoolEnd g PV)) E' { s with heap := h, toks := tk })
    (fin : ∀ ys x' y' tx' ty' nl', ys.length = N → (∀ v ∈ ys, PV v) → Pool x' y' → Fin ys (g (pool x' y' tx' ty' nl'))) :
    LCg.CompRest prog w A h₀ L m env elt x scope cl s (fun _ => True) (fun i v => ∃ t, v = .int (a + (i : Int)) t) Fin N 0 [] led := by
  have key : ∀ (j i : Nat) (ys : List Value) (x' y' : Int) (tx' ty' : Tok) (nl' : Nat), ys.length + j = N → (∀ v ∈ ys, PV v) → Pool x' y' → LCg.CompRest prog w A h₀ L m env elt x scope cl s (fun _ => True) (fun i v => ∃ t, v = .int (a + (i : Int)) t) Fin j i ys (g (pool x' y' tx' ty' nl')) := by
    intro j
    induction j with
    | zero => intro i ys x' y' tx' ty' nl' hi hy hp; exact LCg.CompRest.zero (fin ys _ _ _ _ _ hi hy hp)
    | succ j ih =>
      intro i ys x' y' tx' ty' nl' hi hy hp
      refine LCg.CompRest.succ ?_
      intro v I oI C oC D m₂ h tk E' hv hC hx F N off ne
      obtain ⟨t, rfl⟩ := hv
      refine wpAny_mono (turn _ _ _ _ _ _ _ I oI C oC D m₂ ys h tk E' hC hx F N off ne hp) (fun y s₂ hq => ?_) fun _ _ e => e
      obtain ⟨h', tk', nw, e, F', N', off', hS, hPV, x2, y2, tx2, ty2, n2, hp2, hn⟩ := hq
      subst hn
      refine ⟨h', tk', _, e, F', N', off', hS, ?_⟩
      refine ih (i + 1) _ _ _ _ _ _ (by rw [List.length_append, List.length_singleton]; omega) (fun v hv => ?_) hp2
      rcases List.mem_append.mp hv with hv | hv
      · exact hy v hv
      · rw [List.mem_singleton.mp hv]; exact hPV
  rw [upd_self U]
  exact key N 0 [] _ _ _ _ _ (by simp) (by simp) hx
end

section
variable (w : World) (p : Program) (loose : List Str) (mean : ExcName → Option Value) (mg mb : Str → Option Value)
    (dp un : Nat) (gd : Option (List Code)) (cn : Str) (cs : Scope) (a : Addr) (ccd : Value) (cl : List (Str × Addr)) (outer : List Env) (A₀ : Around) (base h₀ : Heap) (L : Addr) (m : Str → Option Value) (s : Shared)
    (Q E : Value → Shared → Prop) (src : Addr) (x y : Int) (tx ty : Tok) (n : Nat)
theorem len_rb : (Str.ofString "}").length = 1 := by decide
theorem len_lb : (Str.ofString "{").length = 1 := by decide
end
end

section -- E2
open PySem PySem.W PyProof.Rows PySem.Calls
structure LitS (vs0 vs : List Value) : Prop where
  ne : 0 < vs.length
  le : vs.length ≤ 16
  ok : vs.all okS = true
  pc : vs.all pieceB = vs0.all pieceB
  bd : vs.all badB = vs0.all badB
theorem newList_S {M : Model} {A : Around} {E : Value → Shared → Prop} {s : Shared} {h₀ : Heap} {L : Addr} {m : Str → Option Value} {news : List (Addr × Obj)} {vs : List Value} {Q : Value → Shared → Prop} (hne : 0 < vs.length) (hle : vs.length ≤ 16) (hok : vs.all okS = true) (F : Fr h₀ L s.heap m) (N : News h₀ L s.heap news)
    (h : ∀ l h' ws, LitS vs ws → Fr h₀ L h' m → News h₀ L h' ((l, listOf (List.toArray ws) 0) :: news) → (∀ p ∈ news, p.1 < l) → Q (.ref l) { s with heap := h' }) : wpAny M A (newList vs) Q E s :=
  newList_K F N (fun l h' F' N' l1 => h l h' vs ⟨hne, hle, hok, rfl, rfl⟩ F' N' l1) (by rw [PySem.sizeLine_eq]; exact Nat.le_trans hle (by decide))
section
variable (w : World) (p : Program) (loose : List Str) (mean : ExcName → Option Value) (mg mb : Str → Option Value)
    (dp un : Nat) (gd : Option (List Code)) (cn : Str) (cs : Scope) (a : Addr) (ccd : Value) (cl : List (Str × Addr)) (outer : List Env) (A₀ : Around) (base h₀ : Heap) (L : Addr) (m : Str → Option Value) (s : Shared)
    (Q E : Value → Shared → Prop) (src : Addr) (x y : Int) (tx ty : Tok) (n : Nat)
theorem len_rb2 : (Str.ofString "}").length = 1 := by decide
theorem len_lb2 : (Str.ofString "{").length = 1 := by decide
section
variable {a u c : Str}
theorem tl1 (h1 : a.length ≤ 8) (h2 : u.length ≤ 40) (h3 : c.length ≤ 8) : (a ++ u ++ Str.ofString "}" ++ c).length ≤ 1000 := by simp only [PySem.Str.length_append, len_rb2]; omega
theorem tl2 (h1 : a.length ≤ 8) (h2 : u.length ≤ 40) : (a ++ u).length ≤ 1000 := by simp only [PySem.Str.length_append]; omega
theorem tl3 (h1 : a.length ≤ 8) (h2 : u.length ≤ 40) (h3 : c.length ≤ 8) : (a ++ u ++ c).length ≤ 1000 := by simp only [PySem.Str.length_append]; omega
theorem tl4 (h1 : a.length ≤ 8) (h2 : u.length ≤ 40) (h3 : c.length ≤ 8) : (a ++ u ++ Str.ofString "{" ++ u ++ Str.ofString "}" ++ c).length ≤ 1000 := by simp only [PySem.Str.length_append, len_rb2, len_lb2]; omega
theorem pl2 : a.length ≤ (a ++ u).length := by simp only [PySem.Str.length_append]; omega
theorem pl3 : a.length ≤ (a ++ u ++ c).length := by simp only [PySem.Str.length_append]; omega
theorem pl1 : a.length ≤ (a ++ u ++ Str.ofString "}" ++ c).length := by simp only [PySem.Str.length_append]; omega
theorem pl4 : a.length ≤ (a ++ u ++ Str.ofString "{" ++ u ++ Str.ofString "}" ++ c).length := by simp only [PySem.Str.length_append]; omega
end
set_option maxHeartbeats 4000000 in
theorem ends_P {PT : Addr} (hPT : @Ne Nat PT src)
    (B : Below A₀ base outer h₀) (F : Fr h₀ L s.heap m) (X : (KK w.params).In h₀) (N : News h₀ L s.heap [(src, pool x y tx ty n), (PT, tabObj #[])])
    (T : Top p loose mean mg mb h₀) (XB : (KK w.params).In base) (TB : Top p loose mean mg mb base) (hk : cs.kind = .function) (hx : Pool x y) (hd : dp + 16 ≤ 900) (hu : un + 200 ≤ 1000)
    (ret : ∀ h₀' x' y' tx' ty' n' h' tk', UpFr (frs outer) h₀ h₀' → Below A₀ base outer h₀' → Fr h₀' L h' m → News h₀' L h' [(src, pool x' y' tx' ty' n'), (PT, tabObj #[])] → Pool x' y' → Q (.bool true) { s with heap := h', toks := tk' }) :
    wpAny (model PySem.Challenge.rw_xm0674_01.prog w) (ktrTop dp un gd cn cs L a ccd cl outer) (call (.ref 1287) [.ref src]) Q E s := by
  k_with_none
  k_with "memR" => (first | with_reducible assumption | exact List.Mem.head _ | (refine' List.Mem.tail _ ?_; k_extra "memR"))
  k_with "memD" => (first | exact List.Mem.head _ | assumption | (refine' List.Mem.tail _ ?_; k_extra "memD"))
  k_with "mem" => (first | k_extra "memR" | k_extra "memD")
  k_with "allR" => (first | with_reducible assumption | exact List.forall_mem_nil _ | (refine' List.forall_mem_cons.mpr ⟨?a, ?b⟩; (case a => first | with_reducible assumption | k_ne); (case b => k_extra "allR")))
  k_with "all" => (first | with_reducible assumption | exact List.forall_mem_nil _ | with_reducible (first | exact aa0 (by assumption) | exact aa1 (by assumption) | exact aa2 (by assumption) | exact aa3 (by assumption) | exact aa4 (by assumption) | exact aa5 (by assumption) | exact aa6 (by assumption) | exact aa7 (by assumption) | exact ab0 (by assumption) (by assumption) | exact ab1 (by assumption) (by assumption)) | k_extra "allR" | assumption)
  k_with "cj" => (with_reducible (first | assumption | exact cj0 (by assumption) | exact cj1 (by assumption) | exact cj2 (by assumption) | exact cj3 (by assumption) | exact cj4 (by assumption) | exact cj5 (by assumption) | exact cj6 (by assumption) | exact cj7 (by assumption) | exact cj8 (by assumption) | exact cj9 (by assumption) | exact cj10 (by assumption) | exact cj11 (by assumption) | exact cj12 (by assumption) | exact cj13 (by assumption) | exact cj14 (by assumption) | exact cj15 (by assumption) | exact cj16 (by assumption) | exact cl1 (by assumption) | exact cl2 (by assumption) | exact cl3 (by assumption) | exact cl4 (by assumption) | exact cl5 (by assumption) | exact cl6 (by assumption) | exact cl7 (by assumption) | exact cl8 (by assumption) | exact cl9 (by assumption) | exact cl10 (by assumption) | exact cl11 (by assumption) | exact cl12 (by assumption) | exact cl13 (by assumption) | exact cl14 (by assumption) | exact cl15 (by assumption) | exact cl16 (by assumption) | exact ct0t0x (by assumption) | exact ct0t1x (by assumption) | exact ct0t2x (by assumption) | exact ct1t0x (by assumption) | exact ct1t1x (by assumption) | exact ct1t2x (by assumption) | exact ct2t0x (by assumption) | exact ct2t1x (by assumption) | exact ct2t2x (by assumption) | exact ct3t0x (by assumption) | exact ct3t1x (by assumption) | exact ct3t2x (by assumption) | exact ct4t0x (by assumption) | exact ct4t1x (by assumption) | exact ct4t2x (by assumption)))
  k_with "ne" => ((refine neN ?_; (try dsimp only); first | with_reducible (first | assumption | exact ngt (by assumption) | exact nlt (by assumption) | exact Ne.symm (by assumption)) | with_reducible (first | exact al0 (by assumption) | exact ar0 (by assumption) | exact al1 (by assumption) | exact ar1 (by assumption) | exact al2 (by assumption) | exact ar2 (by assumption) | exact al3 (by assumption) | exact ar3 (by assumption) | exact al4 (by assumption) | exact ar4 (by assumption) | exact al5 (by assumption) | exact ar5 (by assumption) | exact al6 (by assumption) | exact ar6 (by assumption) | exact al7 (by assumption) | exact ar7 (by assumption) | exact al8 (by assumption) | exact ar8 (by assumption) | exact al9 (by assumption) | exact ar9 (by assumption) | exact al10 (by assumption) | exact ar10 (by assumption) | exact al11 (by assumption) | exact ar11 (by assumption) | exact al12 (by assumption) | exact ar12 (by assumption) | exact al13 (by assumption) | exact ar13 (by assumption) | exact al14 (by assumption) | exact ar14 (by assumption) | exact al15 (by assumption) | exact ar15 (by assumption)) | with_reducible (first | exact at0 (by assumption) (by assumption) | exact au0 (by assumption) (by assumption) | exact at1 (by assumption) (by assumption) | exact au1 (by assumption) (by assumption) | exact at2 (by assumption) (by assumption) | exact au2 (by assumption) (by assumption) | exact at3 (by assumption) (by assumption) | exact au3 (by assumption) (by assumption) | exact at4 (by assumption) (by assumption) | exact au4 (by assumption) (by assumption) | exact at5 (by assumption) (by assumption) | exact au5 (by assumption) (by assumption) | exact at6 (by assumption) (by assumption) | exact au6 (by assumption) (by assumption) | exact at7 (by assumption) (by assumption) | exact au7 (by assumption) (by assumption)) | with_reducible (first | exact av0 (by assumption) | exact avs0 (by assumption) | exact av1 (by assumption) | exact avs1 (by assumption) | exact av2 (by assumption) | exact avs2 (by assumption) | exact av3 (by assumption) | exact avs3 (by assumption) | exact av4 (by assumption) | exact avs4 (by assumption) | exact av5 (by assumption) | exact avs5 (by assumption) | exact aw0 (by assumption) | exact aws0 (by assumption) | exact aw1 (by assumption) | exact aws1 (by assumption) | exact aw2 (by assumption) | exact aws2 (by assumption) | exact aw3 (by assumption) | exact aws3 (by assumption) | exact aw4 (by assumption) | exact aws4 (by assumption) | exact aw5 (by assumption) | exact aws5 (by assumption)) | (refine nlt ?_; k_data) | (refine ngt ?_; k_data) | k_data | (refine Ne.symm ?_; k_data) | (refine ngt1 ?_; k_data) | (refine ngt2 ?_; k_data) | (refine nlt1 ?_; k_data) | (refine nlt2 ?_; k_data) | omega))
  k_with "room" => (first | exact room_le2 (by assumption) (by exact rfl) | exact room_lt2 (by assumption) (by exact rfl) | exact room_le1 (by assumption) (by exact rfl) | exact room_lt1 (by assumption) (by exact rfl) | exact room_le3 (by assumption) (by exact rfl) | exact room_lt3 (by assumption) (by exact rfl) | exact room_ltF (by assumption) (by exact rfl) (by exact rfl))
  k_with "units" => (first | exact unit_le2 (by assumption) (by exact rfl) | exact unit_lt2 (by assumption) (by exact rfl) | exact unit_le1 (by assumption) (by exact rfl) | exact unit_lt1 (by assumption) (by exact rfl) | exact unit_le3 (by assumption) (by exact rfl) | exact unit_lt3 (by assumption) (by exact rfl) | exact unit_ltE (by assumption) (by exact rfl) (by exact rfl) | exact unit_ltF (by assumption) (by exact rfl) (by exact rfl))
  k_with "callWith ref nil nil" => (k_here; k_dflt (refine' callWith_K ?k1 ?k2 ?_; (case k1 => k_asm); (case k2 => k_is); k_whole))
  k_with "eval Name" => (k_here; k_dflt (refine' nameX_L ?F ?v ?_ ?a ?b; (case b => exact rfl); (case F => k_asm); (case a => rfl); (case v => rfl); k_whole))
  k_with "eval Name" => (k_here; k_dflt (refine' nameX_K ?F ?X ?T ?e ?_ ?a ?b; (case b => exact rfl); (case F => k_asm); (case X => k_asm); (case T => k_asm); (case a => rfl); (case e => k_is); k_whole))
  k_with "eval Name" => (k_here; k_dflt (refine' nameX_B ?F ?X ?T ?e ?v ?n ?_ ?a ?b; (case b => exact rfl); (case F => k_asm); (case X => k_asm); (case T => k_asm); (case a => rfl); (case e => k_is); (case v => boot_fast); (case n => decide); k_whole))
  k_with "subscriptTail Name Constant ref int" => (k_here; (with_reducible show wpAny _ _ (subscriptTail _ _ (Value.ref _) (Value.int _ _)) _ _ _); k_dflt (first | (refine' item_tupleT ?t ?a ?b ?c ?d ?_; (case t => first | with_reducible assumption | exact News.isTup (by k_asm) (by k_mem)); (case a => decide); (case b => decide); (case c => rfl); (case d => rfl); k_whole) | (refine' topTup_K ?F ?X ?l ?a ?b ?c ?d ?_; (case F => k_asm); (case X => k_asm); (case l => k_is); (case a => decide); (case b => decide); (case c => rfl); (case d => rfl)) | (refine' topList_K ?F ?X ?l ?a ?b ?d ?_; (case F => k_asm); (case X => k_asm); (case l => k_is); (case a => decide); (case b => decide); (case d => rfl); k_whole)))
  k_with "subscriptTail Name Constant ref int" => (k_here; (with_reducible show wpAny _ _ (subscriptTail _ _ (Value.ref _) (Value.int _ _)) _ _ _); (with_unfolding_all refine' item_litK ?k1 ?k2 ?k3 ?k4 ?_ ?k6; (case k1 => is_list); (case k2 => decide); (case k3 => decide); (case k4 => rfl); (case k6 => with_unfolding_all rfl); k_whole))
  k_with "call builtin:list.pop" => (k_here; k_dflt ((with_reducible show wpAny _ _ (call (Value.builtin _) [Value.ref _]) _ _ _); refine' kl_pop ?F ?N ?e ?U ?z ?_; (case F => k_asm); (case N => k_asm); (case U => k_upd); (case e => rfl); (case z => kl_room)); kl_rest)
  k_with "lt" => with_reducible (first | assumption | exact ll0 (by assumption) | exact ll1 (by assumption) | exact ll2 (by assumption) | exact ll3 (by assumption) | exact ll4 (by assumption) | exact ll5 (by assumption) | exact ll6 (by assumption) | exact ll7 (by assumption) | exact ll8 (by assumption) | exact ll9 (by assumption) | exact ll10 (by assumption) | exact ll11 (by assumption) | exact ll12 (by assumption) | exact ll13 (by assumption) | exact la0 (by assumption) | exact la1 (by assumption) | exact la2 (by assumption) | exact la3 (by assumption) | exact la4 (by assumption) | exact la5 (by assumption) | exact la6 (by assumption) | exact la7 (by assumption))
  k_with "keeplt" => skip
  k_with "ite" => with_reducible (first | refine ite_tt ?_ | refine ite_ff ?_)
  k_with "subscriptTail Attribute Name Name ref int" => (walk_at "last subscriptTail")
  k_with "callWith ref cons nil" => (k_here; k_dflt (refine' callWith_K ?k1 ?k2 ?_; (case k1 => k_asm); (case k2 => k_is); k_whole))
  k_with "CompEnd" => (refine hold ?_)
  k_with "call ref" => (k_here; (with_reducible show wpAny _ _ (call (Value.ref 1268) _) _ _ _); k_dflt (refine' take_F _ _ _ _ _ _ _ _ _ _ _ _ _ _ _ _ _ _ _ _ _ _ _ _ _ _ _ _ _ _ _ _ _ ?k1 ?k2 ?k3 ?k4 ?k5 ?k6 ?k7 ?k8 ?k9 ?k10 ?k11 ?k12 ?_; (case k1 => k_asm); (case k2 => k_asm); (case k3 => k_asm); (case k4 => k_asm); (case k5 => first | assumption | k_updF); (case k6 => k_asm); (case k7 => first | exact rfl | assumption); (case k8 => assumption); (case k9 => first | with_reducible assumption | decide | omega); (case k10 => first | with_reducible assumption | decide | omega); (case k11 => ktr_room); (case k12 => ktr_units); intro k' t' x' tx' y' ty' n' h' tk' F' N' P' hk0' hk1'; (try dsimp only at N'); (try dsimp only); (try k_fold)))
  k_with "call ref" => (k_here; (with_reducible show wpAny _ _ (call (Value.ref 1275) _) _ _ _); k_dflt (refine' one_F _ _ _ _ _ _ _ _ _ _ _ _ _ _ _ _ _ _ _ _ _ _ _ _ _ _ _ _ _ _ _ _ _ _ ?k1 ?k2 ?k3 ?k4 ?k5 ?k13 ?k14 ?k6 ?k7 ?k8 ?k9 ?k10 ?k11 ?k12 ?_; (case k1 => k_asm); (case k2 => k_asm); (case k3 => k_asm); (case k4 => k_asm); (case k5 => first | assumption | k_updF); (case k13 => k_mem); (case k14 => k_ne); (case k6 => k_asm); (case k7 => first | exact rfl | assumption); (case k8 => assumption); (case k9 => exact LitS.ne (by assumption)); (case k10 => exact LitS.le (by assumption)); (case k11 => ktr_room); (case k12 => ktr_units); intro v' x' tx' y' ty' n' h' tk' hv' F' N' P'; (obtain ⟨s9', t9', e9', p9'⟩ := okS_str (LitS.ok (by assumption)) hv'); (subst e9'); (try dsimp only at N'); (try dsimp only); (try k_fold)))
  k_with "newList" => (k_here; k_dflt (refine' newList_S (Nat.le_of_ble_eq_true rfl) (Nat.le_of_ble_eq_true rfl) (by kernel_rfl) (by k_asm) (by k_asm) ?_); intro l' h' ws' hS' F' N' l1; (try k_lt l1))
  k_with "call ref" => (k_here; (with_reducible show wpAny _ _ (call (Value.ref 1282) _) _ _ _); k_dflt (refine' place_U _ _ _ _ _ _ _ _ _ _ _ _ _ _ _ _ _ _ _ _ _ _ _ _ _ _ _ _ ?k1 ?k2 ?k3 ?k4 ?k5 ?k6 ?k7 ?k8 ?k9 ?k10 ?k11 ?k12 ?_; (case k1 => k_asm); (case k2 => k_asm); (case k3 => k_asm); (case k4 => k_asm); (case k5 => k_asm); (case k6 => assumption); (case k7 => assumption); (case k8 => first | exact rfl | assumption); (case k9 => with_reducible (first | exact tl1 (by assumption) (by assumption) (by assumption) | exact tl2 (by assumption) (by assumption) | exact tl3 (by assumption) (by assumption) (by assumption) | exact tl4 (by assumption) (by assumption) (by assumption))); (case k10 => with_reducible (first | exact pl1 | exact pl2 | exact pl3 | exact pl4)); (case k11 => ktr_room); (case k12 => ktr_units); intro h0' t' h' tk' U' B' F' N'; (have X' := Frag.In.keeps (K := KK _) (by assumption) (Below.stays B')); (have T' := Top.keeps (by assumption) (Below.stays B')); (try dsimp only at N'); (try dsimp only); (try k_fold)))
  k_with "call builtin:str.join" => (k_here; k_dflt (refine' join_pieces ?k1 ?k2 ?k3 ?_; (case k1 => first | assumption | exact News.isList (by k_asm) (by k_mem)); (case k2 => assumption); (case k3 => omega); intro u' t' k' hl' hr'))
  k_with "eval ListComp" => (k_here; k_dflt (refine LCg.ListComp_U (F₀ := by k_asm) (by with_unfolding_all rfl) (by decide) (by rfl) (by decide) (by rfl) ?_); k_dflt lcg_toSrc)
  k_with "CompSrc" =>
    k_dflt (refine' LCg.CompSrc.range ?q1 ?q2 ?q3 ?q4 ?q5 ?q6 ?q7 ?_)
    (case q1 => k_dflt (exact rfl))
    (case q2 => k_dflt k_asm)
    (case q3 => k_dflt k_asm)
    (case q4 => k_dflt assumption)
    (case q5 => k_dflt (exact small_one (by omega) (by omega) (by omega) (by omega)))
    (case q6 => k_dflt (exact rangeSize_nat _ _))
    (case q7 => k_dflt (rw [PySem.sizeLine_eq]; omega))
    intro g'
    k_dflt (refine' pool_rest (src := src) PieceV ?q1 ?q2 ?_ ?_)
    (case q1 => k_dflt k_updF)
    (case q2 => k_dflt assumption)
    (intro k' t' x' y' tx' ty' n' I' oI' C' oC' D' m' ys' h' tk' E' hC' hx' F' N' off' ne' P')
    (try dsimp only at off')
    (have ho' := LCg.Off3.mem off' (src, pool x' y' tx' ty' n') (by k_dflt k_mem))
    (dsimp only at ho')
    (try dsimp only at N')
    rotate_left
    (intro ys' x' y' tx' ty' n' hl' hp' P')
    (try dsimp only)
    rotate_left
  refine wpAny_call ?_
  k_dflt (refine' code_UC ?k1 ?k2 ?k3 ?k4 ?k5 ?kA ?kF ?kK ?k6 ?k7 ?k8 ?k9 ?kB ?kD ?_ ?c2 ?c3 ?c4; (case kA => exact rfl); (case kF => exact rfl); (case kK => assumption); (case k1 => k_asm); (case k2 => k_asm); (case k3 => assumption); (case k4 => k_asm); (case k5 => assumption); (case k6 => k_is); (case k7 => k_is); (case k8 => ktr_room); (case k9 => exact BindsTo.of_eq rfl); (case kB => exact rfl); (case kD => decide +kernel); (case c2 => exact rfl); (case c3 => exact rfl); (case c4 => exact rfl); k_whole)
  intro g' L' h' tk' cells' FG' F' N' Y' B' X' T' l1
  (try k_lt l1)
  k_cells Y'
  (try simp only [List.cons_append, List.nil_append] at N')
  (try dsimp only)
  (try k_fold)
  k_steps
  · exact LCg.CompEnd.intro (by assumption) (by assumption) _ (fun _ h => h) (by assumption) trivial ⟨pieceV_of (by assumption) ((LitS.pc (by assumption)).trans (by kernel_rfl)), _, _, _, _, _, by assumption, rfl⟩
  · exact absurd (place_good (by assumption) _) (by assumption)
  · exact absurd (place_none0 (by assumption)) (by assumption)
  · exact absurd (place_none (by assumption) (bad_of (by assumption) ((LitS.bd (by assumption)).trans (by kernel_rfl)))) (by assumption)
  · rename run 0 _ = some 0 => hru
    have e := fun a c => place_open (a := a) hru c
    rw [e]
    k_dflt (refine' leaveU_ ?k0 ?k1 ?k2 ?_)
    case k1 => k_dflt k_asm
    case k2 => k_dflt k_asm
    case k0 => exact UpFr.trans (UpFr.trans (UpFr.trans (by assumption) (by assumption)) (by assumption)) (by assumption)
    intro h0' U0' B0' kF kN
    (try dsimp only)
    k_dflt (refine' ret _ _ _ _ _ _ _ _ U0' B0' kF ?kN ?kP)
    case kP => assumption
    case kN =>
      intro q hq
      rcases List.mem_cons.mp hq with rfl | hq
      · exact kN _ (by k_dflt k_mem)
      · rw [List.mem_singleton.mp hq]
        exact kN _ (by k_dflt k_mem)
end
end

section -- G3
open PySem PySem.W PyProof.Rows PySem.Calls
theorem parents_is {w : World} {h : Heap} (X : (KK w.params).In h) : ∃ t u, IsTup h 1044 #[.str ⟨#[114, 111, 111, 116]⟩ t, .str ⟨#[101, 108, 101, 109, 101, 110, 116]⟩ u] := by
  have hk := X 1044 _ (by k_is)
  exact ⟨_, _, _, hk, rfl, _, rfl⟩
theorem root_is : Str.ofString "root" = ⟨#[114, 111, 111, 116]⟩ := by decide +kernel
theorem elem_is : Str.ofString "element" = ⟨#[101, 108, 101, 109, 101, 110, 116]⟩ := by decide +kernel
theorem parents_notin {w : World} {A : Around} {s : Shared} {x : Str} {u : Tok} {h₀ : Heap} {L : Addr} {m : Str → Option Value} {Q E : Value → Shared → Prop} (F : Fr h₀ L s.heap m) (X : (KK w.params).In h₀) (hb : x = Str.ofString "root" ∨ x = Str.ofString "element") (h : Q (.bool false) s) :
    wpAny (model PySem.Challenge.rw_xm0674_01.prog w) A (compareOp .NotIn (.str x u) (.ref 1044)) Q E s := by
  obtain ⟨t1, t2, ht⟩ := parents_is (Frag.In.keeps X F.keep)
  refine notin_tuple_strs ht (.cons _ _ (.cons _ _ .nil)) ?_
  have e : (!(([⟨#[114, 111, 111, 116]⟩, ⟨#[101, 108, 101, 109, 101, 110, 116]⟩] : List Str).any (· == x))) = false := by
    rcases hb with rfl | rfl
    · rw [root_is]; decide
    · rw [elem_is]; decide
  rw [e]
  exact h
end

section -- R1
open PySem PySem.W PyProof.Rows PySem.Calls
noncomputable abbrev ent (w : World) (n : Str) (t : Tok) (v : Value) : DictEntry := { hash := PyData.keyHash w.params n, key := .str n t, val := v }
noncomputable abbrev rowD (w : World) (kd nm ur lc vl pr : Value) (c at_ ns : Addr) (k0 k1 k2 k3 k4 k5 k6 k7 k8 : Tok) : Obj :=
  dictOf [ent w (Str.ofString "kind") k0 kd, ent w (Str.ofString "name") k1 nm, ent w (Str.ofString "uri") k2 ur, ent w (Str.ofString "local") k3 lc, ent w (Str.ofString "value") k4 vl, ent w (Str.ofString "parent") k5 pr,
    ent w (Str.ofString "children") k6 (.ref c), ent w (Str.ofString "attributes") k7 (.ref at_), ent w (Str.ofString "namespaces") k8 (.ref ns)] 9
noncomputable abbrev treeD (w : World) (k0 : Tok) (R : Addr) : Obj := dictOf [ent w (Str.ofString "rows") k0 (.ref R)] 1
section
variable (w : World) (p : Program) (loose : List Str) (mean : ExcName → Option Value) (mg mb : Str → Option Value)
    (dp un : Nat) (gd : Option (List Code)) (cn : Str) (cs : Scope) (a : Addr) (ccd : Value) (cl : List (Str × Addr)) (outer : List Env) (A₀ : Around) (base h₀ : Heap) (L : Addr) (m : Str → Option Value) (rest : List (Addr × Obj)) (s : Shared)
    (Q E : Value → Shared → Prop)
set_option maxHeartbeats 0 in
theorem newrow_F (T0 dT R : Addr) (kT : Tok) (vs : List Value) (nR : Nat) (kd nm ur lc vl pr : Value)
    (B : Below A₀ base outer h₀) (F : Fr h₀ L s.heap m) (X : (KK w.params).In h₀) (N : News h₀ L s.heap ((R, listOf vs.toArray nR) :: (T0, instObj 1250 dT) :: (dT, treeD w kT R) :: rest)) (h1 : ∀ q ∈ rest, q.1 ≠ R) (hT : @Ne Nat T0 R) (hdT : @Ne Nat dT R)
    (T : Top p loose mean mg mb h₀) (hk : cs.kind = .function) (hz : vs.length ≤ 100) (hd : dp + 16 ≤ 900) (hu : un + 200 ≤ 1000)
    (ret : ∀ (e r c at_ ns : Addr) (k0 k1 k2 k3 k4 k5 k6 k7 k8 t : Tok) h' tk', (@LT.lt Nat _ R e ∧ @LT.lt Nat _ T0 e ∧ @LT.lt Nat _ dT e ∧ AllLt e rest) → @LT.lt Nat _ e r → @LT.lt Nat _ r c → @LT.lt Nat _ c at_ → @LT.lt Nat _ at_ ns → Fr h₀ L h' m →
      News h₀ L h' ((ns, listOf #[] 0) :: (at_, listOf #[] 0) :: (c, listOf #[] 0) :: (r, instObj 1061 e) :: (e, rowD w kd nm ur lc vl pr c at_ ns k0 k1 k2 k3 k4 k5 k6 k7 k8) :: (R, listOf (vs ++ [Value.ref r]).toArray (nR + 1)) :: (T0, instObj 1250 dT) :: (dT, treeD w kT R) :: rest) → Q (.int (vs.length : Int) t) { s with heap := h', toks := tk' }) :
    wpAny (model PySem.Challenge.rw_xm0674_01.prog w) (ktrTop dp un gd cn cs L a ccd cl outer) (call (.ref 1086) [.ref T0, kd, nm, ur, lc, vl, pr]) Q E s := by
  k_with_none
  k_with "memR" => (first | with_reducible assumption | exact List.Mem.head _ | (refine' List.Mem.tail _ ?_; k_extra "memR"))
  k_with "memD" => (first | exact List.Mem.head _ | assumption | (refine' List.Mem.tail _ ?_; k_extra "memD"))
  k_with "mem" => (first | k_extra "memR" | k_extra "memD")
  k_with "allR" => (first | with_reducible assumption | exact List.forall_mem_nil _ | (refine' List.forall_mem_cons.mpr ⟨?a, ?b⟩; (case a => first | with_reducible assumption | k_ne); (case b => k_extra "allR")))
  k_with "all" => (first | with_reducible assumption | exact List.forall_mem_nil _ | with_reducible (first | exact aa0 (by assumption) | exact aa1 (by assumption) | exact aa2 (by assumption) | exact aa3 (by assumption) | exact aa4 (by assumption) | exact aa5 (by assumption) | exact aa6 (by assumption) | exact aa7 (by assumption) | exact ab0 (by assumption) (by assumption) | exact ab1 (by assumption) (by assumption)) | k_extra "allR" | assumption)
  k_with "cj" => (with_reducible (first | assumption | exact cj0 (by assumption) | exact cj1 (by assumption) | exact cj2 (by assumption) | exact cj3 (by assumption) | exact cj4 (by assumption) | exact cj5 (by assumption) | exact cj6 (by assumption) | exact cj7 (by assumption) | exact cj8 (by assumption) | exact cj9 (by assumption) | exact cj10 (by assumption) | exact cj11 (by assumption) | exact cj12 (by assumption) | exact cj13 (by assumption) | exact cj14 (by assumption) | exact cj15 (by assumption) | exact cj16 (by assumption) | exact cl1 (by assumption) | exact cl2 (by assumption) | exact cl3 (by assumption) | exact cl4 (by assumption) | exact cl5 (by assumption) | exact cl6 (by assumption) | exact cl7 (by assumption) | exact cl8 (by assumption) | exact cl9 (by assumption) | exact cl10 (by assumption) | exact cl11 (by assumption) | exact cl12 (by assumption) | exact cl13 (by assumption) | exact cl14 (by assumption) | exact cl15 (by assumption) | exact cl16 (by assumption) | exact ct0t0x (by assumption) | exact ct0t1x (by assumption) | exact ct0t2x (by assumption) | exact ct1t0x (by assumption) | exact ct1t1x (by assumption) | exact ct1t2x (by assumption) | exact ct2t0x (by assumption) | exact ct2t1x (by assumption) | exact ct2t2x (by assumption) | exact ct3t0x (by assumption) | exact ct3t1x (by assumption) | exact ct3t2x (by assumption) | exact ct4t0x (by assumption) | exact ct4t1x (by assumption) | exact ct4t2x (by assumption)))
  k_with "ne" => ((refine neN ?_; (try dsimp only); first | with_reducible (first | assumption | exact ngt (by assumption) | exact nlt (by assumption) | exact Ne.symm (by assumption)) | with_reducible (first | exact al0 (by assumption) | exact ar0 (by assumption) | exact al1 (by assumption) | exact ar1 (by assumption) | exact al2 (by assumption) | exact ar2 (by assumption) | exact al3 (by assumption) | exact ar3 (by assumption) | exact al4 (by assumption) | exact ar4 (by assumption) | exact al5 (by assumption) | exact ar5 (by assumption) | exact al6 (by assumption) | exact ar6 (by assumption) | exact al7 (by assumption) | exact ar7 (by assumption) | exact al8 (by assumption) | exact ar8 (by assumption) | exact al9 (by assumption) | exact ar9 (by assumption) | exact al10 (by assumption) | exact ar10 (by assumption) | exact al11 (by assumption) | exact ar11 (by assumption) | exact al12 (by assumption) | exact ar12 (by assumption) | exact al13 (by assumption) | exact ar13 (by assumption) | exact al14 (by assumption) | exact ar14 (by assumption) | exact al15 (by assumption) | exact ar15 (by assumption)) | with_reducible (first | exact at0 (by assumption) (by assumption) | exact au0 (by assumption) (by assumption) | exact at1 (by assumption) (by assumption) | exact au1 (by assumption) (by assumption) | exact at2 (by assumption) (by assumption) | exact au2 (by assumption) (by assumption) | exact at3 (by assumption) (by assumption) | exact au3 (by assumption) (by assumption) | exact at4 (by assumption) (by assumption) | exact au4 (by assumption) (by assumption) | exact at5 (by assumption) (by assumption) | exact au5 (by assumption) (by assumption) | exact at6 (by assumption) (by assumption) | exact au6 (by assumption) (by assumption) | exact at7 (by assumption) (by assumption) | exact au7 (by assumption) (by assumption)) | with_reducible (first | exact av0 (by assumption) | exact avs0 (by assumption) | exact av1 (by assumption) | exact avs1 (by assumption) | exact av2 (by assumption) | exact avs2 (by assumption) | exact av3 (by assumption) | exact avs3 (by assumption) | exact av4 (by assumption) | exact avs4 (by assumption) | exact av5 (by assumption) | exact avs5 (by assumption) | exact aw0 (by assumption) | exact aws0 (by assumption) | exact aw1 (by assumption) | exact aws1 (by assumption) | exact aw2 (by assumption) | exact aws2 (by assumption) | exact aw3 (by assumption) | exact aws3 (by assumption) | exact aw4 (by assumption) | exact aws4 (by assumption) | exact aw5 (by assumption) | exact aws5 (by assumption)) | (refine nlt ?_; k_data) | (refine ngt ?_; k_data) | k_data | (refine Ne.symm ?_; k_data) | (refine ngt1 ?_; k_data) | (refine ngt2 ?_; k_data) | (refine nlt1 ?_; k_data) | (refine nlt2 ?_; k_data) | omega))
  k_with "room" => (first | exact room_le2 (by assumption) (by exact rfl) | exact room_lt2 (by assumption) (by exact rfl) | exact room_le1 (by assumption) (by exact rfl) | exact room_lt1 (by assumption) (by exact rfl) | exact room_le3 (by assumption) (by exact rfl) | exact room_lt3 (by assumption) (by exact rfl) | exact room_ltF (by assumption) (by exact rfl) (by exact rfl))
  k_with "units" => (first | exact unit_le2 (by assumption) (by exact rfl) | exact unit_lt2 (by assumption) (by exact rfl) | exact unit_le1 (by assumption) (by exact rfl) | exact unit_lt1 (by assumption) (by exact rfl) | exact unit_le3 (by assumption) (by exact rfl) | exact unit_lt3 (by assumption) (by exact rfl) | exact unit_ltE (by assumption) (by exact rfl) (by exact rfl) | exact unit_ltF (by assumption) (by exact rfl) (by exact rfl))
  k_with "callWith ref nil nil" => (k_here; k_dflt (refine' callWith_K ?k1 ?k2 ?_; (case k1 => k_asm); (case k2 => k_is); k_whole))
  k_with "eval Name" => (k_here; k_dflt (refine' nameX_L ?F ?v ?_ ?a ?b; (case b => exact rfl); (case F => k_asm); (case a => rfl); (case v => rfl); k_whole))
  k_with "eval Name" => (k_here; k_dflt (refine' nameX_K ?F ?X ?T ?e ?_ ?a ?b; (case b => exact rfl); (case F => k_asm); (case X => k_asm); (case T => k_asm); (case a => rfl); (case e => k_is); k_whole))
  k_with "eval Name" => (k_here; k_dflt (refine' nameX_B ?F ?X ?T ?e ?v ?n ?_ ?a ?b; (case b => exact rfl); (case F => k_asm); (case X => k_asm); (case T => k_asm); (case a => rfl); (case e => k_is); (case v => boot_fast); (case n => decide); k_whole))
  k_with "subscriptTail Name Constant ref int" => (k_here; (with_reducible show wpAny _ _ (subscriptTail _ _ (Value.ref _) (Value.int _ _)) _ _ _); k_dflt (first | (refine' item_tupleT ?t ?a ?b ?c ?d ?_; (case t => first | with_reducible assumption | exact News.isTup (by k_asm) (by k_mem)); (case a => decide); (case b => decide); (case c => rfl); (case d => rfl); k_whole) | (refine' topTup_K ?F ?X ?l ?a ?b ?c ?d ?_; (case F => k_asm); (case X => k_asm); (case l => k_is); (case a => decide); (case b => decide); (case c => rfl); (case d => rfl)) | (refine' topList_K ?F ?X ?l ?a ?b ?d ?_; (case F => k_asm); (case X => k_asm); (case l => k_is); (case a => decide); (case b => decide); (case d => rfl); k_whole)))
  k_with "subscriptTail Name Constant ref int" => (k_here; (with_reducible show wpAny _ _ (subscriptTail _ _ (Value.ref _) (Value.int _ _)) _ _ _); (with_unfolding_all refine' item_litK ?k1 ?k2 ?k3 ?k4 ?_ ?k6; (case k1 => is_list); (case k2 => decide); (case k3 => decide); (case k4 => rfl); (case k6 => with_unfolding_all rfl); k_whole))
  k_with "call builtin:list.pop" => (k_here; k_dflt ((with_reducible show wpAny _ _ (call (Value.builtin _) [Value.ref _]) _ _ _); refine' kl_pop ?F ?N ?e ?U ?z ?_; (case F => k_asm); (case N => k_asm); (case U => k_upd); (case e => rfl); (case z => kl_room)); kl_rest)
  k_with "lt" => with_reducible (first | assumption | exact ll0 (by assumption) | exact ll1 (by assumption) | exact ll2 (by assumption) | exact ll3 (by assumption) | exact ll4 (by assumption) | exact ll5 (by assumption) | exact ll6 (by assumption) | exact ll7 (by assumption) | exact ll8 (by assumption) | exact ll9 (by assumption) | exact ll10 (by assumption) | exact ll11 (by assumption) | exact ll12 (by assumption) | exact ll13 (by assumption) | exact la0 (by assumption) | exact la1 (by assumption) | exact la2 (by assumption) | exact la3 (by assumption) | exact la4 (by assumption) | exact la5 (by assumption) | exact la6 (by assumption) | exact la7 (by assumption))
  k_with "keeplt" => skip
  k_with "ite" => with_reducible (first | refine ite_tt ?_ | refine ite_ff ?_)
  k_with "subscriptTail Attribute Name Name ref int" => (walk_at "last subscriptTail")
  k_with "callWith ref cons nil" => (k_here; k_dflt (refine' callWith_K ?k1 ?k2 ?_; (case k1 => k_asm); (case k2 => k_is); k_whole))
  k_with "call builtin:len" => (k_here; k_dflt (refine' len_list (News.isList ?k1 ?k2) ?k3 ?_; (case k1 => k_asm); (case k2 => k_mem); (case k3 => (simp only [Array.size_push, List.size_toArray]; omega))))
  refine wpAny_call ?_
  k_dflt ktr_enter
  k_steps
  have e9 : ∀ r, (((vs.toArray.push (Value.ref r)).size : Int) - 1) = (vs.length : Int) := fun r => by simp
  simp only [e9]
  simp only [← List.push_toArray] at ret
  k_dflt (refine' ret _ _ _ _ _ _ _ _ _ _ _ _ _ _ _ _ _ ?k1 ?k2 ?k3 ?k4 ?k5 ?k6 ?k7)
  case k6 => assumption
  case k7 => assumption
  case k1 => exact ⟨by k_extra "lt", by k_extra "lt", by k_extra "lt", by k_extra "lt"⟩
  case k2 => k_extra "lt"
  case k3 => k_extra "lt"
  case k4 => k_extra "lt"
  case k5 => k_extra "lt"
end
end

section -- R2
open PySem PySem.W PyProof.Rows PySem.Calls
theorem news_more {h₀ h : Heap} {L : Addr} {led : List (Addr × Obj)} {q : Addr × Obj} {l : List (Addr × Obj)} (hq : q ∈ led) (N : News h₀ L h led) (M : News h₀ L h l) : News h₀ L h (q :: l) := fun z hz => by
  rcases List.mem_cons.mp hz with rfl | hz
  · exact N _ hq
  · exact M _ hz
theorem news_tail {h₀ h : Heap} {L : Addr} {q : Addr × Obj} {l : List (Addr × Obj)} (N : News h₀ L h (q :: l)) : News h₀ L h l := fun z hz => N z (.tail _ hz)
section
variable (w : World) (p : Program) (loose : List Str) (mean : ExcName → Option Value) (mg mb : Str → Option Value)
    (dp un : Nat) (gd : Option (List Code)) (cn : Str) (cs : Scope) (a : Addr) (ccd : Value) (cl : List (Str × Addr)) (outer : List Env) (A₀ : Around) (base h₀ : Heap) (L : Addr) (m : Str → Option Value) (led : List (Addr × Obj)) (s : Shared)
    (Q E : Value → Shared → Prop)
set_option maxHeartbeats 0 in
theorem row_F (T0 dT R : Addr) (kT : Tok) (vs : List Value) (nR : Nat) (k : Nat) (t : Tok) (v : Value)
    (B : Below A₀ base outer h₀) (F : Fr h₀ L s.heap m) (X : (KK w.params).In h₀) (N0 : News h₀ L s.heap led) (h1 : (T0, instObj 1250 dT) ∈ led) (h2 : (dT, treeD w kT R) ∈ led) (h3 : (R, listOf vs.toArray nR) ∈ led)
    (T : Top p loose mean mg mb h₀) (hk : cs.kind = .function) (hz : vs.length ≤ 100) (hv : vs[k]? = some v) (hd : dp + 16 ≤ 900) (hu : un + 200 ≤ 1000)
    (ret : ∀ h' tk', Fr h₀ L h' m → News h₀ L h' led → Q v { s with heap := h', toks := tk' }) :
    wpAny (model PySem.Challenge.rw_xm0674_01.prog w) (ktrTop dp un gd cn cs L a ccd cl outer) (call (.ref 1093) [.ref T0, .int (k : Int) t]) Q E s := by
  k_with_none
  k_with "memR" => (first | with_reducible assumption | exact List.Mem.head _ | (refine' List.Mem.tail _ ?_; k_extra "memR"))
  k_with "memD" => (first | exact List.Mem.head _ | assumption | (refine' List.Mem.tail _ ?_; k_extra "memD"))
  k_with "mem" => (first | k_extra "memR" | k_extra "memD")
  k_with "allR" => (first | with_reducible assumption | exact List.forall_mem_nil _ | (refine' List.forall_mem_cons.mpr ⟨?a, ?b⟩; (case a => first | with_reducible assumption | k_ne); (case b => k_extra "allR")))
  k_with "all" => (first | with_reducible assumption | exact List.forall_mem_nil _ | with_reducible (first | exact aa0 (by assumption) | exact aa1 (by assumption) | exact aa2 (by assumption) | exact aa3 (by assumption) | exact aa4 (by assumption) | exact aa5 (by assumption) | exact aa6 (by assumption) | exact aa7 (by assumption) | exact ab0 (by assumption) (by assumption) | exact ab1 (by assumption) (by assumption)) | k_extra "allR" | assumption)
  k_with "cj" => (with_reducible (first | assumption | exact cj0 (by assumption) | exact cj1 (by assumption) | exact cj2 (by assumption) | exact cj3 (by assumption) | exact cj4 (by assumption) | exact cj5 (by assumption) | exact cj6 (by assumption) | exact cj7 (by assumption) | exact cj8 (by assumption) | exact cj9 (by assumption) | exact cj10 (by assumption) | exact cj11 (by assumption) | exact cj12 (by assumption) | exact cj13 (by assumption) | exact cj14 (by assumption) | exact cj15 (by assumption) | exact cj16 (by assumption) | exact cl1 (by assumption) | exact cl2 (by assumption) | exact cl3 (by assumption) | exact cl4 (by assumption) | exact cl5 (by assumption) | exact cl6 (by assumption) | exact cl7 (by assumption) | exact cl8 (by assumption) | exact cl9 (by assumption) | exact cl10 (by assumption) | exact cl11 (by assumption) | exact cl12 (by assumption) | exact cl13 (by assumption) | exact cl14 (by assumption) | exact cl15 (by assumption) | exact cl16 (by assumption) | exact ct0t0x (by assumption) | exact ct0t1x (by assumption) | exact ct0t2x (by assumption) | exact ct1t0x (by assumption) | exact ct1t1x (by assumption) | exact ct1t2x (by assumption) | exact ct2t0x (by assumption) | exact ct2t1x (by assumption) | exact ct2t2x (by assumption) | exact ct3t0x (by assumption) | exact ct3t1x (by assumption) | exact ct3t2x (by assumption) | exact ct4t0x (by assumption) | exact ct4t1x (by assumption) | exact ct4t2x (by assumption)))
  k_with "ne" => ((refine neN ?_; (try dsimp only); first | with_reducible (first | assumption | exact ngt (by assumption) | exact nlt (by assumption) | exact Ne.symm (by assumption)) | with_reducible (first | exact al0 (by assumption) | exact ar0 (by assumption) | exact al1 (by assumption) | exact ar1 (by assumption) | exact al2 (by assumption) | exact ar2 (by assumption) | exact al3 (by assumption) | exact ar3 (by assumption) | exact al4 (by assumption) | exact ar4 (by assumption) | exact al5 (by assumption) | exact ar5 (by assumption) | exact al6 (by assumption) | exact ar6 (by assumption) | exact al7 (by assumption) | exact ar7 (by assumption) | exact al8 (by assumption) | exact ar8 (by assumption) | exact al9 (by assumption) | exact ar9 (by assumption) | exact al10 (by assumption) | exact ar10 (by assumption) | exact al11 (by assumption) | exact ar11 (by assumption) | exact al12 (by assumption) | exact ar12 (by assumption) | exact al13 (by assumption) | exact ar13 (by assumption) | exact al14 (by assumption) | exact ar14 (by assumption) | exact al15 (by assumption) | exact ar15 (by assumption)) | with_reducible (first | exact at0 (by assumption) (by assumption) | exact au0 (by assumption) (by assumption) | exact at1 (by assumption) (by assumption) | exact au1 (by assumption) (by assumption) | exact at2 (by assumption) (by assumption) | exact au2 (by assumption) (by assumption) | exact at3 (by assumption) (by assumption) | exact au3 (by assumption) (by assumption) | exact at4 (by assumption) (by assumption) | exact au4 (by assumption) (by assumption) | exact at5 (by assumption) (by assumption) | exact au5 (by assumption) (by assumption) | exact at6 (by assumption) (by assumption) | exact au6 (by assumption) (by assumption) | exact at7 (by assumption) (by assumption) | exact au7 (by assumption) (by assumption)) | with_reducible (first | exact av0 (by assumption) | exact avs0 (by assumption) | exact av1 (by assumption) | exact avs1 (by assumption) | exact av2 (by assumption) | exact avs2 (by assumption) | exact av3 (by assumption) | exact avs3 (by assumption) | exact av4 (by assumption) | exact avs4 (by assumption) | exact av5 (by assumption) | exact avs5 (by assumption) | exact aw0 (by assumption) | exact aws0 (by assumption) | exact aw1 (by assumption) | exact aws1 (by assumption) | exact aw2 (by assumption) | exact aws2 (by assumption) | exact aw3 (by assumption) | exact aws3 (by assumption) | exact aw4 (by assumption) | exact aws4 (by assumption) | exact aw5 (by assumption) | exact aws5 (by assumption)) | (refine nlt ?_; k_data) | (refine ngt ?_; k_data) | k_data | (refine Ne.symm ?_; k_data) | (refine ngt1 ?_; k_data) | (refine ngt2 ?_; k_data) | (refine nlt1 ?_; k_data) | (refine nlt2 ?_; k_data) | omega))
  k_with "room" => (first | exact room_le2 (by assumption) (by exact rfl) | exact room_lt2 (by assumption) (by exact rfl) | exact room_le1 (by assumption) (by exact rfl) | exact room_lt1 (by assumption) (by exact rfl) | exact room_le3 (by assumption) (by exact rfl) | exact room_lt3 (by assumption) (by exact rfl) | exact room_ltF (by assumption) (by exact rfl) (by exact rfl))
  k_with "units" => (first | exact unit_le2 (by assumption) (by exact rfl) | exact unit_lt2 (by assumption) (by exact rfl) | exact unit_le1 (by assumption) (by exact rfl) | exact unit_lt1 (by assumption) (by exact rfl) | exact unit_le3 (by assumption) (by exact rfl) | exact unit_lt3 (by assumption) (by exact rfl) | exact unit_ltE (by assumption) (by exact rfl) (by exact rfl) | exact unit_ltF (by assumption) (by exact rfl) (by exact rfl))
  k_with "callWith ref nil nil" => (k_here; k_dflt (refine' callWith_K ?k1 ?k2 ?_; (case k1 => k_asm); (case k2 => k_is); k_whole))
  k_with "eval Name" => (k_here; k_dflt (refine' nameX_L ?F ?v ?_ ?a ?b; (case b => exact rfl); (case F => k_asm); (case a => rfl); (case v => rfl); k_whole))
  k_with "eval Name" => (k_here; k_dflt (refine' nameX_K ?F ?X ?T ?e ?_ ?a ?b; (case b => exact rfl); (case F => k_asm); (case X => k_asm); (case T => k_asm); (case a => rfl); (case e => k_is); k_whole))
  k_with "eval Name" => (k_here; k_dflt (refine' nameX_B ?F ?X ?T ?e ?v ?n ?_ ?a ?b; (case b => exact rfl); (case F => k_asm); (case X => k_asm); (case T => k_asm); (case a => rfl); (case e => k_is); (case v => boot_fast); (case n => decide); k_whole))
  k_with "subscriptTail Name Constant ref int" => (k_here; (with_reducible show wpAny _ _ (subscriptTail _ _ (Value.ref _) (Value.int _ _)) _ _ _); k_dflt (first | (refine' item_tupleT ?t ?a ?b ?c ?d ?_; (case t => first | with_reducible assumption | exact News.isTup (by k_asm) (by k_mem)); (case a => decide); (case b => decide); (case c => rfl); (case d => rfl); k_whole) | (refine' topTup_K ?F ?X ?l ?a ?b ?c ?d ?_; (case F => k_asm); (case X => k_asm); (case l => k_is); (case a => decide); (case b => decide); (case c => rfl); (case d => rfl)) | (refine' topList_K ?F ?X ?l ?a ?b ?d ?_; (case F => k_asm); (case X => k_asm); (case l => k_is); (case a => decide); (case b => decide); (case d => rfl); k_whole)))
  k_with "subscriptTail Name Constant ref int" => (k_here; (with_reducible show wpAny _ _ (subscriptTail _ _ (Value.ref _) (Value.int _ _)) _ _ _); (with_unfolding_all refine' item_litK ?k1 ?k2 ?k3 ?k4 ?_ ?k6; (case k1 => is_list); (case k2 => decide); (case k3 => decide); (case k4 => rfl); (case k6 => with_unfolding_all rfl); k_whole))
  k_with "call builtin:list.pop" => (k_here; k_dflt ((with_reducible show wpAny _ _ (call (Value.builtin _) [Value.ref _]) _ _ _); refine' kl_pop ?F ?N ?e ?U ?z ?_; (case F => k_asm); (case N => k_asm); (case U => k_upd); (case e => rfl); (case z => kl_room)); kl_rest)
  k_with "lt" => with_reducible (first | assumption | exact ll0 (by assumption) | exact ll1 (by assumption) | exact ll2 (by assumption) | exact ll3 (by assumption) | exact ll4 (by assumption) | exact ll5 (by assumption) | exact ll6 (by assumption) | exact ll7 (by assumption) | exact ll8 (by assumption) | exact ll9 (by assumption) | exact ll10 (by assumption) | exact ll11 (by assumption) | exact ll12 (by assumption) | exact ll13 (by assumption) | exact la0 (by assumption) | exact la1 (by assumption) | exact la2 (by assumption) | exact la3 (by assumption) | exact la4 (by assumption) | exact la5 (by assumption) | exact la6 (by assumption) | exact la7 (by assumption))
  k_with "keeplt" => skip
  k_with "ite" => with_reducible (first | refine ite_tt ?_ | refine ite_ff ?_)
  k_with "subscriptTail Attribute Name Name ref int" => (walk_at "last subscriptTail")
  k_with "callWith ref cons nil" => (k_here; k_dflt (refine' callWith_K ?k1 ?k2 ?_; (case k1 => k_asm); (case k2 => k_is); k_whole))
  k_with "call builtin:len" => (k_here; k_dflt (refine' len_list (News.isList ?k1 ?k2) ?k3 ?_; (case k1 => k_asm); (case k2 => k_mem); (case k3 => (simp only [Array.size_push, List.size_toArray]; omega))))
  have N := news_more h1 N0 (news_more h2 N0 (news_more h3 N0 N0))
  have hkl : k < vs.length := by
    rcases Nat.lt_or_ge k vs.length with h | h
    · exact h
    · rw [List.getElem?_eq_none h] at hv; cases hv
  have hkl2 : (k : Int) < (vs.toArray.size : Int) := by simp; omega
  clear N0
  k_with "subscriptTail Name Name ref int" => (k_dflt (refine' item_list (x := v) (News.isList (by k_asm) (by k_mem)) (by omega) (by first | omega | (simp; omega)) (by simpa using hv) ?_))
  refine wpAny_call ?_
  k_dflt ktr_enter
  k_steps
  exact ret _ _ (by assumption) (news_tail (news_tail (news_tail (by assumption))))
end
end

section -- R3
open PySem PySem.W PyProof.Rows PySem.Calls
theorem item_push {vs : List Value} {k : Nat} {v y : Value} (hv : vs[k]? = some v) : (vs.toArray.push y)[((k : Nat) : Int).toNat]? = some v := by
  have hkl : k < vs.length := by
    rcases Nat.lt_or_ge k vs.length with h | h
    · exact h
    · rw [List.getElem?_eq_none h] at hv; cases hv
  rw [List.push_toArray]
  simp [List.getElem?_append_left hkl, hv]
theorem item_app {vs : List Value} {k : Nat} {v y : Value} (hv : vs[k]? = some v) : (vs ++ [y]).toArray[((k : Nat) : Int).toNat]? = some v := by
  have h := item_push (y := y) hv
  rwa [List.push_toArray] at h
section
variable (w : World) (p : Program) (loose : List Str) (mean : ExcName → Option Value) (mg mb : Str → Option Value)
    (dp un : Nat) (gd : Option (List Code)) (cn : Str) (cs : Scope) (a : Addr) (ccd : Value) (cl : List (Str × Addr)) (outer : List Env) (A₀ : Around) (base h₀ : Heap) (L : Addr) (m : Str → Option Value) (rest : List (Addr × Obj)) (s : Shared)
    (Q E : Value → Shared → Prop)
set_option maxHeartbeats 0 in
theorem addchild_F (T0 dT R rp ep cp ap np : Addr) (kT : Tok) (vs ks : List Value) (nR nk k : Nat) (tk tp q0 q1 q2 q3 q4 q5 q6 q7 q8 : Tok) (kp : Str) (knp krp klp kvp kpp kd nm ur lc vl : Value)
    (B : Below A₀ base outer h₀) (F : Fr h₀ L s.heap m) (X : (KK w.params).In h₀)
    (N : News h₀ L s.heap ((R, listOf vs.toArray nR) :: (T0, instObj 1250 dT) :: (dT, treeD w kT R) :: (cp, listOf ks.toArray nk) :: (rp, instObj 1061 ep) :: (ep, rowD w (.str kp tp) knp krp klp kvp kpp cp ap np q0 q1 q2 q3 q4 q5 q6 q7 q8) :: rest))
    (h1 : ∀ q ∈ rest, q.1 ≠ R) (h2 : ∀ q ∈ rest, q.1 ≠ cp) (hT : @Ne Nat T0 R) (hdT : @Ne Nat dT R) (hcR : @Ne Nat cp R) (hrR : @Ne Nat rp R) (heR : @Ne Nat ep R) (hTc : @Ne Nat T0 cp) (hdc : @Ne Nat dT cp) (hrc : @Ne Nat rp cp) (hec : @Ne Nat ep cp)
    (hkp : kp = Str.ofString "root" ∨ kp = Str.ofString "element") (hv : vs[k]? = some (.ref rp))
    (T : Top p loose mean mg mb h₀) (hk : cs.kind = .function) (hz : vs.length ≤ 100) (hzk : ks.length ≤ 100) (hd : dp + 20 ≤ 900) (hu : un + 240 ≤ 1000)
    (ret : ∀ (e r c at_ ns : Addr) (k0 k1 k2 k3 k4 k5 k6 k7 k8 t : Tok) h' tk', (@LT.lt Nat _ R e ∧ @LT.lt Nat _ T0 e ∧ @LT.lt Nat _ dT e ∧ @LT.lt Nat _ cp e ∧ @LT.lt Nat _ rp e ∧ @LT.lt Nat _ ep e ∧ AllLt e rest) → @LT.lt Nat _ e r → @LT.lt Nat _ r c → @LT.lt Nat _ c at_ → @LT.lt Nat _ at_ ns → Fr h₀ L h' m →
      News h₀ L h' ((ns, listOf #[] 0) :: (at_, listOf #[] 0) :: (c, listOf #[] 0) :: (r, instObj 1061 e) :: (e, rowD w kd nm ur lc vl (.int (k : Int) tk) c at_ ns k0 k1 k2 k3 k4 k5 k6 k7 k8) :: (R, listOf (vs ++ [Value.ref r]).toArray (nR + 1)) :: (T0, instObj 1250 dT) :: (dT, treeD w kT R) ::
        (cp, listOf (ks ++ [Value.int (vs.length : Int) t]).toArray (nk + 1)) :: (rp, instObj 1061 ep) :: (ep, rowD w (.str kp tp) knp krp klp kvp kpp cp ap np q0 q1 q2 q3 q4 q5 q6 q7 q8) :: rest) → Q (.int (vs.length : Int) t) { s with heap := h', toks := tk' }) :
    wpAny (model PySem.Challenge.rw_xm0674_01.prog w) (ktrTop dp un gd cn cs L a ccd cl outer) (call (.ref 1107) [.ref T0, .int (k : Int) tk, kd, nm, ur, lc, vl]) Q E s := by
  k_with_none
  k_with "memR" => (first | with_reducible assumption | exact List.Mem.head _ | (refine' List.Mem.tail _ ?_; k_extra "memR"))
  k_with "memD" => (first | exact List.Mem.head _ | assumption | (refine' List.Mem.tail _ ?_; k_extra "memD"))
  k_with "mem" => (first | k_extra "memR" | k_extra "memD")
  k_with "allR" => (first | with_reducible assumption | exact List.forall_mem_nil _ | (refine' List.forall_mem_cons.mpr ⟨?a, ?b⟩; (case a => first | with_reducible assumption | k_ne); (case b => k_extra "allR")))
  k_with "all" => (first | with_reducible assumption | exact List.forall_mem_nil _ | with_reducible (first | exact aa0 (by assumption) | exact aa1 (by assumption) | exact aa2 (by assumption) | exact aa3 (by assumption) | exact aa4 (by assumption) | exact aa5 (by assumption) | exact aa6 (by assumption) | exact aa7 (by assumption) | exact ab0 (by assumption) (by assumption) | exact ab1 (by assumption) (by assumption)) | k_extra "allR" | assumption)
  k_with "cj" => (with_reducible (first | assumption | exact cj0 (by assumption) | exact cj1 (by assumption) | exact cj2 (by assumption) | exact cj3 (by assumption) | exact cj4 (by assumption) | exact cj5 (by assumption) | exact cj6 (by assumption) | exact cj7 (by assumption) | exact cj8 (by assumption) | exact cj9 (by assumption) | exact cj10 (by assumption) | exact cj11 (by assumption) | exact cj12 (by assumption) | exact cj13 (by assumption) | exact cj14 (by assumption) | exact cj15 (by assumption) | exact cj16 (by assumption) | exact cl1 (by assumption) | exact cl2 (by assumption) | exact cl3 (by assumption) | exact cl4 (by assumption) | exact cl5 (by assumption) | exact cl6 (by assumption) | exact cl7 (by assumption) | exact cl8 (by assumption) | exact cl9 (by assumption) | exact cl10 (by assumption) | exact cl11 (by assumption) | exact cl12 (by assumption) | exact cl13 (by assumption) | exact cl14 (by assumption) | exact cl15 (by assumption) | exact cl16 (by assumption) | exact ct0t0x (by assumption) | exact ct0t1x (by assumption) | exact ct0t2x (by assumption) | exact ct1t0x (by assumption) | exact ct1t1x (by assumption) | exact ct1t2x (by assumption) | exact ct2t0x (by assumption) | exact ct2t1x (by assumption) | exact ct2t2x (by assumption) | exact ct3t0x (by assumption) | exact ct3t1x (by assumption) | exact ct3t2x (by assumption) | exact ct4t0x (by assumption) | exact ct4t1x (by assumption) | exact ct4t2x (by assumption)))
  k_with "ne" => ((refine neN ?_; (try dsimp only); first | with_reducible (first | assumption | exact ngt (by assumption) | exact nlt (by assumption) | exact Ne.symm (by assumption)) | with_reducible (first | exact al0 (by assumption) | exact ar0 (by assumption) | exact al1 (by assumption) | exact ar1 (by assumption) | exact al2 (by assumption) | exact ar2 (by assumption) | exact al3 (by assumption) | exact ar3 (by assumption) | exact al4 (by assumption) | exact ar4 (by assumption) | exact al5 (by assumption) | exact ar5 (by assumption) | exact al6 (by assumption) | exact ar6 (by assumption) | exact al7 (by assumption) | exact ar7 (by assumption) | exact al8 (by assumption) | exact ar8 (by assumption) | exact al9 (by assumption) | exact ar9 (by assumption) | exact al10 (by assumption) | exact ar10 (by assumption) | exact al11 (by assumption) | exact ar11 (by assumption) | exact al12 (by assumption) | exact ar12 (by assumption) | exact al13 (by assumption) | exact ar13 (by assumption) | exact al14 (by assumption) | exact ar14 (by assumption) | exact al15 (by assumption) | exact ar15 (by assumption)) | with_reducible (first | exact at0 (by assumption) (by assumption) | exact au0 (by assumption) (by assumption) | exact at1 (by assumption) (by assumption) | exact au1 (by assumption) (by assumption) | exact at2 (by assumption) (by assumption) | exact au2 (by assumption) (by assumption) | exact at3 (by assumption) (by assumption) | exact au3 (by assumption) (by assumption) | exact at4 (by assumption) (by assumption) | exact au4 (by assumption) (by assumption) | exact at5 (by assumption) (by assumption) | exact au5 (by assumption) (by assumption) | exact at6 (by assumption) (by assumption) | exact au6 (by assumption) (by assumption) | exact at7 (by assumption) (by assumption) | exact au7 (by assumption) (by assumption)) | with_reducible (first | exact av0 (by assumption) | exact avs0 (by assumption) | exact av1 (by assumption) | exact avs1 (by assumption) | exact av2 (by assumption) | exact avs2 (by assumption) | exact av3 (by assumption) | exact avs3 (by assumption) | exact av4 (by assumption) | exact avs4 (by assumption) | exact av5 (by assumption) | exact avs5 (by assumption) | exact aw0 (by assumption) | exact aws0 (by assumption) | exact aw1 (by assumption) | exact aws1 (by assumption) | exact aw2 (by assumption) | exact aws2 (by assumption) | exact aw3 (by assumption) | exact aws3 (by assumption) | exact aw4 (by assumption) | exact aws4 (by assumption) | exact aw5 (by assumption) | exact aws5 (by assumption)) | (refine nlt ?_; k_data) | (refine ngt ?_; k_data) | k_data | (refine Ne.symm ?_; k_data) | (refine ngt1 ?_; k_data) | (refine ngt2 ?_; k_data) | (refine nlt1 ?_; k_data) | (refine nlt2 ?_; k_data) | omega))
  k_with "room" => (first | exact room_le2 (by assumption) (by exact rfl) | exact room_lt2 (by assumption) (by exact rfl) | exact room_le1 (by assumption) (by exact rfl) | exact room_lt1 (by assumption) (by exact rfl) | exact room_le3 (by assumption) (by exact rfl) | exact room_lt3 (by assumption) (by exact rfl) | exact room_ltF (by assumption) (by exact rfl) (by exact rfl))
  k_with "units" => (first | exact unit_le2 (by assumption) (by exact rfl) | exact unit_lt2 (by assumption) (by exact rfl) | exact unit_le1 (by assumption) (by exact rfl) | exact unit_lt1 (by assumption) (by exact rfl) | exact unit_le3 (by assumption) (by exact rfl) | exact unit_lt3 (by assumption) (by exact rfl) | exact unit_ltE (by assumption) (by exact rfl) (by exact rfl) | exact unit_ltF (by assumption) (by exact rfl) (by exact rfl))
  k_with "callWith ref nil nil" => (k_here; k_dflt (refine' callWith_K ?k1 ?k2 ?_; (case k1 => k_asm); (case k2 => k_is); k_whole))
  k_with "eval Name" => (k_here; k_dflt (refine' nameX_L ?F ?v ?_ ?a ?b; (case b => exact rfl); (case F => k_asm); (case a => rfl); (case v => rfl); k_whole))
  k_with "eval Name" => (k_here; k_dflt (refine' nameX_K ?F ?X ?T ?e ?_ ?a ?b; (case b => exact rfl); (case F => k_asm); (case X => k_asm); (case T => k_asm); (case a => rfl); (case e => k_is); k_whole))
  k_with "eval Name" => (k_here; k_dflt (refine' nameX_B ?F ?X ?T ?e ?v ?n ?_ ?a ?b; (case b => exact rfl); (case F => k_asm); (case X => k_asm); (case T => k_asm); (case a => rfl); (case e => k_is); (case v => boot_fast); (case n => decide); k_whole))
  k_with "subscriptTail Name Constant ref int" => (k_here; (with_reducible show wpAny _ _ (subscriptTail _ _ (Value.ref _) (Value.int _ _)) _ _ _); k_dflt (first | (refine' item_tupleT ?t ?a ?b ?c ?d ?_; (case t => first | with_reducible assumption | exact News.isTup (by k_asm) (by k_mem)); (case a => decide); (case b => decide); (case c => rfl); (case d => rfl); k_whole) | (refine' topTup_K ?F ?X ?l ?a ?b ?c ?d ?_; (case F => k_asm); (case X => k_asm); (case l => k_is); (case a => decide); (case b => decide); (case c => rfl); (case d => rfl)) | (refine' topList_K ?F ?X ?l ?a ?b ?d ?_; (case F => k_asm); (case X => k_asm); (case l => k_is); (case a => decide); (case b => decide); (case d => rfl); k_whole)))
  k_with "subscriptTail Name Constant ref int" => (k_here; (with_reducible show wpAny _ _ (subscriptTail _ _ (Value.ref _) (Value.int _ _)) _ _ _); (with_unfolding_all refine' item_litK ?k1 ?k2 ?k3 ?k4 ?_ ?k6; (case k1 => is_list); (case k2 => decide); (case k3 => decide); (case k4 => rfl); (case k6 => with_unfolding_all rfl); k_whole))
  k_with "call builtin:list.pop" => (k_here; k_dflt ((with_reducible show wpAny _ _ (call (Value.builtin _) [Value.ref _]) _ _ _); refine' kl_pop ?F ?N ?e ?U ?z ?_; (case F => k_asm); (case N => k_asm); (case U => k_upd); (case e => rfl); (case z => kl_room)); kl_rest)
  k_with "lt" => with_reducible (first | assumption | exact ll0 (by assumption) | exact ll1 (by assumption) | exact ll2 (by assumption) | exact ll3 (by assumption) | exact ll4 (by assumption) | exact ll5 (by assumption) | exact ll6 (by assumption) | exact ll7 (by assumption) | exact ll8 (by assumption) | exact ll9 (by assumption) | exact ll10 (by assumption) | exact ll11 (by assumption) | exact ll12 (by assumption) | exact ll13 (by assumption) | exact la0 (by assumption) | exact la1 (by assumption) | exact la2 (by assumption) | exact la3 (by assumption) | exact la4 (by assumption) | exact la5 (by assumption) | exact la6 (by assumption) | exact la7 (by assumption))
  k_with "keeplt" => skip
  k_with "ite" => with_reducible (first | refine ite_tt ?_ | refine ite_ff ?_)
  k_with "subscriptTail Attribute Name Name ref int" => (walk_at "last subscriptTail")
  k_with "callWith ref cons nil" => (k_here; k_dflt (refine' callWith_K ?k1 ?k2 ?_; (case k1 => k_asm); (case k2 => k_is); k_whole))
  k_with "compareOp NotIn str ref" => (k_here; k_dflt (refine' parents_notin ?k1 ?k2 ?k3 ?_; (case k1 => k_asm); (case k2 => k_asm); (case k3 => assumption)))
  k_with "call ref" => (k_here; (with_reducible show wpAny _ _ (call (Value.ref 1093) _) _ _ _); k_dflt (refine' row_F _ _ _ _ _ _ _ _ _ _ _ _ _ _ _ _ _ _ _ _ _ _ _ _ _ _ _ _ _ _ _ _ _ ?k1 ?k2 ?k3 ?k4 ?k5 ?k6 ?k7 ?k8 ?k9 ?k10 ?k11 ?k12 ?k13 ?_; (case k1 => k_asm); (case k2 => k_asm); (case k3 => k_asm); (case k4 => k_asm); (case k5 => k_mem); (case k6 => k_mem); (case k7 => k_mem); (case k8 => k_asm); (case k9 => first | exact rfl | assumption); (case k11 => assumption); (case k10 => omega); (case k12 => ktr_room); (case k13 => ktr_units); intro h' tk' F' N'; (try dsimp only); (try k_fold)))
  k_with "call ref" => (k_here; (with_reducible show wpAny _ _ (call (Value.ref 1086) _) _ _ _); k_dflt (refine' newrow_F _ _ _ _ _ _ _ _ _ _ _ _ _ _ _ _ _ _ _ _ _ _ _ _ _ _ _ _ _ _ _ _ _ _ _ _ ?k1 ?k2 ?k3 ?k4 ?k5 ?k6 ?k7 ?k8 ?k9 ?k10 ?k11 ?k12 ?_; (case k1 => k_asm); (case k2 => k_asm); (case k3 => k_asm); (case k4 => k_asm); (case k5 => (refine' List.forall_mem_cons.mpr ⟨?_, List.forall_mem_cons.mpr ⟨?_, List.forall_mem_cons.mpr ⟨?_, ?_⟩⟩⟩ <;> assumption)); (case k6 => assumption); (case k7 => assumption); (case k8 => k_asm); (case k9 => first | exact rfl | assumption); (case k10 => omega); (case k11 => ktr_room); (case k12 => ktr_units); intro e' r' c' a' n' k0' k1' k2' k3' k4' k5' k6' k7' k8' t' h' tk' l1' l2' l3' l4' l5' F' N'; (simp only [AllLt] at l1'); (try dsimp only); (try k_fold)))
  have hkl : k < vs.length := by
    rcases Nat.lt_or_ge k vs.length with h | h
    · exact h
    · rw [List.getElem?_eq_none h] at hv; cases hv
  k_with "subscriptTail Name Name ref int" => (k_dflt (refine' item_list (x := .ref rp) (News.isList (by k_asm) (by k_mem)) (by omega) (by first | omega | (simp; omega)) (by exact item_app hv) ?_))
  refine wpAny_call ?_
  k_dflt ktr_enter
  k_steps
  (rename News _ _ _ _ => NN)
  simp only [List.push_toArray] at NN
  k_dflt (refine' ret _ _ _ _ _ _ _ _ _ _ _ _ _ _ _ _ _ ?k1 ?k2 ?k3 ?k4 ?k5 ?k6 NN)
  case k6 => assumption
  case k1 => assumption
  case k2 => omega
  case k3 => omega
  case k4 => omega
  case k5 => omega
end
end

section -- R4
open PySem PySem.W PyProof.Rows PySem.Calls
section
variable (w : World) (p : Program) (loose : List Str) (mean : ExcName → Option Value) (mg mb : Str → Option Value)
    (dp un : Nat) (gd : Option (List Code)) (cn : Str) (cs : Scope) (a : Addr) (ccd : Value) (cl : List (Str × Addr)) (outer : List Env) (A₀ : Around) (base h₀ : Heap) (L : Addr) (m : Str → Option Value) (rest : List (Addr × Obj)) (s : Shared)
    (Q E : Value → Shared → Prop)
set_option maxHeartbeats 0 in
theorem setattr_F (T0 dT R rp ep cp ap np : Addr) (kT : Tok) (vs : List Value) (nR na k : Nat) (tk tp q0 q1 q2 q3 q4 q5 q6 q7 q8 : Tok) (knp krp klp kvp kpp vl : Value) (nm ur lc : Str) (tn tu tl : Tok)
    (B : Below A₀ base outer h₀) (F : Fr h₀ L s.heap m) (X : (KK w.params).In h₀)
    (N : News h₀ L s.heap ((R, listOf vs.toArray nR) :: (T0, instObj 1250 dT) :: (dT, treeD w kT R) :: (ap, listOf #[] na) :: (rp, instObj 1061 ep) :: (ep, rowD w (.str (Str.ofString "element") tp) knp krp klp kvp kpp cp ap np q0 q1 q2 q3 q4 q5 q6 q7 q8) :: rest))
    (h1 : ∀ q ∈ rest, q.1 ≠ R) (h2 : ∀ q ∈ rest, q.1 ≠ ap) (hT : @Ne Nat T0 R) (hdT : @Ne Nat dT R) (hcR : @Ne Nat ap R) (hrR : @Ne Nat rp R) (heR : @Ne Nat ep R) (hTc : @Ne Nat T0 ap) (hdc : @Ne Nat dT ap) (hrc : @Ne Nat rp ap) (hec : @Ne Nat ep ap)
    (hv : vs[k]? = some (.ref rp))
    (T : Top p loose mean mg mb h₀) (hk : cs.kind = .function) (hz : vs.length ≤ 100) (hd : dp + 24 ≤ 900) (hu : un + 300 ≤ 1000) 
    (ret : ∀ (e r c at_ ns : Addr) (k0 k1 k2 k3 k4 k5 k6 k7 k8 t t2 : Tok) h' tk', (@LT.lt Nat _ R e ∧ @LT.lt Nat _ T0 e ∧ @LT.lt Nat _ dT e ∧ @LT.lt Nat _ ap e ∧ @LT.lt Nat _ rp e ∧ @LT.lt Nat _ ep e ∧ AllLt e rest) → @LT.lt Nat _ e r → @LT.lt Nat _ r c → @LT.lt Nat _ c at_ → @LT.lt Nat _ at_ ns → Fr h₀ L h' m →
      News h₀ L h' ((ns, listOf #[] 0) :: (at_, listOf #[] 0) :: (c, listOf #[] 0) :: (r, instObj 1061 e) :: (e, rowD w (.str (Str.ofString "attribute") t2) (.str nm tn) (.str ur tu) (.str lc tl) vl (.int (k : Int) tk) c at_ ns k0 k1 k2 k3 k4 k5 k6 k7 k8) :: (R, listOf (vs ++ [Value.ref r]).toArray (nR + 1)) :: (T0, instObj 1250 dT) :: (dT, treeD w kT R) ::
        (ap, listOf [Value.int (vs.length : Int) t].toArray (na + 1)) :: (rp, instObj 1061 ep) :: (ep, rowD w (.str (Str.ofString "element") tp) knp krp klp kvp kpp cp ap np q0 q1 q2 q3 q4 q5 q6 q7 q8) :: rest) → Q (.int (vs.length : Int) t) { s with heap := h', toks := tk' }) :
    wpAny (model PySem.Challenge.rw_xm0674_01.prog w) (ktrTop dp un gd cn cs L a ccd cl outer) (call (.ref 1149) [.ref T0, .int (k : Int) tk, .str nm tn, .str ur tu, .str lc tl, vl]) Q E s := by
  k_with_none
  k_with "memR" => (first | with_reducible assumption | exact List.Mem.head _ | (refine' List.Mem.tail _ ?_; k_extra "memR"))
  k_with "memD" => (first | exact List.Mem.head _ | assumption | (refine' List.Mem.tail _ ?_; k_extra "memD"))
  k_with "mem" => (first | k_extra "memR" | k_extra "memD")
  k_with "allR" => (first | with_reducible assumption | exact List.forall_mem_nil _ | (refine' List.forall_mem_cons.mpr ⟨?a, ?b⟩; (case a => first | with_reducible assumption | k_ne); (case b => k_extra "allR")))
  k_with "all" => (first | with_reducible assumption | exact List.forall_mem_nil _ | with_reducible (first | exact aa0 (by assumption) | exact aa1 (by assumption) | exact aa2 (by assumption) | exact aa3 (by assumption) | exact aa4 (by assumption) | exact aa5 (by assumption) | exact aa6 (by assumption) | exact aa7 (by assumption) | exact ab0 (by assumption) (by assumption) | exact ab1 (by assumption) (by assumption)) | k_extra "allR" | assumption)
  k_with "cj" => (with_reducible (first | assumption | exact cj0 (by assumption) | exact cj1 (by assumption) | exact cj2 (by assumption) | exact cj3 (by assumption) | exact cj4 (by assumption) | exact cj5 (by assumption) | exact cj6 (by assumption) | exact cj7 (by assumption) | exact cj8 (by assumption) | exact cj9 (by assumption) | exact cj10 (by assumption) | exact cj11 (by assumption) | exact cj12 (by assumption) | exact cj13 (by assumption) | exact cj14 (by assumption) | exact cj15 (by assumption) | exact cj16 (by assumption) | exact cl1 (by assumption) | exact cl2 (by assumption) | exact cl3 (by assumption) | exact cl4 (by assumption) | exact cl5 (by assumption) | exact cl6 (by assumption) | exact cl7 (by assumption) | exact cl8 (by assumption) | exact cl9 (by assumption) | exact cl10 (by assumption) | exact cl11 (by assumption) | exact cl12 (by assumption) | exact cl13 (by assumption) | exact cl14 (by assumption) | exact cl15 (by assumption) | exact cl16 (by assumption) | exact ct0t0x (by assumption) | exact ct0t1x (by assumption) | exact ct0t2x (by assumption) | exact ct1t0x (by assumption) | exact ct1t1x (by assumption) | exact ct1t2x (by assumption) | exact ct2t0x (by assumption) | exact ct2t1x (by assumption) | exact ct2t2x (by assumption) | exact ct3t0x (by assumption) | exact ct3t1x (by assumption) | exact ct3t2x (by assumption) | exact ct4t0x (by assumption) | exact ct4t1x (by assumption) | exact ct4t2x (by assumption)))
  k_with "ne" => ((refine neN ?_; (try dsimp only); first | with_reducible (first | assumption | exact ngt (by assumption) | exact nlt (by assumption) | exact Ne.symm (by assumption)) | with_reducible (first | exact al0 (by assumption) | exact ar0 (by assumption) | exact al1 (by assumption) | exact ar1 (by assumption) | exact al2 (by assumption) | exact ar2 (by assumption) | exact al3 (by assumption) | exact ar3 (by assumption) | exact al4 (by assumption) | exact ar4 (by assumption) | exact al5 (by assumption) | exact ar5 (by assumption) | exact al6 (by assumption) | exact ar6 (by assumption) | exact al7 (by assumption) | exact ar7 (by assumption) | exact al8 (by assumption) | exact ar8 (by assumption) | exact al9 (by assumption) | exact ar9 (by assumption) | exact al10 (by assumption) | exact ar10 (by assumption) | exact al11 (by assumption) | exact ar11 (by assumption) | exact al12 (by assumption) | exact ar12 (by assumption) | exact al13 (by assumption) | exact ar13 (by assumption) | exact al14 (by assumption) | exact ar14 (by assumption) | exact al15 (by assumption) | exact ar15 (by assumption)) | with_reducible (first | exact at0 (by assumption) (by assumption) | exact au0 (by assumption) (by assumption) | exact at1 (by assumption) (by assumption) | exact au1 (by assumption) (by assumption) | exact at2 (by assumption) (by assumption) | exact au2 (by assumption) (by assumption) | exact at3 (by assumption) (by assumption) | exact au3 (by assumption) (by assumption) | exact at4 (by assumption) (by assumption) | exact au4 (by assumption) (by assumption) | exact at5 (by assumption) (by assumption) | exact au5 (by assumption) (by assumption) | exact at6 (by assumption) (by assumption) | exact au6 (by assumption) (by assumption) | exact at7 (by assumption) (by assumption) | exact au7 (by assumption) (by assumption)) | with_reducible (first | exact av0 (by assumption) | exact avs0 (by assumption) | exact av1 (by assumption) | exact avs1 (by assumption) | exact av2 (by assumption) | exact avs2 (by assumption) | exact av3 (by assumption) | exact avs3 (by assumption) | exact av4 (by assumption) | exact avs4 (by assumption) | exact av5 (by assumption) | exact avs5 (by assumption) | exact aw0 (by assumption) | exact aws0 (by assumption) | exact aw1 (by assumption) | exact aws1 (by assumption) | exact aw2 (by assumption) | exact aws2 (by assumption) | exact aw3 (by assumption) | exact aws3 (by assumption) | exact aw4 (by assumption) | exact aws4 (by assumption) | exact aw5 (by assumption) | exact aws5 (by assumption)) | (refine nlt ?_; k_data) | (refine ngt ?_; k_data) | k_data | (refine Ne.symm ?_; k_data) | (refine ngt1 ?_; k_data) | (refine ngt2 ?_; k_data) | (refine nlt1 ?_; k_data) | (refine nlt2 ?_; k_data) | omega))
  k_with "room" => (first | exact room_le2 (by assumption) (by exact rfl) | exact room_lt2 (by assumption) (by exact rfl) | exact room_le1 (by assumption) (by exact rfl) | exact room_lt1 (by assumption) (by exact rfl) | exact room_le3 (by assumption) (by exact rfl) | exact room_lt3 (by assumption) (by exact rfl) | exact room_ltF (by assumption) (by exact rfl) (by exact rfl))
  k_with "units" => (first | exact unit_le2 (by assumption) (by exact rfl) | exact unit_lt2 (by assumption) (by exact rfl) | exact unit_le1 (by assumption) (by exact rfl) | exact unit_lt1 (by assumption) (by exact rfl) | exact unit_le3 (by assumption) (by exact rfl) | exact unit_lt3 (by assumption) (by exact rfl) | exact unit_ltE (by assumption) (by exact rfl) (by exact rfl) | exact unit_ltF (by assumption) (by exact rfl) (by exact rfl))
  k_with "callWith ref nil nil" => (k_here; k_dflt (refine' callWith_K ?k1 ?k2 ?_; (case k1 => k_asm); (case k2 => k_is); k_whole))
  k_with "eval Name" => (k_here; k_dflt (refine' nameX_L ?F ?v ?_ ?a ?b; (case b => exact rfl); (case F => k_asm); (case a => rfl); (case v => rfl); k_whole))
  k_with "eval Name" => (k_here; k_dflt (refine' nameX_K ?F ?X ?T ?e ?_ ?a ?b; (case b => exact rfl); (case F => k_asm); (case X => k_asm); (case T => k_asm); (case a => rfl); (case e => k_is); k_whole))
  k_with "eval Name" => (k_here; k_dflt (refine' nameX_B ?F ?X ?T ?e ?v ?n ?_ ?a ?b; (case b => exact rfl); (case F => k_asm); (case X => k_asm); (case T => k_asm); (case a => rfl); (case e => k_is); (case v => boot_fast); (case n => decide); k_whole))
  k_with "subscriptTail Name Constant ref int" => (k_here; (with_reducible show wpAny _ _ (subscriptTail _ _ (Value.ref _) (Value.int _ _)) _ _ _); k_dflt (first | (refine' item_tupleT ?t ?a ?b ?c ?d ?_; (case t => first | with_reducible assumption | exact News.isTup (by k_asm) (by k_mem)); (case a => decide); (case b => decide); (case c => rfl); (case d => rfl); k_whole) | (refine' topTup_K ?F ?X ?l ?a ?b ?c ?d ?_; (case F => k_asm); (case X => k_asm); (case l => k_is); (case a => decide); (case b => decide); (case c => rfl); (case d => rfl)) | (refine' topList_K ?F ?X ?l ?a ?b ?d ?_; (case F => k_asm); (case X => k_asm); (case l => k_is); (case a => decide); (case b => decide); (case d => rfl); k_whole)))
  k_with "subscriptTail Name Constant ref int" => (k_here; (with_reducible show wpAny _ _ (subscriptTail _ _ (Value.ref _) (Value.int _ _)) _ _ _); (with_unfolding_all refine' item_litK ?k1 ?k2 ?k3 ?k4 ?_ ?k6; (case k1 => is_list); (case k2 => decide); (case k3 => decide); (case k4 => rfl); (case k6 => with_unfolding_all rfl); k_whole))
  k_with "call builtin:list.pop" => (k_here; k_dflt ((with_reducible show wpAny _ _ (call (Value.builtin _) [Value.ref _]) _ _ _); refine' kl_pop ?F ?N ?e ?U ?z ?_; (case F => k_asm); (case N => k_asm); (case U => k_upd); (case e => rfl); (case z => kl_room)); kl_rest)
  k_with "lt" => with_reducible (first | assumption | exact ll0 (by assumption) | exact ll1 (by assumption) | exact ll2 (by assumption) | exact ll3 (by assumption) | exact ll4 (by assumption) | exact ll5 (by assumption) | exact ll6 (by assumption) | exact ll7 (by assumption) | exact ll8 (by assumption) | exact ll9 (by assumption) | exact ll10 (by assumption) | exact ll11 (by assumption) | exact ll12 (by assumption) | exact ll13 (by assumption) | exact la0 (by assumption) | exact la1 (by assumption) | exact la2 (by assumption) | exact la3 (by assumption) | exact la4 (by assumption) | exact la5 (by assumption) | exact la6 (by assumption) | exact la7 (by assumption))
  k_with "keeplt" => skip
  k_with "ite" => with_reducible (first | refine ite_tt ?_ | refine ite_ff ?_)
  k_with "subscriptTail Attribute Name Name ref int" => (walk_at "last subscriptTail")
  k_with "callWith ref cons nil" => (k_here; k_dflt (refine' callWith_K ?k1 ?k2 ?_; (case k1 => k_asm); (case k2 => k_is); k_whole))
  k_with "compareOp NotIn str ref" => (k_here; k_dflt (refine' parents_notin ?k1 ?k2 ?k3 ?_; (case k1 => k_asm); (case k2 => k_asm); (case k3 => assumption)))
  k_with "call ref" => (k_here; (with_reducible show wpAny _ _ (call (Value.ref 1093) _) _ _ _); k_dflt (refine' row_F _ _ _ _ _ _ _ _ _ _ _ _ _ _ _ _ _ _ _ _ _ _ _ _ _ _ _ _ _ _ _ _ _ ?k1 ?k2 ?k3 ?k4 ?k5 ?k6 ?k7 ?k8 ?k9 ?k10 ?k11 ?k12 ?k13 ?_; (case k1 => k_asm); (case k2 => k_asm); (case k3 => k_asm); (case k4 => k_asm); (case k5 => k_mem); (case k6 => k_mem); (case k7 => k_mem); (case k8 => k_asm); (case k9 => first | exact rfl | assumption); (case k11 => assumption); (case k10 => omega); (case k12 => ktr_room); (case k13 => ktr_units); intro h' tk' F' N'; (try dsimp only); (try k_fold)))
  k_with "call ref" => (k_here; (with_reducible show wpAny _ _ (call (Value.ref 1086) _) _ _ _); k_dflt (refine' newrow_F _ _ _ _ _ _ _ _ _ _ _ _ _ _ _ _ _ _ _ _ _ _ _ _ _ _ _ _ _ _ _ _ _ _ _ _ ?k1 ?k2 ?k3 ?k4 ?k5 ?k6 ?k7 ?k8 ?k9 ?k10 ?k11 ?k12 ?_; (case k1 => k_asm); (case k2 => k_asm); (case k3 => k_asm); (case k4 => k_asm); (case k5 => (refine' List.forall_mem_cons.mpr ⟨?_, List.forall_mem_cons.mpr ⟨?_, List.forall_mem_cons.mpr ⟨?_, ?_⟩⟩⟩ <;> assumption)); (case k6 => assumption); (case k7 => assumption); (case k8 => k_asm); (case k9 => first | exact rfl | assumption); (case k10 => omega); (case k11 => ktr_room); (case k12 => ktr_units); intro e' r' c' a' n' k0' k1' k2' k3' k4' k5' k6' k7' k8' t' h' tk' l1' l2' l3' l4' l5' F' N'; (simp only [AllLt] at l1'); (try dsimp only); (try k_fold)))
  k_with "pyIter ref" => (k_here; (rename Fr _ _ _ _ => lF'); (with_unfolding_all refine iter_listUnr (lo := listOf #[] _) (vs := []) (by rfl) lF' (by k_asm) (by k_dflt k_mem) (by rfl) (by rfl) ?_); clear lF'; intro i' l1; refine ListRest.zero ?_; intro h' tk' F' N')
  refine wpAny_call ?_
  k_dflt ktr_enter
  k_steps
  k_dflt (refine' ret _ _ _ _ _ _ _ _ _ _ _ _ _ _ _ _ _ _ ?k1 ?k2 ?k3 ?k4 ?k5 ?k6 ?k7)
  case k6 => assumption
  case k7 => assumption
  case k1 => assumption
  case k2 => omega
  case k3 => omega
  case k4 => omega
  case k5 => omega
end
end

section -- R5
open PySem PySem.W PyProof.Rows PySem.Calls
/-- what is read of a row -/
structure RowS where
  kd : Str
  vl : Str
  kids : List Nat
  ats : List Nat
inductive IntsV : List Value → List Nat → Prop where
  | nil : IntsV [] []
  | cons {vs : List Value} {ns : List Nat} {n : Nat} {t : Tok} : IntsV vs ns → IntsV (.int (n : Int) t :: vs) (n :: ns)
theorem IntsV.app {vs : List Value} {ns : List Nat} (h : IntsV vs ns) (n : Nat) (t : Tok) : IntsV (vs ++ [.int (n : Int) t]) (ns ++ [n]) := by
  induction h with
  | nil => exact .cons .nil
  | cons _ ih => exact .cons ih
theorem IntsV.len {vs : List Value} {ns : List Nat} (h : IntsV vs ns) : vs.length = ns.length := by
  induction h with
  | nil => rfl
  | cons _ ih => simp [ih]
theorem IntsV.nil_of {vs : List Value} (h : IntsV vs []) : vs = [] := by cases h; rfl
noncomputable abbrev Trip := Addr × Addr × Addr
inductive RowAt (w : World) (led : List (Addr × Obj)) (x : Trip) (r : RowS) : Prop where
  | mk (e ns : Addr) (k0 k1 k2 k3 k4 k5 k6 k7 k8 tk tv : Tok) (nm ur lc pr : Value) (ksV asV : List Value) (nk na : Nat) (h1 : (x.1, instObj 1061 e) ∈ led) (h2 : (e, rowD w (.str r.kd tk) nm ur lc (.str r.vl tv) pr x.2.1 x.2.2 ns k0 k1 k2 k3 k4 k5 k6 k7 k8) ∈ led)
    (h3 : (x.2.1, listOf (List.toArray ksV) nk) ∈ led) (h4 : IntsV ksV r.kids) (h5 : (x.2.2, listOf (List.toArray asV) na) ∈ led) (h6 : IntsV asV r.ats) : RowAt w led x r
theorem RowAt.mono {w : World} {led led' : List (Addr × Obj)} {x : Trip} {r : RowS} (h : RowAt w led x r) (s : ∀ q ∈ led, q ∈ led') : RowAt w led' x r := by
  obtain ⟨e, ns, k0, k1, k2, k3, k4, k5, k6, k7, k8, tk, tv, nm, ur, lc, pr, ksV, asV, nk, na, h1, h2, h3, h4, h5, h6⟩ := h
  exact ⟨e, ns, k0, k1, k2, k3, k4, k5, k6, k7, k8, tk, tv, nm, ur, lc, pr, ksV, asV, nk, na, s _ h1, s _ h2, s _ h3, h4, s _ h5, h6⟩
noncomputable abbrev refsOf (xs : List Trip) : List Value := xs.map fun x => Value.ref x.1
structure TreeG (w : World) (led : List (Addr × Obj)) (T0 R : Addr) (xs : List Trip) (rows : List RowS) (keep : List (Addr × Obj)) : Prop where
  top : ∃ dT kT nR, (T0, instObj 1250 dT) ∈ led ∧ (dT, treeD w kT R) ∈ led ∧ (R, listOf (refsOf xs).toArray nR) ∈ led
  len : xs.length = rows.length
  row : ∀ (i : Nat) x r, xs[i]? = some x → rows[i]? = some r → RowAt w led x r
  apR : ∀ (i : Nat) x, xs[i]? = some x → x.2.1 ≠ R ∧ x.2.2 ≠ R ∧ x.2.1 ≠ x.2.2
  apX : ∀ (i j : Nat) x y, xs[i]? = some x → xs[j]? = some y → i ≠ j → x.2.1 ≠ y.2.1 ∧ x.2.1 ≠ y.2.2 ∧ x.2.2 ≠ y.2.1 ∧ x.2.2 ≠ y.2.2
  kept : ∀ q ∈ keep, q ∈ led ∧ q.1 ≠ R ∧ ∀ (i : Nat) x, xs[i]? = some x → q.1 ≠ x.2.1 ∧ q.1 ≠ x.2.2
section
variable {w : World} {led led' : List (Addr × Obj)} {T0 R : Addr} {xs : List Trip} {rows : List RowS} {keep : List (Addr × Obj)} {h₀ h : Heap} {L : Addr}
theorem TreeG.mono (G : TreeG w led T0 R xs rows keep) (s : ∀ q ∈ led, q ∈ led') : TreeG w led' T0 R xs rows keep := by
  obtain ⟨dT, kT, nR, a1, a2, a3⟩ := G.top
  exact ⟨⟨dT, kT, nR, s _ a1, s _ a2, s _ a3⟩, G.len, fun i x r e1 e2 => (G.row i x r e1 e2).mono s, G.apR, G.apX, fun q hq => ⟨s _ (G.kept q hq).1, (G.kept q hq).2⟩⟩
theorem news_fun (N : News h₀ L h led) {a b : Addr} {o o' : Obj} (h1 : (a, o) ∈ led) (h2 : (b, o') ∈ led) (hc : o.cls ≠ o'.cls) : @Ne Nat a b := by
  intro e
  have e1 := (N _ h1).1
  have e2 := (N _ h2).1
  dsimp only at e1 e2
  have e' : a = b := e
  rw [e', e2] at e1
  exact hc (by rw [Option.some.inj e1])
theorem inst_list {C : Addr} {dx : Addr} {xs : Array Value} {n : Nat} : (instObj C dx).cls ≠ (listOf xs n).cls := by intro h; cases h
theorem dict_list {es : List DictEntry} {k : Nat} {xs : Array Value} {n : Nat} : (dictOf es k).cls ≠ (listOf xs n).cls := by intro h; revert h; show ¬ (Value.type "dict" = Value.type "list"); decide
theorem get_app {α : Type} {l : List α} {y : α} {i : Nat} {x : α} (h : (l ++ [y])[i]? = some x) : (i < l.length ∧ l[i]? = some x) ∨ (i = l.length ∧ x = y) := by
  rcases Nat.lt_trichotomy i l.length with q | q | q
  · rw [List.getElem?_append_left q] at h; exact .inl ⟨q, h⟩
  · subst q; rw [List.getElem?_append_right (Nat.le_refl _)] at h; simp at h; exact .inr ⟨rfl, h.symm⟩
  · rw [List.getElem?_append_right (Nat.le_of_lt q)] at h
    have : (i - l.length) ≠ 0 := by omega
    cases e : i - l.length with
    | zero => exact absurd e this
    | succ n => rw [e] at h; simp at h
theorem RowAt.cIn {x : Trip} {r : RowS} (h : RowAt w led x r) : (∃ o, (x.2.1, o) ∈ led) ∧ ∃ o, (x.2.2, o) ∈ led := by
  obtain ⟨e, ns, k0, k1, k2, k3, k4, k5, k6, k7, k8, tk, tv, nm, ur, lc, pr, ksV, asV, nk, na, h1, h2, h3, h4, h5, h6⟩ := h
  exact ⟨⟨_, h3⟩, ⟨_, h5⟩⟩
theorem TreeG.step (G : TreeG w led T0 R xs rows keep) (N : News h₀ L h led) {k : Nat} {xk : Trip} {rk rk' rn : RowS} {z r c at_ nR' : Nat} (hx : xs[k]? = some xk) (hrk : rows[k]? = some rk) (hz : z = xk.2.1 ∨ z = xk.2.2) (hzl : ∃ l n, (z, listOf l n) ∈ led)
    (hk' : RowAt w led' xk rk') (hn : RowAt w led' (r, c, at_) rn) (hR : (R, listOf (refsOf xs ++ [Value.ref r]).toArray nR') ∈ led') (hold : ∀ q ∈ led, @Ne Nat q.1 R → @Ne Nat q.1 z → q ∈ led')
    (fc : ∀ q ∈ led, @LT.lt Nat _ q.1 c) (hca : c < at_) : TreeG w led' T0 R (xs ++ [(r, c, at_)]) (rows.set k rk' ++ [rn]) keep := by
  obtain ⟨dT, kT, nR, a1, a2, a3⟩ := G.top
  obtain ⟨zl, zn, hzl⟩ := hzl
  have ltc : ∀ {a : Addr} {o : Obj}, (a, o) ∈ led → @LT.lt Nat _ a c := fun hm => fc _ hm
  have rowOf : ∀ (i : Nat) x, xs[i]? = some x → ∃ ro, rows[i]? = some ro ∧ RowAt w led x ro := fun i x e => by
    have hi : i < rows.length := by
      rw [← G.len]
      rcases Nat.lt_or_ge i xs.length with q | q
      · exact q
      · rw [List.getElem?_eq_none q] at e; cases e
    exact ⟨rows[i], List.getElem?_eq_getElem hi, G.row i x _ e (List.getElem?_eq_getElem hi)⟩
  have clt : ∀ (i : Nat) x, xs[i]? = some x → @LT.lt Nat _ x.2.1 c ∧ @LT.lt Nat _ x.2.2 c := fun i x e => by
    obtain ⟨ro, _, hro⟩ := rowOf i x e
    obtain ⟨⟨o, q1⟩, ⟨o', q2⟩⟩ := hro.cIn
    exact ⟨ltc q1, ltc q2⟩
  refine ⟨⟨dT, kT, nR', hold _ a1 (news_fun N a1 a3 inst_list) (news_fun N a1 hzl inst_list), hold _ a2 (news_fun N a2 a3 dict_list) (news_fun N a2 hzl dict_list), ?_⟩, ?_, ?_, ?_, ?_, ?_⟩
  · show (R, listOf ((xs ++ [(r, c, at_)]).map fun x => Value.ref x.1).toArray nR') ∈ led'
    rw [List.map_append]; exact hR
  · simp [G.len]
  · intro i x ro e1 e2
    rcases get_app e1 with ⟨q, e1⟩ | ⟨q, rfl⟩
    · have e2' : (rows.set k rk')[i]? = some ro := by
        rwa [List.getElem?_append_left (by rw [List.length_set, ← G.len]; exact q)] at e2
      by_cases hik : k = i
      · subst hik
        rw [hx] at e1
        obtain rfl := Option.some.inj e1
        rw [List.getElem?_set_self (by rw [← G.len]; exact q)] at e2'
        obtain rfl := Option.some.inj e2'
        exact hk'
      · rw [List.getElem?_set_ne hik] at e2'
        obtain ⟨e, ns, k0, k1, k2, k3, k4, k5, k6, k7, k8, tk, tv, nm, ur, lc, pr, ksV, asV, nk, na, h1, h2, h3, h4, h5, h6⟩ := G.row i x ro e1 e2'
        have ap := G.apX i k x xk e1 hx (Ne.symm hik)
        have aR := G.apR i x e1
        refine ⟨e, ns, k0, k1, k2, k3, k4, k5, k6, k7, k8, tk, tv, nm, ur, lc, pr, ksV, asV, nk, na, hold _ h1 (news_fun N h1 a3 inst_list) (news_fun N h1 hzl inst_list), hold _ h2 (news_fun N h2 a3 dict_list) (news_fun N h2 hzl dict_list), hold _ h3 aR.1 ?_, h4, hold _ h5 aR.2.1 ?_, h6⟩
        · rcases hz with rfl | rfl
          · exact ap.1
          · exact ap.2.1
        · rcases hz with rfl | rfl
          · exact ap.2.2.1
          · exact ap.2.2.2
    · have e2' : (rows.set k rk' ++ [rn])[i]? = some rn := by
        rw [List.getElem?_append_right (by rw [List.length_set, ← G.len, q]; exact Nat.le_refl _)]
        simp [G.len, q]
      rw [e2'] at e2
      obtain rfl := Option.some.inj e2
      exact hn
  · intro i x e1
    rcases get_app e1 with ⟨q, e1⟩ | ⟨q, rfl⟩
    · exact G.apR i x e1
    · have := ltc a3
      exact ⟨Nat.ne_of_gt this, Nat.ne_of_gt (Nat.lt_trans this hca), Nat.ne_of_lt hca⟩
  · intro i j x y e1 e2 hij
    rcases get_app e1 with ⟨q1, e1⟩ | ⟨q1, rfl⟩
    · rcases get_app e2 with ⟨q2, e2⟩ | ⟨q2, rfl⟩
      · exact G.apX i j x y e1 e2 hij
      · have := clt i x e1
        exact ⟨Nat.ne_of_lt this.1, Nat.ne_of_lt (Nat.lt_trans this.1 hca), Nat.ne_of_lt this.2, Nat.ne_of_lt (Nat.lt_trans this.2 hca)⟩
    · rcases get_app e2 with ⟨q2, e2⟩ | ⟨q2, rfl⟩
      · have := clt j y e2
        exact ⟨Nat.ne_of_gt this.1, Nat.ne_of_gt this.2, Nat.ne_of_gt (Nat.lt_trans this.1 hca), Nat.ne_of_gt (Nat.lt_trans this.2 hca)⟩
      · exact absurd (q1.trans q2.symm) hij
  · intro q hq
    obtain ⟨m1, m2, m3⟩ := G.kept q hq
    refine ⟨hold _ m1 m2 ?_, m2, fun i x e => ?_⟩
    · rcases hz with rfl | rfl
      · exact (m3 k xk hx).1
      · exact (m3 k xk hx).2
    · rcases get_app e with ⟨_, e⟩ | ⟨_, rfl⟩
      · exact m3 i x e
      · have : @LT.lt Nat _ q.1 c := fc _ m1
        exact ⟨Nat.ne_of_lt this, Nat.ne_of_lt (Nat.lt_trans this hca)⟩
end
end

section -- R6
open PySem PySem.W PyProof.Rows PySem.Calls
theorem allLt_mem {d : Addr} : ∀ {l : List (Addr × Obj)}, AllLt d l → ∀ q ∈ l, @LT.lt Nat _ q.1 d
  | [], _, _, h => nomatch h
  | _ :: _, x, q, h => by
    rcases List.mem_cons.mp h with rfl | h
    · exact x.1
    · exact allLt_mem x.2 q h
/-- the ledger less two addresses -/
noncomputable def off2 (led : List (Addr × Obj)) (a b : Addr) : List (Addr × Obj) := led.filter fun q => decide (¬ @Eq Nat q.1 a) && decide (¬ @Eq Nat q.1 b)
theorem mem_off2 {led : List (Addr × Obj)} {a b : Addr} {q : Addr × Obj} : q ∈ off2 led a b ↔ q ∈ led ∧ @Ne Nat q.1 a ∧ @Ne Nat q.1 b := by
  unfold off2
  rw [List.mem_filter]
  simp
section
variable {w : World} {p : Program} {loose : List Str} {mean : ExcName → Option Value} {mg mb : Str → Option Value}
    {dp un : Nat} {gd : Option (List Code)} {cn : Str} {cs : Scope} {a : Addr} {ccd : Value} {cl : List (Str × Addr)} {outer : List Env} {A₀ : Around} {base h₀ : Heap} {L : Addr} {m : Str → Option Value} {s : Shared}
    {Q E : Value → Shared → Prop}
theorem lt_cover {led : List (Addr × Obj)} {R z e : Addr} {oR oz : Obj} (h1 : @LT.lt Nat _ R e) (h2 : @LT.lt Nat _ z e) (h3 : AllLt e (off2 led R z)) : ∀ q ∈ led, @LT.lt Nat _ q.1 e := fun q hq => by
  by_cases hR : @Eq Nat q.1 R
  · rw [hR]; exact h1
  · by_cases hz : @Eq Nat q.1 z
    · rw [hz]; exact h2
    · exact allLt_mem h3 q (mem_off2.mpr ⟨hq, hR, hz⟩)

theorem addchild_A {T0 R : Addr} {led led1 : List (Addr × Obj)} {xs : List Trip} {rows : List RowS} {keep : List (Addr × Obj)} {k : Nat} {row : RowS} {tk tkd tvl : Tok} {nm ur lc : Value} {kd vl : Str}
    (B : Below A₀ base outer h₀) (F : Fr h₀ L s.heap m) (X : (KK w.params).In h₀) (G : TreeG w led T0 R xs rows keep) (N1 : News h₀ L s.heap led1) (sub : ∀ q ∈ led, q ∈ led1) (hr : rows[k]? = some row)
    (hkp : row.kd = Str.ofString "root" ∨ row.kd = Str.ofString "element") (hz : rows.length ≤ 100) (hzk : row.kids.length ≤ 100)
    (T : Top p loose mean mg mb h₀) (hk : cs.kind = .function) (hd : dp + 20 ≤ 900) (hu : un + 240 ≤ 1000)
    (ret : ∀ (n' : Nat) rows' dT kT led' xs' t h' tk', n' = rows.length → rows' = rows.set k ⟨row.kd, row.vl, row.kids ++ [rows.length], row.ats⟩ ++ [⟨kd, vl, [], []⟩] → Fr h₀ L h' m → News h₀ L h' ((T0, instObj 1250 dT) :: (dT, treeD w kT R) :: led') → TreeG w led' T0 R xs' rows' keep → Q (.int (n' : Int) t) { s with heap := h', toks := tk' }) :
    wpAny (model PySem.Challenge.rw_xm0674_01.prog w) (ktrTop dp un gd cn cs L a ccd cl outer) (call (.ref 1107) [.ref T0, .int (k : Int) tk, .str kd tkd, nm, ur, lc, .str vl tvl]) Q E s := by
  have N : News h₀ L s.heap led := fun q hq => N1 q (sub q hq)
  obtain ⟨dT, kT, nR, a1, a2, a3⟩ := G.top
  have hkx : k < xs.length := by
    rw [G.len]
    rcases Nat.lt_or_ge k rows.length with q | q
    · exact q
    · rw [List.getElem?_eq_none q] at hr; cases hr
  have hx : xs[k]? = some xs[k] := List.getElem?_eq_getElem hkx
  generalize hxk : xs[k] = xk at hx
  obtain ⟨e, ns, k0, k1, k2, k3, k4, k5, k6, k7, k8, tkk, tv, nm', ur', lc', pr, ksV, asV, nk, na, h1, h2, h3, h4, h5, h6⟩ := G.row k xk row hx hr
  have aR := G.apR k xk hx
  have hv : (refsOf xs)[k]? = some (.ref xk.1) := by simp [refsOf, hx]
  have inO : ∀ q ∈ led, @Ne Nat q.1 R → @Ne Nat q.1 xk.2.1 → q ∈ off2 led R xk.2.1 := fun q hq u v => mem_off2.mpr ⟨hq, u, v⟩
  refine addchild_F w p loose mean mg mb dp un gd cn cs a ccd cl outer A₀ base h₀ L m (off2 led R xk.2.1) s Q E T0 dT R xk.1 e xk.2.1 xk.2.2 ns kT (refsOf xs) ksV nR nk k tk tkk k0 k1 k2 k3 k4 k5 k6 k7 k8 row.kd nm' ur' lc' (.str row.vl tv) pr (.str kd tkd) nm ur lc (.str vl tvl)
    B F X (news_more a3 N (news_more a1 N (news_more a2 N (news_more h3 N (news_more h1 N (news_more h2 N (fun q hq => N _ (mem_off2.mp hq).1))))))) (fun q hq => (mem_off2.mp hq).2.1) (fun q hq => (mem_off2.mp hq).2.2) (news_fun N a1 a3 inst_list) (news_fun N a2 a3 dict_list) aR.1 (news_fun N h1 a3 inst_list) (news_fun N h2 a3 dict_list) (news_fun N a1 h3 inst_list) (news_fun N a2 h3 dict_list) (news_fun N h1 h3 inst_list) (news_fun N h2 h3 dict_list)
    hkp hv T hk (by simp [refsOf, G.len]; exact hz) (by rw [h4.len]; exact hzk) hd hu fun e' r c at_ ns' j0 j1 j2 j3 j4 j5 j6 j7 j8 t h' tk' l1 l2 l3 l4 l5 F' N' => ?_
  · have hlen : (refsOf xs).length = rows.length := by simp [refsOf, G.len]
    rw [hlen] at N' ⊢
    have lt : ∀ q ∈ led, @LT.lt Nat _ q.1 e' := lt_cover (oR := listOf #[] 0) (oz := listOf #[] 0) l1.1 l1.2.2.2.1 l1.2.2.2.2.2.2
    refine ret _ _ dT kT _ (xs ++ [(r, c, at_)]) t h' tk' rfl rfl F' (news_more (by k_mem) N' (news_more (by k_mem) N' N')) (G.step (r := r) (nR' := nR + 1) N hx hr (.inl rfl) ⟨_, _, h3⟩ ?_ ?_ ?_ ?_ (fun q hq => Nat.lt_trans (Nat.lt_trans (lt q hq) l2) l3) l4)
    · refine ⟨e, ns, k0, k1, k2, k3, k4, k5, k6, k7, k8, tkk, tv, nm', ur', lc', pr, ksV ++ [.int (rows.length : Int) t], asV, nk + 1, na, ?_, ?_, ?_, h4.app _ t, ?_, h6⟩
      · k_mem
      · k_mem
      · k_mem
      · have := inO _ h5 aR.2.1 (Ne.symm aR.2.2)
        k_mem
    · refine ⟨e', ns', j0, j1, j2, j3, j4, j5, j6, j7, j8, tkd, tvl, nm, ur, lc, .int (k : Int) tk, [], [], 0, 0, ?_, ?_, ?_, .nil, ?_, .nil⟩
      · k_mem
      · k_mem
      · k_mem
      · k_mem
    · k_mem
    · intro q hq u v
      have := inO q hq u v
      k_mem
theorem setattr_A {T0 R : Addr} {led led1 : List (Addr × Obj)} {xs : List Trip} {rows : List RowS} {keep : List (Addr × Obj)} {k : Nat} {row : RowS} {tk tn tu tl tvl : Tok} {nm ur lc vl : Str}
    (B : Below A₀ base outer h₀) (F : Fr h₀ L s.heap m) (X : (KK w.params).In h₀) (G : TreeG w led T0 R xs rows keep) (N1 : News h₀ L s.heap led1) (sub : ∀ q ∈ led, q ∈ led1) (hr : rows[k]? = some row)
    (hkp : row.kd = Str.ofString "element") (hka : row.ats = []) (hz : rows.length ≤ 100)
    (T : Top p loose mean mg mb h₀) (hk : cs.kind = .function) (hd : dp + 24 ≤ 900) (hu : un + 300 ≤ 1000)
    (ret : ∀ (n' : Nat) rows' dT kT led' xs' t h' tk', n' = rows.length → rows' = rows.set k ⟨row.kd, row.vl, row.kids, [rows.length]⟩ ++ [⟨Str.ofString "attribute", vl, [], []⟩] → Fr h₀ L h' m → News h₀ L h' ((T0, instObj 1250 dT) :: (dT, treeD w kT R) :: led') → TreeG w led' T0 R xs' rows' keep → Q (.int (n' : Int) t) { s with heap := h', toks := tk' }) :
    wpAny (model PySem.Challenge.rw_xm0674_01.prog w) (ktrTop dp un gd cn cs L a ccd cl outer) (call (.ref 1149) [.ref T0, .int (k : Int) tk, .str nm tn, .str ur tu, .str lc tl, .str vl tvl]) Q E s := by
  have N : News h₀ L s.heap led := fun q hq => N1 q (sub q hq)
  obtain ⟨dT, kT, nR, a1, a2, a3⟩ := G.top
  have hkx : k < xs.length := by
    rw [G.len]
    rcases Nat.lt_or_ge k rows.length with q | q
    · exact q
    · rw [List.getElem?_eq_none q] at hr; cases hr
  have hx : xs[k]? = some xs[k] := List.getElem?_eq_getElem hkx
  generalize hxk : xs[k] = xk at hx
  obtain ⟨e, ns, k0, k1, k2, k3, k4, k5, k6, k7, k8, tkk, tv, nm', ur', lc', pr, ksV, asV, nk, na, h1, h2, h3, h4, h5, h6⟩ := G.row k xk row hx hr
  rw [hka] at h6
  obtain rfl := h6.nil_of
  rw [hkp] at h2
  have aR := G.apR k xk hx
  have hv : (refsOf xs)[k]? = some (.ref xk.1) := by simp [refsOf, hx]
  have inO : ∀ q ∈ led, @Ne Nat q.1 R → @Ne Nat q.1 xk.2.2 → q ∈ off2 led R xk.2.2 := fun q hq u v => mem_off2.mpr ⟨hq, u, v⟩
  refine setattr_F w p loose mean mg mb dp un gd cn cs a ccd cl outer A₀ base h₀ L m (off2 led R xk.2.2) s Q E T0 dT R xk.1 e xk.2.1 xk.2.2 ns kT (refsOf xs) nR na k tk tkk k0 k1 k2 k3 k4 k5 k6 k7 k8 nm' ur' lc' (.str row.vl tv) pr (.str vl tvl) nm ur lc tn tu tl
    B F X (news_more a3 N (news_more a1 N (news_more a2 N (news_more h5 N (news_more h1 N (news_more h2 N (fun q hq => N _ (mem_off2.mp hq).1))))))) (fun q hq => (mem_off2.mp hq).2.1) (fun q hq => (mem_off2.mp hq).2.2) (news_fun N a1 a3 inst_list) (news_fun N a2 a3 dict_list) aR.2.1 (news_fun N h1 a3 inst_list) (news_fun N h2 a3 dict_list) (news_fun N a1 h5 inst_list) (news_fun N a2 h5 dict_list) (news_fun N h1 h5 inst_list) (news_fun N h2 h5 dict_list)
    hv T hk (by simp [refsOf, G.len]; exact hz) hd hu fun e' r c at_ ns' j0 j1 j2 j3 j4 j5 j6 j7 j8 t t2 h' tk' l1 l2 l3 l4 l5 F' N' => ?_
  · have hlen : (refsOf xs).length = rows.length := by simp [refsOf, G.len]
    rw [hlen] at N' ⊢
    have lt : ∀ q ∈ led, @LT.lt Nat _ q.1 e' := lt_cover (oR := listOf #[] 0) (oz := listOf #[] 0) l1.1 l1.2.2.2.1 l1.2.2.2.2.2.2
    refine ret _ _ dT kT _ (xs ++ [(r, c, at_)]) t h' tk' rfl rfl F' (news_more (by k_mem) N' (news_more (by k_mem) N' N')) (G.step (r := r) (nR' := nR + 1) N hx hr (.inr rfl) ⟨_, _, h5⟩ ?_ ?_ ?_ ?_ (fun q hq => Nat.lt_trans (Nat.lt_trans (lt q hq) l2) l3) l4)
    · refine ⟨e, ns, k0, k1, k2, k3, k4, k5, k6, k7, k8, tkk, tv, nm', ur', lc', pr, ksV, [.int (rows.length : Int) t], nk, na + 1, ?_, ?_, ?_, h4, ?_, IntsV.nil.app rows.length t⟩
      · k_mem
      · rw [hkp]; k_mem
      · have := inO _ h3 aR.1 aR.2.2
        k_mem
      · k_mem
    · refine ⟨e', ns', j0, j1, j2, j3, j4, j5, j6, j7, j8, t2, tvl, .str nm tn, .str ur tu, .str lc tl, .int (k : Int) tk, [], [], 0, 0, ?_, ?_, ?_, .nil, ?_, .nil⟩
      · k_mem
      · k_mem
      · k_mem
      · k_mem
    · k_mem
    · intro q hq u v
      have := inO q hq u v
      k_mem
theorem newrow_A {T0 R dT : Addr} {kT : Tok} {nR : Nat} {led keep : List (Addr × Obj)} {tkd tvl : Tok} {nm ur lc pr : Value} {kd vl : Str}
    (B : Below A₀ base outer h₀) (F : Fr h₀ L s.heap m) (X : (KK w.params).In h₀) (N : News h₀ L s.heap led) (a1 : (T0, instObj 1250 dT) ∈ led) (a2 : (dT, treeD w kT R) ∈ led) (a3 : (R, listOf (List.toArray []) nR) ∈ led)
    (hkeep : ∀ q ∈ keep, q ∈ led) (hkR : ∀ q ∈ keep, @Ne Nat q.1 R)
    (T : Top p loose mean mg mb h₀) (hk : cs.kind = .function) (hd : dp + 16 ≤ 900) (hu : un + 200 ≤ 1000)
    (ret : ∀ dT kT led' xs' t h' tk', Fr h₀ L h' m → News h₀ L h' ((T0, instObj 1250 dT) :: (dT, treeD w kT R) :: led') → TreeG w led' T0 R xs' [⟨kd, vl, [], []⟩] keep → Q (.int ((0 : Nat) : Int) t) { s with heap := h', toks := tk' }) :
    wpAny (model PySem.Challenge.rw_xm0674_01.prog w) (ktrTop dp un gd cn cs L a ccd cl outer) (call (.ref 1086) [.ref T0, .str kd tkd, nm, ur, lc, .str vl tvl, pr]) Q E s := by
  refine newrow_F w p loose mean mg mb dp un gd cn cs a ccd cl outer A₀ base h₀ L m (off2 led R R) s Q E T0 dT R kT [] nR (.str kd tkd) nm ur lc (.str vl tvl) pr B F X (news_more a3 N (news_more a1 N (news_more a2 N (fun q hq => N _ (mem_off2.mp hq).1)))) (fun q hq => (mem_off2.mp hq).2.1) (news_fun N a1 a3 inst_list) (news_fun N a2 a3 dict_list) T hk (by simp) hd hu
    fun e' r c at_ ns' j0 j1 j2 j3 j4 j5 j6 j7 j8 t h' tk' l1 l2 l3 l4 l5 F' N' => ?_
  · have lt : ∀ q ∈ led, @LT.lt Nat _ q.1 e' := lt_cover (oR := listOf #[] 0) (oz := listOf #[] 0) l1.1 l1.1 l1.2.2.2
    refine ret dT kT _ [(r, c, at_)] t h' tk' F' (news_more (by k_mem) N' (news_more (by k_mem) N' N')) ⟨⟨dT, kT, nR + 1, by k_mem, by k_mem, by k_mem⟩, rfl, ?_, ?_, ?_, ?_⟩
    · intro i x ro e1 e2
      cases i with
      | zero =>
        obtain rfl := Option.some.inj e1
        obtain rfl := Option.some.inj e2
        refine ⟨e', ns', j0, j1, j2, j3, j4, j5, j6, j7, j8, tkd, tvl, nm, ur, lc, pr, [], [], 0, 0, ?_, ?_, ?_, .nil, ?_, .nil⟩
        · k_mem
        · k_mem
        · k_mem
        · k_mem
      | succ i => simp at e1
    · intro i x e1
      cases i with
      | zero =>
        obtain rfl := Option.some.inj e1
        have q1 : @LT.lt Nat _ R c := Nat.lt_trans (Nat.lt_trans l1.1 l2) l3
        exact ⟨Nat.ne_of_gt q1, Nat.ne_of_gt (Nat.lt_trans q1 l4), Nat.ne_of_lt l4⟩
      | succ i => simp at e1
    · intro i j x y e1 e2 hij
      cases i with
      | zero =>
        cases j with
        | zero => exact absurd rfl hij
        | succ j => simp at e2
      | succ i => simp at e1
    · intro q hq
      have hR := hkR q hq
      have hin := mem_off2.mpr ⟨hkeep q hq, hR, hR⟩
      refine ⟨by k_mem, hR, fun i x e1 => ?_⟩
      cases i with
      | zero =>
        obtain rfl := Option.some.inj e1
        have q1 : @LT.lt Nat _ q.1 c := Nat.lt_trans (Nat.lt_trans (lt q (hkeep q hq)) l2) l3
        exact ⟨Nat.ne_of_lt q1, Nat.ne_of_lt (Nat.lt_trans q1 l4)⟩
      | succ i => simp at e1
end
end

section -- R7
open PySem PySem.W PyProof.Rows PySem.Calls
noncomputable abbrev tupO (xs : Array Value) : Obj := { cls := .type "tuple", data := .seq xs }
noncomputable def rowsE : List RowS := [⟨Str.ofString "root", Str.ofString "", [1], []⟩, ⟨Str.ofString "element", Str.ofString "", [3, 4, 6], [2]⟩, ⟨Str.ofString "attribute", Str.ofString "v", [], []⟩, ⟨Str.ofString "text", Str.ofString "b", [], []⟩,
  ⟨Str.ofString "element", Str.ofString "", [5], []⟩, ⟨Str.ofString "text", Str.ofString "c{", [], []⟩, ⟨Str.ofString "comment", Str.ofString "d", [], []⟩]
theorem ne_of_l1 {x y : Prop} {R : Addr} {keep : List (Addr × Obj)} (h : x ∧ y ∧ AllLt R keep) : ∀ q ∈ keep, @Ne Nat q.1 R := fun q hq => Nat.ne_of_lt (allLt_mem h.2.2 q hq)
section
variable (w : World) (p : Program) (loose : List Str) (mean : ExcName → Option Value) (mg mb : Str → Option Value)
    (dp un : Nat) (gd : Option (List Code)) (cn : Str) (cs : Scope) (a : Addr) (ccd : Value) (cl : List (Str × Addr)) (outer : List Env) (A₀ : Around) (base h₀ : Heap) (L : Addr) (m : Str → Option Value) (keep : List (Addr × Obj)) (s : Shared)
    (Q E : Value → Shared → Prop)
set_option maxHeartbeats 0 in
theorem grown_F
    (B : Below A₀ base outer h₀) (F : Fr h₀ L s.heap m) (X : (KK w.params).In h₀) (N : News h₀ L s.heap keep)
    (T : Top p loose mean mg mb h₀) (hk : cs.kind = .function) (hd : dp + 30 ≤ 900) (hu : un + 400 ≤ 1000)
    (ret : ∀ (T0 R NL D p0 p1 p2 p3 p4 : Addr) xs led' (t0 t1 t2 t3 t4 u0 u1 u2 u3 u4 : Tok) h' tk', Fr h₀ L h' m → News h₀ L h' ((D, tupO #[.ref T0, .ref NL]) :: (NL, listOf #[.ref p0, .ref p1, .ref p2, .ref p3, .ref p4] 0) :: (p4, tupO #[.int ((6 : Nat) : Int) t4, .str (Str.ofString "d") u4]) ::
        (p3, tupO #[.int ((4 : Nat) : Int) t3, .str (Str.ofString "c{") u3]) :: (p2, tupO #[.int ((3 : Nat) : Int) t2, .str (Str.ofString "b") u2]) :: (p1, tupO #[.int ((2 : Nat) : Int) t1, .str (Str.ofString "v") u1]) :: (p0, tupO #[.int ((1 : Nat) : Int) t0, .str (Str.ofString "bc{") u0]) :: led') →
      TreeG w led' T0 R xs rowsE keep → Q (.ref D) { s with heap := h', toks := tk' }) :
    wpAny (model PySem.Challenge.rw_xm0674_01.prog w) (ktrTop dp un gd cn cs L a ccd cl outer) (call (.ref 1294) []) Q E s := by
  k_with_none
  k_with "memR" => (first | with_reducible assumption | exact List.Mem.head _ | (refine' List.Mem.tail _ ?_; k_extra "memR"))
  k_with "memD" => (first | exact List.Mem.head _ | assumption | (refine' List.Mem.tail _ ?_; k_extra "memD"))
  k_with "mem" => (first | k_extra "memR" | k_extra "memD")
  k_with "allR" => (first | assumption | exact List.forall_mem_nil _ | (refine' List.forall_mem_cons.mpr ⟨?a, ?b⟩; (case a => first | with_reducible assumption | k_ne); (case b => k_extra "allR")))
  k_with "all" => (k_extra "allR")
  k_with "cj" => (with_reducible (first | assumption | exact cj0 (by assumption) | exact cj1 (by assumption) | exact cj2 (by assumption) | exact cj3 (by assumption) | exact cj4 (by assumption) | exact cj5 (by assumption) | exact cj6 (by assumption) | exact cj7 (by assumption) | exact cj8 (by assumption) | exact cj9 (by assumption) | exact cj10 (by assumption) | exact cj11 (by assumption) | exact cj12 (by assumption) | exact cj13 (by assumption) | exact cj14 (by assumption) | exact cj15 (by assumption) | exact cj16 (by assumption) | exact cl1 (by assumption) | exact cl2 (by assumption) | exact cl3 (by assumption) | exact cl4 (by assumption) | exact cl5 (by assumption) | exact cl6 (by assumption) | exact cl7 (by assumption) | exact cl8 (by assumption) | exact cl9 (by assumption) | exact cl10 (by assumption) | exact cl11 (by assumption) | exact cl12 (by assumption) | exact cl13 (by assumption) | exact cl14 (by assumption) | exact cl15 (by assumption) | exact cl16 (by assumption) | exact ct0t0x (by assumption) | exact ct0t1x (by assumption) | exact ct0t2x (by assumption) | exact ct1t0x (by assumption) | exact ct1t1x (by assumption) | exact ct1t2x (by assumption) | exact ct2t0x (by assumption) | exact ct2t1x (by assumption) | exact ct2t2x (by assumption) | exact ct3t0x (by assumption) | exact ct3t1x (by assumption) | exact ct3t2x (by assumption) | exact ct4t0x (by assumption) | exact ct4t1x (by assumption) | exact ct4t2x (by assumption)))
  k_with "ne" => ((refine neN ?_; (try dsimp only); first | with_reducible (first | assumption | exact ngt (by assumption) | exact nlt (by assumption) | exact Ne.symm (by assumption)) | (refine ngt ?_; k_data) | (refine nlt ?_; k_data) | k_data | (refine Ne.symm ?_; k_data) | (refine ngt1 ?_; k_data) | (refine ngt2 ?_; k_data) | (refine nlt1 ?_; k_data) | (refine nlt2 ?_; k_data) | omega))
  k_with "room" => (first | exact room_le2 (by assumption) (by exact rfl) | exact room_lt2 (by assumption) (by exact rfl) | exact room_le1 (by assumption) (by exact rfl) | exact room_lt1 (by assumption) (by exact rfl) | exact room_le3 (by assumption) (by exact rfl) | exact room_lt3 (by assumption) (by exact rfl) | exact room_ltF (by assumption) (by exact rfl) (by exact rfl))
  k_with "units" => (first | exact unit_le2 (by assumption) (by exact rfl) | exact unit_lt2 (by assumption) (by exact rfl) | exact unit_le1 (by assumption) (by exact rfl) | exact unit_lt1 (by assumption) (by exact rfl) | exact unit_le3 (by assumption) (by exact rfl) | exact unit_lt3 (by assumption) (by exact rfl) | exact unit_ltE (by assumption) (by exact rfl) (by exact rfl) | exact unit_ltF (by assumption) (by exact rfl) (by exact rfl))
  k_with "callWith ref nil nil" => (k_here; k_dflt (refine' callWith_K ?k1 ?k2 ?_; (case k1 => k_asm); (case k2 => k_is); k_whole))
  k_with "eval Name" => (k_here; k_dflt (refine' nameX_L ?F ?v ?_ ?a ?b; (case b => exact rfl); (case F => k_asm); (case a => rfl); (case v => rfl); k_whole))
  k_with "eval Name" => (k_here; k_dflt (refine' nameX_K ?F ?X ?T ?e ?_ ?a ?b; (case b => exact rfl); (case F => k_asm); (case X => k_asm); (case T => k_asm); (case a => rfl); (case e => k_is); k_whole))
  k_with "eval Name" => (k_here; k_dflt (refine' nameX_B ?F ?X ?T ?e ?v ?n ?_ ?a ?b; (case b => exact rfl); (case F => k_asm); (case X => k_asm); (case T => k_asm); (case a => rfl); (case e => k_is); (case v => boot_fast); (case n => decide); k_whole))
  k_with "subscriptTail Name Constant ref int" => (k_here; (with_reducible show wpAny _ _ (subscriptTail _ _ (Value.ref _) (Value.int _ _)) _ _ _); k_dflt (first | (refine' item_tupleT ?t ?a ?b ?c ?d ?_; (case t => first | with_reducible assumption | exact News.isTup (by k_asm) (by k_mem)); (case a => decide); (case b => decide); (case c => rfl); (case d => rfl); k_whole) | (refine' topTup_K ?F ?X ?l ?a ?b ?c ?d ?_; (case F => k_asm); (case X => k_asm); (case l => k_is); (case a => decide); (case b => decide); (case c => rfl); (case d => rfl)) | (refine' topList_K ?F ?X ?l ?a ?b ?d ?_; (case F => k_asm); (case X => k_asm); (case l => k_is); (case a => decide); (case b => decide); (case d => rfl); k_whole)))
  k_with "subscriptTail Name Constant ref int" => (k_here; (with_reducible show wpAny _ _ (subscriptTail _ _ (Value.ref _) (Value.int _ _)) _ _ _); (with_unfolding_all refine' item_litK ?k1 ?k2 ?k3 ?k4 ?_ ?k6; (case k1 => is_list); (case k2 => decide); (case k3 => decide); (case k4 => rfl); (case k6 => with_unfolding_all rfl); k_whole))
  k_with "call builtin:list.pop" => (k_here; k_dflt ((with_reducible show wpAny _ _ (call (Value.builtin _) [Value.ref _]) _ _ _); refine' kl_pop ?F ?N ?e ?U ?z ?_; (case F => k_asm); (case N => k_asm); (case U => k_upd); (case e => rfl); (case z => kl_room)); kl_rest)
  k_with "lt" => with_reducible (first | assumption | exact ll0 (by assumption) | exact ll1 (by assumption) | exact ll2 (by assumption) | exact ll3 (by assumption) | exact ll4 (by assumption) | exact ll5 (by assumption) | exact ll6 (by assumption) | exact ll7 (by assumption) | exact ll8 (by assumption) | exact ll9 (by assumption) | exact ll10 (by assumption) | exact ll11 (by assumption) | exact ll12 (by assumption) | exact ll13 (by assumption) | exact la0 (by assumption) | exact la1 (by assumption) | exact la2 (by assumption) | exact la3 (by assumption) | exact la4 (by assumption) | exact la5 (by assumption) | exact la6 (by assumption) | exact la7 (by assumption))
  k_with "ite" => with_reducible (first | refine ite_tt ?_ | refine ite_ff ?_)
  k_with "subscriptTail Attribute Name Name ref int" => (walk_at "last subscriptTail")
  k_with "callWith ref cons nil" => (k_here; k_dflt (refine' callWith_K ?k1 ?k2 ?_; (case k1 => k_asm); (case k2 => k_is); k_whole))
  k_with "call ref" => (k_here; (with_reducible show wpAny _ _ (call (Value.ref 1086) _) _ _ _); k_dflt (refine' newrow_A ?k1 ?k2 ?k3 ?k4 ?k5 ?k6 ?k7 ?k8 ?k9 ?k10 ?k11 ?k12 ?k13 ?_; (case k1 => k_asm); (case k2 => k_asm); (case k3 => k_asm); (case k4 => k_asm); (case k5 => k_mem); (case k6 => k_mem); (case k7 => k_mem); (case k9 => exact ne_of_l1 (by assumption)); (case k8 => (intro q hq; repeat (first | exact hq | refine List.Mem.tail _ ?_))); (case k10 => k_asm); (case k11 => first | exact rfl | assumption); (case k12 => ktr_room); (case k13 => ktr_units); intro dT' kT' led' xs' t' h' tk' F' N' G'; (try dsimp only); (try k_fold)))
  k_with "call ref" => (k_here; (with_reducible show wpAny _ _ (call (Value.ref 1107) _) _ _ _); k_dflt (refine' addchild_A ?k1 ?k2 ?k3 ?k4 ?k5 ?k6 ?k7 ?k8 ?k9 ?k10 ?k11 ?k12 ?k13 ?k14 ?_; (case k1 => k_asm); (case k2 => k_asm); (case k3 => k_asm); (case k4 => assumption); (case k5 => k_asm); (case k6 => (intro q hq; repeat (first | exact hq | refine List.Mem.tail _ ?_))); (case k7 => exact rfl); (case k8 => first | exact .inl rfl | exact .inr rfl); (case k9 => decide); (case k10 => decide); (case k11 => k_asm); (case k12 => first | exact rfl | assumption); (case k13 => ktr_room); (case k14 => ktr_units); intro n' rows' dT' kT' led' xs' t' h' tk' hn' hr' F' N' G'; (simp only [List.length_cons, List.length_nil, List.set_cons_zero, List.set_cons_succ, List.cons_append, List.nil_append, Nat.zero_add, Nat.reduceAdd] at hn' hr'); (subst hn'); (subst hr'); (try dsimp only); (try k_fold)))
  k_with "call ref" => (k_here; (with_reducible show wpAny _ _ (call (Value.ref 1149) _) _ _ _); k_dflt (refine' setattr_A ?k1 ?k2 ?k3 ?k4 ?k5 ?k6 ?k7 ?k8 ?k9 ?k10 ?k11 ?k12 ?k13 ?k14 ?_; (case k1 => k_asm); (case k2 => k_asm); (case k3 => k_asm); (case k4 => assumption); (case k5 => k_asm); (case k6 => (intro q hq; repeat (first | exact hq | refine List.Mem.tail _ ?_))); (case k7 => exact rfl); (case k8 => exact rfl); (case k9 => exact rfl); (case k10 => decide); (case k11 => k_asm); (case k12 => first | exact rfl | assumption); (case k13 => ktr_room); (case k14 => ktr_units); intro n' rows' dT' kT' led' xs' t' h' tk' hn' hr' F' N' G'; (simp only [List.length_cons, List.length_nil, List.set_cons_zero, List.set_cons_succ, List.cons_append, List.nil_append, Nat.zero_add, Nat.reduceAdd] at hn' hr'); (subst hn'); (subst hr'); (try dsimp only); (try k_fold)))
  refine wpAny_call ?_
  k_dflt ktr_enter
  k_steps
  (rename TreeG _ _ _ _ _ _ _ => GG)
  (rename News _ _ _ _ => NN)
  (rename Fr _ _ _ _ => FF)
  k_dflt (refine' ret _ _ _ _ _ _ _ _ _ _ _ _ _ _ _ _ _ _ _ _ _ _ _ FF NN (TreeG.mono GG fun q hq => List.Mem.tail _ (List.Mem.tail _ hq)))
end
end

section -- N2
open PySem PySem.W PyProof.Rows PySem.Calls
noncomputable def numTab : List (Int × Int × Str) := [(0, 1, Str.ofString "0"), (3, 2, Str.ofString "1.5"), (-1, 4, Str.ofString "-0.25"), (0, 0, Str.ofString "NaN"), (1, 0, Str.ofString "Infinity"), (-1, 0, Str.ofString "-Infinity"), (12, 1, Str.ofString "12"), (1, 3, Str.ofString "0.333333333333333")]
theorem news_sub {h₀ h : Heap} {L : Addr} {l l' : List (Addr × Obj)} (N : News h₀ L h l) (hs : ∀ q ∈ l', q ∈ l) : News h₀ L h l' := fun q hq => N q (hs q hq)
theorem sub_nil {l : List (Addr × Obj)} : ∀ q ∈ ([] : List (Addr × Obj)), q ∈ l := fun _ h => nomatch h
theorem sub_cons {a : Addr × Obj} {l l' : List (Addr × Obj)} (h : a ∈ l) (hs : ∀ q ∈ l', q ∈ l) : ∀ q ∈ a :: l', q ∈ l := fun q hq => by
  rcases List.mem_cons.mp hq with rfl | hq
  · exact h
  · exact hs q hq
theorem sub_tail {a : Addr × Obj} {l l' : List (Addr × Obj)} (hs : ∀ q ∈ l', q ∈ l) : ∀ q ∈ l', q ∈ a :: l := fun q hq => .tail _ (hs q hq)
theorem sub_self {l : List (Addr × Obj)} : ∀ q ∈ l, q ∈ l := fun _ h => h
section
variable (w : World) (p : Program) (loose : List Str) (mean : ExcName → Option Value) (mg mb : Str → Option Value)
    (dp un : Nat) (gd : Option (List Code)) (cn : Str) (cs : Scope) (a : Addr) (ccd : Value) (cl : List (Str × Addr)) (outer : List Env) (A₀ : Around) (base h₀ : Heap) (L : Addr) (m : Str → Option Value) (rest : List (Addr × Obj)) (s : Shared)
    (Q E : Value → Shared → Prop) (src : Addr) (x y : Int) (tx ty : Tok) (n : Nat)

set_option maxHeartbeats 0 in
theorem number_F 
    (B : Below A₀ base outer h₀) (F : Fr h₀ L s.heap m) (X : (KK w.params).In h₀) (N : News h₀ L s.heap ((src, pool x y tx ty n) :: rest)) (h1 : ∀ q ∈ rest, q.1 ≠ src)
    (T : Top p loose mean mg mb h₀) (hk : cs.kind = .function) (hx : Pool x y) (hd : dp + 16 ≤ 900) (hu : un + 200 ≤ 1000)
    (ret : ∀ (D b : Addr) (i j : Int) (x : Str) (ti tj t : Tok) x' y' tx' ty' n' h' tk', (i, j, x) ∈ numTab → Fr h₀ L h' m → News h₀ L h' ((src, pool x' y' tx' ty' n') :: (D, tupO #[.ref b, .str x t]) :: (b, tupO #[.int i ti, .int j tj]) :: rest) → Pool x' y' → Q (.ref D) { s with heap := h', toks := tk' }) :
    wpAny (model PySem.Challenge.rw_xm0674_01.prog w) (ktrTop dp un gd cn cs L a ccd cl outer) (call (.ref 1301) [.ref src]) Q E s := by
  k_with_none
  k_with "memR" => (first | with_reducible assumption | exact List.Mem.head _ | (refine' List.Mem.tail _ ?_; k_extra "memR"))
  k_with "memD" => (first | exact List.Mem.head _ | assumption | (refine' List.Mem.tail _ ?_; k_extra "memD"))
  k_with "mem" => (first | k_extra "memR" | k_extra "memD")
  k_with "allR" => (first | assumption | exact List.forall_mem_nil _ | (refine' List.forall_mem_cons.mpr ⟨?a, ?b⟩; (case a => first | with_reducible assumption | k_ne); (case b => k_extra "allR")))
  k_with "all" => (k_extra "allR")
  k_with "cj" => (with_reducible (first | assumption | exact cj0 (by assumption) | exact cj1 (by assumption) | exact cj2 (by assumption) | exact cj3 (by assumption) | exact cj4 (by assumption) | exact cj5 (by assumption) | exact cj6 (by assumption) | exact cj7 (by assumption) | exact cj8 (by assumption) | exact cj9 (by assumption) | exact cj10 (by assumption) | exact cj11 (by assumption) | exact cj12 (by assumption) | exact cj13 (by assumption) | exact cj14 (by assumption) | exact cj15 (by assumption) | exact cj16 (by assumption) | exact cl1 (by assumption) | exact cl2 (by assumption) | exact cl3 (by assumption) | exact cl4 (by assumption) | exact cl5 (by assumption) | exact cl6 (by assumption) | exact cl7 (by assumption) | exact cl8 (by assumption) | exact cl9 (by assumption) | exact cl10 (by assumption) | exact cl11 (by assumption) | exact cl12 (by assumption) | exact cl13 (by assumption) | exact cl14 (by assumption) | exact cl15 (by assumption) | exact cl16 (by assumption) | exact ct0t0x (by assumption) | exact ct0t1x (by assumption) | exact ct0t2x (by assumption) | exact ct1t0x (by assumption) | exact ct1t1x (by assumption) | exact ct1t2x (by assumption) | exact ct2t0x (by assumption) | exact ct2t1x (by assumption) | exact ct2t2x (by assumption) | exact ct3t0x (by assumption) | exact ct3t1x (by assumption) | exact ct3t2x (by assumption) | exact ct4t0x (by assumption) | exact ct4t1x (by assumption) | exact ct4t2x (by assumption)))
  k_with "ne" => ((refine neN ?_; (try dsimp only); first | with_reducible (first | assumption | exact ngt (by assumption) | exact nlt (by assumption) | exact Ne.symm (by assumption)) | (refine ngt ?_; k_data) | (refine nlt ?_; k_data) | k_data | (refine Ne.symm ?_; k_data) | (refine ngt1 ?_; k_data) | (refine ngt2 ?_; k_data) | (refine nlt1 ?_; k_data) | (refine nlt2 ?_; k_data) | omega))
  k_with "room" => (first | exact room_le2 (by assumption) (by exact rfl) | exact room_lt2 (by assumption) (by exact rfl) | exact room_le1 (by assumption) (by exact rfl) | exact room_lt1 (by assumption) (by exact rfl) | exact room_le3 (by assumption) (by exact rfl) | exact room_lt3 (by assumption) (by exact rfl) | exact room_ltF (by assumption) (by exact rfl) (by exact rfl))
  k_with "units" => (first | exact unit_le2 (by assumption) (by exact rfl) | exact unit_lt2 (by assumption) (by exact rfl) | exact unit_le1 (by assumption) (by exact rfl) | exact unit_lt1 (by assumption) (by exact rfl) | exact unit_le3 (by assumption) (by exact rfl) | exact unit_lt3 (by assumption) (by exact rfl) | exact unit_ltE (by assumption) (by exact rfl) (by exact rfl) | exact unit_ltF (by assumption) (by exact rfl) (by exact rfl))
  k_with "callWith ref nil nil" => (k_here; k_dflt (refine' callWith_K ?k1 ?k2 ?_; (case k1 => k_asm); (case k2 => k_is); k_whole))
  k_with "eval Name" => (k_here; k_dflt (refine' nameX_L ?F ?v ?_ ?a ?b; (case b => exact rfl); (case F => k_asm); (case a => rfl); (case v => rfl); k_whole))
  k_with "eval Name" => (k_here; k_dflt (refine' nameX_K ?F ?X ?T ?e ?_ ?a ?b; (case b => exact rfl); (case F => k_asm); (case X => k_asm); (case T => k_asm); (case a => rfl); (case e => k_is); k_whole))
  k_with "eval Name" => (k_here; k_dflt (refine' nameX_B ?F ?X ?T ?e ?v ?n ?_ ?a ?b; (case b => exact rfl); (case F => k_asm); (case X => k_asm); (case T => k_asm); (case a => rfl); (case e => k_is); (case v => boot_fast); (case n => decide); k_whole))
  k_with "subscriptTail Name Constant ref int" => (k_here; (with_reducible show wpAny _ _ (subscriptTail _ _ (Value.ref _) (Value.int _ _)) _ _ _); k_dflt (first | (refine' item_tupleT ?t ?a ?b ?c ?d ?_; (case t => first | with_reducible assumption | exact News.isTup (by k_asm) (by k_mem)); (case a => decide); (case b => decide); (case c => rfl); (case d => rfl); k_whole) | (refine' topTup_K ?F ?X ?l ?a ?b ?c ?d ?_; (case F => k_asm); (case X => k_asm); (case l => k_is); (case a => decide); (case b => decide); (case c => rfl); (case d => rfl)) | (refine' topList_K ?F ?X ?l ?a ?b ?d ?_; (case F => k_asm); (case X => k_asm); (case l => k_is); (case a => decide); (case b => decide); (case d => rfl); k_whole)))
  k_with "subscriptTail Name Constant ref int" => (k_here; (with_reducible show wpAny _ _ (subscriptTail _ _ (Value.ref _) (Value.int _ _)) _ _ _); (with_unfolding_all refine' item_litK ?k1 ?k2 ?k3 ?k4 ?_ ?k6; (case k1 => is_list); (case k2 => decide); (case k3 => decide); (case k4 => rfl); (case k6 => with_unfolding_all rfl); k_whole))
  k_with "call builtin:list.pop" => (k_here; k_dflt ((with_reducible show wpAny _ _ (call (Value.builtin _) [Value.ref _]) _ _ _); refine' kl_pop ?F ?N ?e ?U ?z ?_; (case F => k_asm); (case N => k_asm); (case U => k_upd); (case e => rfl); (case z => kl_room)); kl_rest)
  k_with "lt" => with_reducible (first | assumption | exact ll0 (by assumption) | exact ll1 (by assumption) | exact ll2 (by assumption) | exact ll3 (by assumption) | exact ll4 (by assumption) | exact ll5 (by assumption) | exact ll6 (by assumption) | exact ll7 (by assumption) | exact ll8 (by assumption) | exact ll9 (by assumption) | exact ll10 (by assumption) | exact ll11 (by assumption) | exact ll12 (by assumption) | exact ll13 (by assumption) | exact la0 (by assumption) | exact la1 (by assumption) | exact la2 (by assumption) | exact la3 (by assumption) | exact la4 (by assumption) | exact la5 (by assumption) | exact la6 (by assumption) | exact la7 (by assumption))
  k_with "ite" => with_reducible (first | refine ite_tt ?_ | refine ite_ff ?_)
  k_with "subscriptTail Attribute Name Name ref int" => (walk_at "last subscriptTail")
  k_with "callWith ref cons nil" => (k_here; k_dflt (refine' callWith_K ?k1 ?k2 ?_; (case k1 => k_asm); (case k2 => k_is); k_whole))
  k_with "call ref" => (k_here; (with_reducible show wpAny _ _ (call (Value.ref 1268) _) _ _ _); k_dflt (refine' take_F _ _ _ _ _ _ _ _ _ _ _ _ _ _ _ _ _ _ _ _ _ _ _ _ _ _ _ _ _ _ _ _ _ ?k1 ?k2 ?k3 ?k4 ?k5 ?k6 ?k7 ?k8 ?k9 ?k10 ?k11 ?k12 ?_; (case k1 => k_asm); (case k2 => k_asm); (case k3 => k_asm); (case k4 => k_asm); (case k5 => first | assumption | k_updF); (case k6 => k_asm); (case k7 => first | exact rfl | assumption); (case k8 => assumption); (case k9 => first | with_reducible assumption | decide | omega); (case k10 => first | with_reducible assumption | decide | omega); (case k11 => ktr_room); (case k12 => ktr_units); intro k' t' x' tx' y' ty' n' h' tk' F' N' P' hk0' hk1'; (try dsimp only at N'); (try dsimp only); (try k_fold)))
  k_with "call ref" => (k_here; (with_reducible show wpAny _ _ (call (Value.ref 1275) _) _ _ _); k_dflt (refine' one_F _ _ _ _ _ _ _ _ _ _ _ _ _ _ _ _ _ _ _ _ _ _ _ _ _ _ _ _ _ _ _ _ _ _ ?k1 ?k2 ?k3 ?k4 ?k5 ?k13 ?k14 ?k6 ?k7 ?k8 ?k9 ?k10 ?k11 ?k12 ?_; (case k1 => k_asm); (case k2 => k_asm); (case k3 => k_asm); (case k4 => k_asm); (case k5 => first | assumption | k_updF); (case k13 => k_mem); (case k14 => k_ne); (case k6 => k_asm); (case k7 => first | exact rfl | assumption); (case k8 => assumption); (case k9 => exact Nat.le_of_ble_eq_true rfl); (case k10 => exact Nat.le_of_ble_eq_true rfl); (case k11 => ktr_room); (case k12 => ktr_units); intro v' x' tx' y' ty' n' h' tk' hv' F' N' P'; (try dsimp only at N'); (try dsimp only); (try k_fold)))
  refine wpAny_call ?_
  k_dflt ktr_enter
  k_steps
  rename (_ ∈ _) => hv'
  (rename News _ _ _ _ => NN)
  (rename Fr _ _ _ _ => FF)
  (rename Pool _ _ => PP)
  rcases List.mem_cons.mp hv' with rfl | hv'
  · exact ret _ _ (0) (1) (Str.ofString "0") _ _ _ _ _ _ _ _ _ _ (by unfold numTab; exact List.Mem.head _) FF (news_sub NN (sub_cons (by k_dflt k_mem) (sub_cons (by k_dflt k_mem) (sub_cons (by k_dflt k_mem) (by repeat (first | exact sub_self | refine sub_tail ?_)))))) PP
  rcases List.mem_cons.mp hv' with rfl | hv'
  · exact ret _ _ (3) (2) (Str.ofString "1.5") _ _ _ _ _ _ _ _ _ _ (by unfold numTab; refine List.Mem.tail _ ?_; exact List.Mem.head _) FF (news_sub NN (sub_cons (by k_dflt k_mem) (sub_cons (by k_dflt k_mem) (sub_cons (by k_dflt k_mem) (by repeat (first | exact sub_self | refine sub_tail ?_)))))) PP
  rcases List.mem_cons.mp hv' with rfl | hv'
  · exact ret _ _ (-1) (4) (Str.ofString "-0.25") _ _ _ _ _ _ _ _ _ _ (by unfold numTab; refine List.Mem.tail _ ?_; refine List.Mem.tail _ ?_; exact List.Mem.head _) FF (news_sub NN (sub_cons (by k_dflt k_mem) (sub_cons (by k_dflt k_mem) (sub_cons (by k_dflt k_mem) (by repeat (first | exact sub_self | refine sub_tail ?_)))))) PP
  rcases List.mem_cons.mp hv' with rfl | hv'
  · exact ret _ _ (0) (0) (Str.ofString "NaN") _ _ _ _ _ _ _ _ _ _ (by unfold numTab; refine List.Mem.tail _ ?_; refine List.Mem.tail _ ?_; refine List.Mem.tail _ ?_; exact List.Mem.head _) FF (news_sub NN (sub_cons (by k_dflt k_mem) (sub_cons (by k_dflt k_mem) (sub_cons (by k_dflt k_mem) (by repeat (first | exact sub_self | refine sub_tail ?_)))))) PP
  rcases List.mem_cons.mp hv' with rfl | hv'
  · exact ret _ _ (1) (0) (Str.ofString "Infinity") _ _ _ _ _ _ _ _ _ _ (by unfold numTab; refine List.Mem.tail _ ?_; refine List.Mem.tail _ ?_; refine List.Mem.tail _ ?_; refine List.Mem.tail _ ?_; exact List.Mem.head _) FF (news_sub NN (sub_cons (by k_dflt k_mem) (sub_cons (by k_dflt k_mem) (sub_cons (by k_dflt k_mem) (by repeat (first | exact sub_self | refine sub_tail ?_)))))) PP
  rcases List.mem_cons.mp hv' with rfl | hv'
  · exact ret _ _ (-1) (0) (Str.ofString "-Infinity") _ _ _ _ _ _ _ _ _ _ (by unfold numTab; refine List.Mem.tail _ ?_; refine List.Mem.tail _ ?_; refine List.Mem.tail _ ?_; refine List.Mem.tail _ ?_; refine List.Mem.tail _ ?_; exact List.Mem.head _) FF (news_sub NN (sub_cons (by k_dflt k_mem) (sub_cons (by k_dflt k_mem) (sub_cons (by k_dflt k_mem) (by repeat (first | exact sub_self | refine sub_tail ?_)))))) PP
  rcases List.mem_cons.mp hv' with rfl | hv'
  · exact ret _ _ (12) (1) (Str.ofString "12") _ _ _ _ _ _ _ _ _ _ (by unfold numTab; refine List.Mem.tail _ ?_; refine List.Mem.tail _ ?_; refine List.Mem.tail _ ?_; refine List.Mem.tail _ ?_; refine List.Mem.tail _ ?_; refine List.Mem.tail _ ?_; exact List.Mem.head _) FF (news_sub NN (sub_cons (by k_dflt k_mem) (sub_cons (by k_dflt k_mem) (sub_cons (by k_dflt k_mem) (by repeat (first | exact sub_self | refine sub_tail ?_)))))) PP
  rcases List.mem_cons.mp hv' with rfl | hv'
  · exact ret _ _ (1) (3) (Str.ofString "0.333333333333333") _ _ _ _ _ _ _ _ _ _ (by unfold numTab; refine List.Mem.tail _ ?_; refine List.Mem.tail _ ?_; refine List.Mem.tail _ ?_; refine List.Mem.tail _ ?_; refine List.Mem.tail _ ?_; refine List.Mem.tail _ ?_; refine List.Mem.tail _ ?_; exact List.Mem.head _) FF (news_sub NN (sub_cons (by k_dflt k_mem) (sub_cons (by k_dflt k_mem) (sub_cons (by k_dflt k_mem) (by repeat (first | exact sub_self | refine sub_tail ?_)))))) PP
  exact nomatch hv'
end
end

section -- R8
open PySem PySem.W PyProof.Rows PySem.Calls
noncomputable def intsF (f : Nat → Tok) : Nat → List Nat → List Value
  | _, [] => []
  | i, n :: r => .int (n : Int) (f i) :: intsF f (i + 1) r
theorem intsF_of {vs : List Value} {ns : List Nat} (h : IntsV vs ns) : ∀ i, ∃ f, vs = intsF f i ns := by
  induction h with
  | nil => exact fun i => ⟨fun _ => 0, rfl⟩
  | @cons vs ns n t _ ih =>
    intro i
    obtain ⟨f, hf⟩ := ih (i + 1)
    refine ⟨fun j => if j = i then t else f j, ?_⟩
    have : ∀ (l : List Nat) (k : Nat), i < k → intsF (fun j => if j = i then t else f j) k l = intsF f k l := by
      intro l
      induction l with
      | nil => intro k _; rfl
      | cons a r ih2 => intro k hk; simp only [intsF]; rw [ih2 (k + 1) (by omega), if_neg (by omega)]
    simp only [intsF]
    rw [this _ _ (Nat.lt_succ_self i), ← hf]
    simp
theorem intsF_len (f : Nat → Tok) : ∀ (l : List Nat) (i : Nat), (intsF f i l).length = l.length
  | [], _ => rfl
  | _ :: r, i => by simp [intsF, intsF_len f r]
section
variable {w : World} {p : Program} {loose : List Str} {mean : ExcName → Option Value} {mg mb : Str → Option Value}
    {dp un : Nat} {gd : Option (List Code)} {cn : Str} {cs : Scope} {a : Addr} {ccd : Value} {cl : List (Str × Addr)} {outer : List Env} {A₀ : Around} {base h₀ : Heap} {L : Addr} {m : Str → Option Value} {s : Shared}
    {Q E : Value → Shared → Prop}
inductive Heads (w : World) (T0 R : Addr) (led1 : List (Addr × Obj)) (xs : List Trip) (rows : List RowS) (row : RowS) (k : Nat) (h₀ : Heap) (L : Addr) (h : Heap) : Prop where
  | mk (dT : Addr) (kT : Tok) (nR : Nat) (ra e c a ns : Addr) (k0 k1 k2 k3 k4 k5 k6 k7 k8 tk tv : Tok) (nm ur lc pr : Value) (nk na : Nat) (f g : Nat → Tok) (q1 : (refsOf xs)[k]? = some (.ref ra)) (q2 : (refsOf xs).length = rows.length)
      (q3 : News h₀ L h ((T0, instObj 1250 dT) :: (dT, treeD w kT R) :: (R, listOf (refsOf xs).toArray nR) :: (ra, instObj 1061 e) :: (e, rowD w (.str row.kd tk) nm ur lc (.str row.vl tv) pr c a ns k0 k1 k2 k3 k4 k5 k6 k7 k8) ::
        (c, listOf (intsF f 0 row.kids).toArray nk) :: (a, listOf (intsF g 0 row.ats).toArray na) :: led1)) : Heads w T0 R led1 xs rows row k h₀ L h
theorem TreeG.heads {T0 R : Addr} {led led1 : List (Addr × Obj)} {xs : List Trip} {rows : List RowS} {keep : List (Addr × Obj)} {k : Nat} {row : RowS} {h : Heap}
    (G : TreeG w led T0 R xs rows keep) (N1 : News h₀ L h led1) (sub : ∀ q ∈ led, q ∈ led1) (hr : rows[k]? = some row) : Heads w T0 R led1 xs rows row k h₀ L h := by
  obtain ⟨dT, kT, nR, a1, a2, a3⟩ := G.top
  have hkx : k < xs.length := by
    rw [G.len]
    rcases Nat.lt_or_ge k rows.length with q | q
    · exact q
    · rw [List.getElem?_eq_none q] at hr; cases hr
  have hx : xs[k]? = some xs[k] := List.getElem?_eq_getElem hkx
  generalize hxk : xs[k] = xk at hx
  obtain ⟨e, ns, k0, k1, k2, k3, k4, k5, k6, k7, k8, tkk, tv, nm', ur', lc', pr, ksV, asV, nk, na, h1, h2, h3, h4, h5, h6⟩ := G.row k xk row hx hr
  obtain ⟨f, hf⟩ := intsF_of h4 0
  obtain ⟨g, hg⟩ := intsF_of h6 0
  subst hf
  subst hg
  exact ⟨dT, kT, nR, xk.1, e, xk.2.1, xk.2.2, ns, k0, k1, k2, k3, k4, k5, k6, k7, k8, tkk, tv, nm', ur', lc', pr, nk, na, f, g, by simp [refsOf, hx], by simp [refsOf, G.len], news_more (sub _ a1) N1 (news_more (sub _ a2) N1 (news_more (sub _ a3) N1 (news_more (sub _ h1) N1 (news_more (sub _ h2) N1 (news_more (sub _ h3) N1 (news_more (sub _ h5) N1 N1))))))⟩
set_option maxHeartbeats 0 in
theorem kind_A {T0 R : Addr} {led led1 : List (Addr × Obj)} {xs : List Trip} {rows : List RowS} {keep : List (Addr × Obj)} {k : Nat} {row : RowS} {tk : Tok}
    (B : Below A₀ base outer h₀) (F : Fr h₀ L s.heap m) (X : (KK w.params).In h₀) (G : TreeG w led T0 R xs rows keep) (N1 : News h₀ L s.heap led1) (sub : ∀ q ∈ led, q ∈ led1) (hr : rows[k]? = some row) (hz : rows.length ≤ 100)
    (T : Top p loose mean mg mb h₀) (hk : cs.kind = .function) (hd : dp + 20 ≤ 900) (hu : un + 240 ≤ 1000)
    (ret : ∀ t h' tk', Fr h₀ L h' m → News h₀ L h' led1 → Q (.str row.kd t) { s with heap := h', toks := tk' }) :
    wpAny (model PySem.Challenge.rw_xm0674_01.prog w) (ktrTop dp un gd cn cs L a ccd cl outer) (call (.ref 1170) [.ref T0, .int (k : Int) tk]) Q E s := by
  k_with_none
  k_with "memR" => (first | with_reducible assumption | exact List.Mem.head _ | (refine' List.Mem.tail _ ?_; k_extra "memR"))
  k_with "memD" => (first | exact List.Mem.head _ | assumption | (refine' List.Mem.tail _ ?_; k_extra "memD"))
  k_with "mem" => (first | k_extra "memR" | k_extra "memD")
  k_with "allR" => (first | with_reducible assumption | exact List.forall_mem_nil _ | (refine' List.forall_mem_cons.mpr ⟨?a, ?b⟩; (case a => first | with_reducible assumption | k_ne); (case b => k_extra "allR")))
  k_with "all" => (first | with_reducible assumption | exact List.forall_mem_nil _ | with_reducible (first | exact aa0 (by assumption) | exact aa1 (by assumption) | exact aa2 (by assumption) | exact aa3 (by assumption) | exact aa4 (by assumption) | exact aa5 (by assumption) | exact aa6 (by assumption) | exact aa7 (by assumption) | exact ab0 (by assumption) (by assumption) | exact ab1 (by assumption) (by assumption)) | k_extra "allR" | assumption)
  k_with "cj" => (with_reducible (first | assumption | exact cj0 (by assumption) | exact cj1 (by assumption) | exact cj2 (by assumption) | exact cj3 (by assumption) | exact cj4 (by assumption) | exact cj5 (by assumption) | exact cj6 (by assumption) | exact cj7 (by assumption) | exact cj8 (by assumption) | exact cj9 (by assumption) | exact cj10 (by assumption) | exact cj11 (by assumption) | exact cj12 (by assumption) | exact cj13 (by assumption) | exact cj14 (by assumption) | exact cj15 (by assumption) | exact cj16 (by assumption) | exact cl1 (by assumption) | exact cl2 (by assumption) | exact cl3 (by assumption) | exact cl4 (by assumption) | exact cl5 (by assumption) | exact cl6 (by assumption) | exact cl7 (by assumption) | exact cl8 (by assumption) | exact cl9 (by assumption) | exact cl10 (by assumption) | exact cl11 (by assumption) | exact cl12 (by assumption) | exact cl13 (by assumption) | exact cl14 (by assumption) | exact cl15 (by assumption) | exact cl16 (by assumption) | exact ct0t0x (by assumption) | exact ct0t1x (by assumption) | exact ct0t2x (by assumption) | exact ct1t0x (by assumption) | exact ct1t1x (by assumption) | exact ct1t2x (by assumption) | exact ct2t0x (by assumption) | exact ct2t1x (by assumption) | exact ct2t2x (by assumption) | exact ct3t0x (by assumption) | exact ct3t1x (by assumption) | exact ct3t2x (by assumption) | exact ct4t0x (by assumption) | exact ct4t1x (by assumption) | exact ct4t2x (by assumption)))
  k_with "ne" => ((refine neN ?_; (try dsimp only); first | with_reducible (first | assumption | exact ngt (by assumption) | exact nlt (by assumption) | exact Ne.symm (by assumption)) | with_reducible (first | exact al0 (by assumption) | exact ar0 (by assumption) | exact al1 (by assumption) | exact ar1 (by assumption) | exact al2 (by assumption) | exact ar2 (by assumption) | exact al3 (by assumption) | exact ar3 (by assumption) | exact al4 (by assumption) | exact ar4 (by assumption) | exact al5 (by assumption) | exact ar5 (by assumption) | exact al6 (by assumption) | exact ar6 (by assumption) | exact al7 (by assumption) | exact ar7 (by assumption) | exact al8 (by assumption) | exact ar8 (by assumption) | exact al9 (by assumption) | exact ar9 (by assumption) | exact al10 (by assumption) | exact ar10 (by assumption) | exact al11 (by assumption) | exact ar11 (by assumption) | exact al12 (by assumption) | exact ar12 (by assumption) | exact al13 (by assumption) | exact ar13 (by assumption) | exact al14 (by assumption) | exact ar14 (by assumption) | exact al15 (by assumption) | exact ar15 (by assumption)) | with_reducible (first | exact at0 (by assumption) (by assumption) | exact au0 (by assumption) (by assumption) | exact at1 (by assumption) (by assumption) | exact au1 (by assumption) (by assumption) | exact at2 (by assumption) (by assumption) | exact au2 (by assumption) (by assumption) | exact at3 (by assumption) (by assumption) | exact au3 (by assumption) (by assumption) | exact at4 (by assumption) (by assumption) | exact au4 (by assumption) (by assumption) | exact at5 (by assumption) (by assumption) | exact au5 (by assumption) (by assumption) | exact at6 (by assumption) (by assumption) | exact au6 (by assumption) (by assumption) | exact at7 (by assumption) (by assumption) | exact au7 (by assumption) (by assumption)) | with_reducible (first | exact av0 (by assumption) | exact avs0 (by assumption) | exact av1 (by assumption) | exact avs1 (by assumption) | exact av2 (by assumption) | exact avs2 (by assumption) | exact av3 (by assumption) | exact avs3 (by assumption) | exact av4 (by assumption) | exact avs4 (by assumption) | exact av5 (by assumption) | exact avs5 (by assumption) | exact aw0 (by assumption) | exact aws0 (by assumption) | exact aw1 (by assumption) | exact aws1 (by assumption) | exact aw2 (by assumption) | exact aws2 (by assumption) | exact aw3 (by assumption) | exact aws3 (by assumption) | exact aw4 (by assumption) | exact aws4 (by assumption) | exact aw5 (by assumption) | exact aws5 (by assumption)) | (refine nlt ?_; k_data) | (refine ngt ?_; k_data) | k_data | (refine Ne.symm ?_; k_data) | (refine ngt1 ?_; k_data) | (refine ngt2 ?_; k_data) | (refine nlt1 ?_; k_data) | (refine nlt2 ?_; k_data) | omega))
  k_with "room" => (first | exact room_le2 (by assumption) (by exact rfl) | exact room_lt2 (by assumption) (by exact rfl) | exact room_le1 (by assumption) (by exact rfl) | exact room_lt1 (by assumption) (by exact rfl) | exact room_le3 (by assumption) (by exact rfl) | exact room_lt3 (by assumption) (by exact rfl) | exact room_ltF (by assumption) (by exact rfl) (by exact rfl))
  k_with "units" => (first | exact unit_le2 (by assumption) (by exact rfl) | exact unit_lt2 (by assumption) (by exact rfl) | exact unit_le1 (by assumption) (by exact rfl) | exact unit_lt1 (by assumption) (by exact rfl) | exact unit_le3 (by assumption) (by exact rfl) | exact unit_lt3 (by assumption) (by exact rfl) | exact unit_ltE (by assumption) (by exact rfl) (by exact rfl) | exact unit_ltF (by assumption) (by exact rfl) (by exact rfl))
  k_with "callWith ref nil nil" => (k_here; k_dflt (refine' callWith_K ?k1 ?k2 ?_; (case k1 => k_asm); (case k2 => k_is); k_whole))
  k_with "eval Name" => (k_here; k_dflt (refine' nameX_L ?F ?v ?_ ?a ?b; (case b => exact rfl); (case F => k_asm); (case a => rfl); (case v => rfl); k_whole))
  k_with "eval Name" => (k_here; k_dflt (refine' nameX_K ?F ?X ?T ?e ?_ ?a ?b; (case b => exact rfl); (case F => k_asm); (case X => k_asm); (case T => k_asm); (case a => rfl); (case e => k_is); k_whole))
  k_with "eval Name" => (k_here; k_dflt (refine' nameX_B ?F ?X ?T ?e ?v ?n ?_ ?a ?b; (case b => exact rfl); (case F => k_asm); (case X => k_asm); (case T => k_asm); (case a => rfl); (case e => k_is); (case v => boot_fast); (case n => decide); k_whole))
  k_with "subscriptTail Name Constant ref int" => (k_here; (with_reducible show wpAny _ _ (subscriptTail _ _ (Value.ref _) (Value.int _ _)) _ _ _); k_dflt (first | (refine' item_tupleT ?t ?a ?b ?c ?d ?_; (case t => first | with_reducible assumption | exact News.isTup (by k_asm) (by k_mem)); (case a => decide); (case b => decide); (case c => rfl); (case d => rfl); k_whole) | (refine' topTup_K ?F ?X ?l ?a ?b ?c ?d ?_; (case F => k_asm); (case X => k_asm); (case l => k_is); (case a => decide); (case b => decide); (case c => rfl); (case d => rfl)) | (refine' topList_K ?F ?X ?l ?a ?b ?d ?_; (case F => k_asm); (case X => k_asm); (case l => k_is); (case a => decide); (case b => decide); (case d => rfl); k_whole)))
  k_with "subscriptTail Name Constant ref int" => (k_here; (with_reducible show wpAny _ _ (subscriptTail _ _ (Value.ref _) (Value.int _ _)) _ _ _); (with_unfolding_all refine' item_litK ?k1 ?k2 ?k3 ?k4 ?_ ?k6; (case k1 => is_list); (case k2 => decide); (case k3 => decide); (case k4 => rfl); (case k6 => with_unfolding_all rfl); k_whole))
  k_with "call builtin:list.pop" => (k_here; k_dflt ((with_reducible show wpAny _ _ (call (Value.builtin _) [Value.ref _]) _ _ _); refine' kl_pop ?F ?N ?e ?U ?z ?_; (case F => k_asm); (case N => k_asm); (case U => k_upd); (case e => rfl); (case z => kl_room)); kl_rest)
  k_with "lt" => with_reducible (first | assumption | exact ll0 (by assumption) | exact ll1 (by assumption) | exact ll2 (by assumption) | exact ll3 (by assumption) | exact ll4 (by assumption) | exact ll5 (by assumption) | exact ll6 (by assumption) | exact ll7 (by assumption) | exact ll8 (by assumption) | exact ll9 (by assumption) | exact ll10 (by assumption) | exact ll11 (by assumption) | exact ll12 (by assumption) | exact ll13 (by assumption) | exact la0 (by assumption) | exact la1 (by assumption) | exact la2 (by assumption) | exact la3 (by assumption) | exact la4 (by assumption) | exact la5 (by assumption) | exact la6 (by assumption) | exact la7 (by assumption))
  k_with "keeplt" => skip
  k_with "ite" => with_reducible (first | refine ite_tt ?_ | refine ite_ff ?_)
  k_with "subscriptTail Attribute Name Name ref int" => (walk_at "last subscriptTail")
  k_with "callWith ref cons nil" => (k_here; k_dflt (refine' callWith_K ?k1 ?k2 ?_; (case k1 => k_asm); (case k2 => k_is); k_whole))
  k_with "call ref" => (k_here; (with_reducible show wpAny _ _ (call (Value.ref 1093) _) _ _ _); k_dflt (refine' row_F _ _ _ _ _ _ _ _ _ _ _ _ _ _ _ _ _ _ _ _ _ _ _ _ _ _ _ _ _ _ _ _ _ ?k1 ?k2 ?k3 ?k4 ?k5 ?k6 ?k7 ?k8 ?k9 ?k10 ?k11 ?k12 ?k13 ?_; (case k1 => k_asm); (case k2 => k_asm); (case k3 => k_asm); (case k4 => k_asm); (case k5 => k_mem); (case k6 => k_mem); (case k7 => k_mem); (case k8 => k_asm); (case k9 => first | exact rfl | assumption); (case k11 => assumption); (case k10 => omega); (case k12 => ktr_room); (case k13 => ktr_units); intro h' tk' F' N'; (try dsimp only); (try k_fold)))
  obtain ⟨dT, kT, nR, ra, e, c, a', ns, k0, k1, k2, k3, k4, k5, k6, k7, k8, tkk, tv, nm, ur, lc, pr, nk, na, f, g, hv, hl, N⟩ := G.heads N1 sub hr
  clear N1
  refine wpAny_call ?_
  k_dflt ktr_enter
  k_steps
  exact ret _ _ _ (by assumption) (news_tail (news_tail (news_tail (news_tail (news_tail (news_tail (news_tail (by assumption))))))))
set_option maxHeartbeats 0 in
theorem value_A {T0 R : Addr} {led led1 : List (Addr × Obj)} {xs : List Trip} {rows : List RowS} {keep : List (Addr × Obj)} {k : Nat} {row : RowS} {tk : Tok}
    (B : Below A₀ base outer h₀) (F : Fr h₀ L s.heap m) (X : (KK w.params).In h₀) (G : TreeG w led T0 R xs rows keep) (N1 : News h₀ L s.heap led1) (sub : ∀ q ∈ led, q ∈ led1) (hr : rows[k]? = some row) (hz : rows.length ≤ 100)
    (T : Top p loose mean mg mb h₀) (hk : cs.kind = .function) (hd : dp + 20 ≤ 900) (hu : un + 240 ≤ 1000)
    (ret : ∀ t h' tk', Fr h₀ L h' m → News h₀ L h' led1 → Q (.str row.vl t) { s with heap := h', toks := tk' }) :
    wpAny (model PySem.Challenge.rw_xm0674_01.prog w) (ktrTop dp un gd cn cs L a ccd cl outer) (call (.ref 1198) [.ref T0, .int (k : Int) tk]) Q E s := by
  k_with_none
  k_with "memR" => (first | with_reducible assumption | exact List.Mem.head _ | (refine' List.Mem.tail _ ?_; k_extra "memR"))
  k_with "memD" => (first | exact List.Mem.head _ | assumption | (refine' List.Mem.tail _ ?_; k_extra "memD"))
  k_with "mem" => (first | k_extra "memR" | k_extra "memD")
  k_with "allR" => (first | with_reducible assumption | exact List.forall_mem_nil _ | (refine' List.forall_mem_cons.mpr ⟨?a, ?b⟩; (case a => first | with_reducible assumption | k_ne); (case b => k_extra "allR")))
  k_with "all" => (first | with_reducible assumption | exact List.forall_mem_nil _ | with_reducible (first | exact aa0 (by assumption) | exact aa1 (by assumption) | exact aa2 (by assumption) | exact aa3 (by assumption) | exact aa4 (by assumption) | exact aa5 (by assumption) | exact aa6 (by assumption) | exact aa7 (by assumption) | exact ab0 (by assumption) (by assumption) | exact ab1 (by assumption) (by assumption)) | k_extra "allR" | assumption)
  k_with "cj" => (with_reducible (first | assumption | exact cj0 (by assumption) | exact cj1 (by assumption) | exact cj2 (by assumption) | exact cj3 (by assumption) | exact cj4 (by assumption) | exact cj5 (by assumption) | exact cj6 (by assumption) | exact cj7 (by assumption) | exact cj8 (by assumption) | exact cj9 (by assumption) | exact cj10 (by assumption) | exact cj11 (by assumption) | exact cj12 (by assumption) | exact cj13 (by assumption) | exact cj14 (by assumption) | exact cj15 (by assumption) | exact cj16 (by assumption) | exact cl1 (by assumption) | exact cl2 (by assumption) | exact cl3 (by assumption) | exact cl4 (by assumption) | exact cl5 (by assumption) | exact cl6 (by assumption) | exact cl7 (by assumption) | exact cl8 (by assumption) | exact cl9 (by assumption) | exact cl10 (by assumption) | exact cl11 (by assumption) | exact cl12 (by assumption) | exact cl13 (by assumption) | exact cl14 (by assumption) | exact cl15 (by assumption) | exact cl16 (by assumption) | exact ct0t0x (by assumption) | exact ct0t1x (by assumption) | exact ct0t2x (by assumption) | exact ct1t0x (by assumption) | exact ct1t1x (by assumption) | exact ct1t2x (by assumption) | exact ct2t0x (by assumption) | exact ct2t1x (by assumption) | exact ct2t2x (by assumption) | exact ct3t0x (by assumption) | exact ct3t1x (by assumption) | exact ct3t2x (by assumption) | exact ct4t0x (by assumption) | exact ct4t1x (by assumption) | exact ct4t2x (by assumption)))
  k_with "ne" => ((refine neN ?_; (try dsimp only); first | with_reducible (first | assumption | exact ngt (by assumption) | exact nlt (by assumption) | exact Ne.symm (by assumption)) | with_reducible (first | exact al0 (by assumption) | exact ar0 (by assumption) | exact al1 (by assumption) | exact ar1 (by assumption) | exact al2 (by assumption) | exact ar2 (by assumption) | exact al3 (by assumption) | exact ar3 (by assumption) | exact al4 (by assumption) | exact ar4 (by assumption) | exact al5 (by assumption) | exact ar5 (by assumption) | exact al6 (by assumption) | exact ar6 (by assumption) | exact al7 (by assumption) | exact ar7 (by assumption) | exact al8 (by assumption) | exact ar8 (by assumption) | exact al9 (by assumption) | exact ar9 (by assumption) | exact al10 (by assumption) | exact ar10 (by assumption) | exact al11 (by assumption) | exact ar11 (by assumption) | exact al12 (by assumption) | exact ar12 (by assumption) | exact al13 (by assumption) | exact ar13 (by assumption) | exact al14 (by assumption) | exact ar14 (by assumption) | exact al15 (by assumption) | exact ar15 (by assumption)) | with_reducible (first | exact at0 (by assumption) (by assumption) | exact au0 (by assumption) (by assumption) | exact at1 (by assumption) (by assumption) | exact au1 (by assumption) (by assumption) | exact at2 (by assumption) (by assumption) | exact au2 (by assumption) (by assumption) | exact at3 (by assumption) (by assumption) | exact au3 (by assumption) (by assumption) | exact at4 (by assumption) (by assumption) | exact au4 (by assumption) (by assumption) | exact at5 (by assumption) (by assumption) | exact au5 (by assumption) (by assumption) | exact at6 (by assumption) (by assumption) | exact au6 (by assumption) (by assumption) | exact at7 (by assumption) (by assumption) | exact au7 (by assumption) (by assumption)) | with_reducible (first | exact av0 (by assumption) | exact avs0 (by assumption) | exact av1 (by assumption) | exact avs1 (by assumption) | exact av2 (by assumption) | exact avs2 (by assumption) | exact av3 (by assumption) | exact avs3 (by assumption) | exact av4 (by assumption) | exact avs4 (by assumption) | exact av5 (by assumption) | exact avs5 (by assumption) | exact aw0 (by assumption) | exact aws0 (by assumption) | exact aw1 (by assumption) | exact aws1 (by assumption) | exact aw2 (by assumption) | exact aws2 (by assumption) | exact aw3 (by assumption) | exact aws3 (by assumption) | exact aw4 (by assumption) | exact aws4 (by assumption) | exact aw5 (by assumption) | exact aws5 (by assumption)) | (refine nlt ?_; k_data) | (refine ngt ?_; k_data) | k_data | (refine Ne.symm ?_; k_data) | (refine ngt1 ?_; k_data) | (refine ngt2 ?_; k_data) | (refine nlt1 ?_; k_data) | (refine nlt2 ?_; k_data) | omega))
  k_with "room" => (first | exact room_le2 (by assumption) (by exact rfl) | exact room_lt2 (by assumption) (by exact rfl) | exact room_le1 (by assumption) (by exact rfl) | exact room_lt1 (by assumption) (by exact rfl) | exact room_le3 (by assumption) (by exact rfl) | exact room_lt3 (by assumption) (by exact rfl) | exact room_ltF (by assumption) (by exact rfl) (by exact rfl))
  k_with "units" => (first | exact unit_le2 (by assumption) (by exact rfl) | exact unit_lt2 (by assumption) (by exact rfl) | exact unit_le1 (by assumption) (by exact rfl) | exact unit_lt1 (by assumption) (by exact rfl) | exact unit_le3 (by assumption) (by exact rfl) | exact unit_lt3 (by assumption) (by exact rfl) | exact unit_ltE (by assumption) (by exact rfl) (by exact rfl) | exact unit_ltF (by assumption) (by exact rfl) (by exact rfl))
  k_with "callWith ref nil nil" => (k_here; k_dflt (refine' callWith_K ?k1 ?k2 ?_; (case k1 => k_asm); (case k2 => k_is); k_whole))
  k_with "eval Name" => (k_here; k_dflt (refine' nameX_L ?F ?v ?_ ?a ?b; (case b => exact rfl); (case F => k_asm); (case a => rfl); (case v => rfl); k_whole))
  k_with "eval Name" => (k_here; k_dflt (refine' nameX_K ?F ?X ?T ?e ?_ ?a ?b; (case b => exact rfl); (case F => k_asm); (case X => k_asm); (case T => k_asm); (case a => rfl); (case e => k_is); k_whole))
  k_with "eval Name" => (k_here; k_dflt (refine' nameX_B ?F ?X ?T ?e ?v ?n ?_ ?a ?b; (case b => exact rfl); (case F => k_asm); (case X => k_asm); (case T => k_asm); (case a => rfl); (case e => k_is); (case v => boot_fast); (case n => decide); k_whole))
  k_with "subscriptTail Name Constant ref int" => (k_here; (with_reducible show wpAny _ _ (subscriptTail _ _ (Value.ref _) (Value.int _ _)) _ _ _); k_dflt (first | (refine' item_tupleT ?t ?a ?b ?c ?d ?_; (case t => first | with_reducible assumption | exact News.isTup (by k_asm) (by k_mem)); (case a => decide); (case b => decide); (case c => rfl); (case d => rfl); k_whole) | (refine' topTup_K ?F ?X ?l ?a ?b ?c ?d ?_; (case F => k_asm); (case X => k_asm); (case l => k_is); (case a => decide); (case b => decide); (case c => rfl); (case d => rfl)) | (refine' topList_K ?F ?X ?l ?a ?b ?d ?_; (case F => k_asm); (case X => k_asm); (case l => k_is); (case a => decide); (case b => decide); (case d => rfl); k_whole)))
  k_with "subscriptTail Name Constant ref int" => (k_here; (with_reducible show wpAny _ _ (subscriptTail _ _ (Value.ref _) (Value.int _ _)) _ _ _); (with_unfolding_all refine' item_litK ?k1 ?k2 ?k3 ?k4 ?_ ?k6; (case k1 => is_list); (case k2 => decide); (case k3 => decide); (case k4 => rfl); (case k6 => with_unfolding_all rfl); k_whole))
  k_with "call builtin:list.pop" => (k_here; k_dflt ((with_reducible show wpAny _ _ (call (Value.builtin _) [Value.ref _]) _ _ _); refine' kl_pop ?F ?N ?e ?U ?z ?_; (case F => k_asm); (case N => k_asm); (case U => k_upd); (case e => rfl); (case z => kl_room)); kl_rest)
  k_with "lt" => with_reducible (first | assumption | exact ll0 (by assumption) | exact ll1 (by assumption) | exact ll2 (by assumption) | exact ll3 (by assumption) | exact ll4 (by assumption) | exact ll5 (by assumption) | exact ll6 (by assumption) | exact ll7 (by assumption) | exact ll8 (by assumption) | exact ll9 (by assumption) | exact ll10 (by assumption) | exact ll11 (by assumption) | exact ll12 (by assumption) | exact ll13 (by assumption) | exact la0 (by assumption) | exact la1 (by assumption) | exact la2 (by assumption) | exact la3 (by assumption) | exact la4 (by assumption) | exact la5 (by assumption) | exact la6 (by assumption) | exact la7 (by assumption))
  k_with "keeplt" => skip
  k_with "ite" => with_reducible (first | refine ite_tt ?_ | refine ite_ff ?_)
  k_with "subscriptTail Attribute Name Name ref int" => (walk_at "last subscriptTail")
  k_with "callWith ref cons nil" => (k_here; k_dflt (refine' callWith_K ?k1 ?k2 ?_; (case k1 => k_asm); (case k2 => k_is); k_whole))
  k_with "call ref" => (k_here; (with_reducible show wpAny _ _ (call (Value.ref 1093) _) _ _ _); k_dflt (refine' row_F _ _ _ _ _ _ _ _ _ _ _ _ _ _ _ _ _ _ _ _ _ _ _ _ _ _ _ _ _ _ _ _ _ ?k1 ?k2 ?k3 ?k4 ?k5 ?k6 ?k7 ?k8 ?k9 ?k10 ?k11 ?k12 ?k13 ?_; (case k1 => k_asm); (case k2 => k_asm); (case k3 => k_asm); (case k4 => k_asm); (case k5 => k_mem); (case k6 => k_mem); (case k7 => k_mem); (case k8 => k_asm); (case k9 => first | exact rfl | assumption); (case k11 => assumption); (case k10 => omega); (case k12 => ktr_room); (case k13 => ktr_units); intro h' tk' F' N'; (try dsimp only); (try k_fold)))
  obtain ⟨dT, kT, nR, ra, e, c, a', ns, k0, k1, k2, k3, k4, k5, k6, k7, k8, tkk, tv, nm, ur, lc, pr, nk, na, f, g, hv, hl, N⟩ := G.heads N1 sub hr
  clear N1
  refine wpAny_call ?_
  k_dflt ktr_enter
  k_steps
  exact ret _ _ _ (by assumption) (news_tail (news_tail (news_tail (news_tail (news_tail (news_tail (news_tail (by assumption))))))))
set_option maxHeartbeats 0 in
theorem children_A {T0 R : Addr} {led led1 : List (Addr × Obj)} {xs : List Trip} {rows : List RowS} {keep : List (Addr × Obj)} {k : Nat} {row : RowS} {tk : Tok}
    (B : Below A₀ base outer h₀) (F : Fr h₀ L s.heap m) (X : (KK w.params).In h₀) (G : TreeG w led T0 R xs rows keep) (N1 : News h₀ L s.heap led1) (sub : ∀ q ∈ led, q ∈ led1) (hr : rows[k]? = some row) (hz : rows.length ≤ 100) (hzk : row.kids.length ≤ 100)
    (T : Top p loose mean mg mb h₀) (hk : cs.kind = .function) (hd : dp + 20 ≤ 900) (hu : un + 240 ≤ 1000)
    (ret : ∀ f C n h' tk', Fr h₀ L h' m → News h₀ L h' ((C, listOf (intsF f 0 row.kids).toArray n) :: led1) → AllLt C led1 → Q (.ref C) { s with heap := h', toks := tk' }) :
    wpAny (model PySem.Challenge.rw_xm0674_01.prog w) (ktrTop dp un gd cn cs L a ccd cl outer) (call (.ref 1212) [.ref T0, .int (k : Int) tk]) Q E s := by
  k_with_none
  k_with "memR" => (first | with_reducible assumption | exact List.Mem.head _ | (refine' List.Mem.tail _ ?_; k_extra "memR"))
  k_with "memD" => (first | exact List.Mem.head _ | assumption | (refine' List.Mem.tail _ ?_; k_extra "memD"))
  k_with "mem" => (first | k_extra "memR" | k_extra "memD")
  k_with "allR" => (first | with_reducible assumption | exact List.forall_mem_nil _ | (refine' List.forall_mem_cons.mpr ⟨?a, ?b⟩; (case a => first | with_reducible assumption | k_ne); (case b => k_extra "allR")))
  k_with "all" => (first | with_reducible assumption | exact List.forall_mem_nil _ | with_reducible (first | exact aa0 (by assumption) | exact aa1 (by assumption) | exact aa2 (by assumption) | exact aa3 (by assumption) | exact aa4 (by assumption) | exact aa5 (by assumption) | exact aa6 (by assumption) | exact aa7 (by assumption) | exact ab0 (by assumption) (by assumption) | exact ab1 (by assumption) (by assumption)) | k_extra "allR" | assumption)
  k_with "cj" => (with_reducible (first | assumption | exact cj0 (by assumption) | exact cj1 (by assumption) | exact cj2 (by assumption) | exact cj3 (by assumption) | exact cj4 (by assumption) | exact cj5 (by assumption) | exact cj6 (by assumption) | exact cj7 (by assumption) | exact cj8 (by assumption) | exact cj9 (by assumption) | exact cj10 (by assumption) | exact cj11 (by assumption) | exact cj12 (by assumption) | exact cj13 (by assumption) | exact cj14 (by assumption) | exact cj15 (by assumption) | exact cj16 (by assumption) | exact cl1 (by assumption) | exact cl2 (by assumption) | exact cl3 (by assumption) | exact cl4 (by assumption) | exact cl5 (by assumption) | exact cl6 (by assumption) | exact cl7 (by assumption) | exact cl8 (by assumption) | exact cl9 (by assumption) | exact cl10 (by assumption) | exact cl11 (by assumption) | exact cl12 (by assumption) | exact cl13 (by assumption) | exact cl14 (by assumption) | exact cl15 (by assumption) | exact cl16 (by assumption) | exact ct0t0x (by assumption) | exact ct0t1x (by assumption) | exact ct0t2x (by assumption) | exact ct1t0x (by assumption) | exact ct1t1x (by assumption) | exact ct1t2x (by assumption) | exact ct2t0x (by assumption) | exact ct2t1x (by assumption) | exact ct2t2x (by assumption) | exact ct3t0x (by assumption) | exact ct3t1x (by assumption) | exact ct3t2x (by assumption) | exact ct4t0x (by assumption) | exact ct4t1x (by assumption) | exact ct4t2x (by assumption)))
  k_with "ne" => ((refine neN ?_; (try dsimp only); first | with_reducible (first | assumption | exact ngt (by assumption) | exact nlt (by assumption) | exact Ne.symm (by assumption)) | with_reducible (first | exact al0 (by assumption) | exact ar0 (by assumption) | exact al1 (by assumption) | exact ar1 (by assumption) | exact al2 (by assumption) | exact ar2 (by assumption) | exact al3 (by assumption) | exact ar3 (by assumption) | exact al4 (by assumption) | exact ar4 (by assumption) | exact al5 (by assumption) | exact ar5 (by assumption) | exact al6 (by assumption) | exact ar6 (by assumption) | exact al7 (by assumption) | exact ar7 (by assumption) | exact al8 (by assumption) | exact ar8 (by assumption) | exact al9 (by assumption) | exact ar9 (by assumption) | exact al10 (by assumption) | exact ar10 (by assumption) | exact al11 (by assumption) | exact ar11 (by assumption) | exact al12 (by assumption) | exact ar12 (by assumption) | exact al13 (by assumption) | exact ar13 (by assumption) | exact al14 (by assumption) | exact ar14 (by assumption) | exact al15 (by assumption) | exact ar15 (by assumption)) | with_reducible (first | exact at0 (by assumption) (by assumption) | exact au0 (by assumption) (by assumption) | exact at1 (by assumption) (by assumption) | exact au1 (by assumption) (by assumption) | exact at2 (by assumption) (by assumption) | exact au2 (by assumption) (by assumption) | exact at3 (by assumption) (by assumption) | exact au3 (by assumption) (by assumption) | exact at4 (by assumption) (by assumption) | exact au4 (by assumption) (by assumption) | exact at5 (by assumption) (by assumption) | exact au5 (by assumption) (by assumption) | exact at6 (by assumption) (by assumption) | exact au6 (by assumption) (by assumption) | exact at7 (by assumption) (by assumption) | exact au7 (by assumption) (by assumption)) | with_reducible (first | exact av0 (by assumption) | exact avs0 (by assumption) | exact av1 (by assumption) | exact avs1 (by assumption) | exact av2 (by assumption) | exact avs2 (by assumption) | exact av3 (by assumption) | exact avs3 (by assumption) | exact av4 (by assumption) | exact avs4 (by assumption) | exact av5 (by assumption) | exact avs5 (by assumption) | exact aw0 (by assumption) | exact aws0 (by assumption) | exact aw1 (by assumption) | exact aws1 (by assumption) | exact aw2 (by assumption) | exact aws2 (by assumption) | exact aw3 (by assumption) | exact aws3 (by assumption) | exact aw4 (by assumption) | exact aws4 (by assumption) | exact aw5 (by assumption) | exact aws5 (by assumption)) | (refine nlt ?_; k_data) | (refine ngt ?_; k_data) | k_data | (refine Ne.symm ?_; k_data) | (refine ngt1 ?_; k_data) | (refine ngt2 ?_; k_data) | (refine nlt1 ?_; k_data) | (refine nlt2 ?_; k_data) | omega))
  k_with "room" => (first | exact room_le2 (by assumption) (by exact rfl) | exact room_lt2 (by assumption) (by exact rfl) | exact room_le1 (by assumption) (by exact rfl) | exact room_lt1 (by assumption) (by exact rfl) | exact room_le3 (by assumption) (by exact rfl) | exact room_lt3 (by assumption) (by exact rfl) | exact room_ltF (by assumption) (by exact rfl) (by exact rfl))
  k_with "units" => (first | exact unit_le2 (by assumption) (by exact rfl) | exact unit_lt2 (by assumption) (by exact rfl) | exact unit_le1 (by assumption) (by exact rfl) | exact unit_lt1 (by assumption) (by exact rfl) | exact unit_le3 (by assumption) (by exact rfl) | exact unit_lt3 (by assumption) (by exact rfl) | exact unit_ltE (by assumption) (by exact rfl) (by exact rfl) | exact unit_ltF (by assumption) (by exact rfl) (by exact rfl))
  k_with "callWith ref nil nil" => (k_here; k_dflt (refine' callWith_K ?k1 ?k2 ?_; (case k1 => k_asm); (case k2 => k_is); k_whole))
  k_with "eval Name" => (k_here; k_dflt (refine' nameX_L ?F ?v ?_ ?a ?b; (case b => exact rfl); (case F => k_asm); (case a => rfl); (case v => rfl); k_whole))
  k_with "eval Name" => (k_here; k_dflt (refine' nameX_K ?F ?X ?T ?e ?_ ?a ?b; (case b => exact rfl); (case F => k_asm); (case X => k_asm); (case T => k_asm); (case a => rfl); (case e => k_is); k_whole))
  k_with "eval Name" => (k_here; k_dflt (refine' nameX_B ?F ?X ?T ?e ?v ?n ?_ ?a ?b; (case b => exact rfl); (case F => k_asm); (case X => k_asm); (case T => k_asm); (case a => rfl); (case e => k_is); (case v => boot_fast); (case n => decide); k_whole))
  k_with "subscriptTail Name Constant ref int" => (k_here; (with_reducible show wpAny _ _ (subscriptTail _ _ (Value.ref _) (Value.int _ _)) _ _ _); k_dflt (first | (refine' item_tupleT ?t ?a ?b ?c ?d ?_; (case t => first | with_reducible assumption | exact News.isTup (by k_asm) (by k_mem)); (case a => decide); (case b => decide); (case c => rfl); (case d => rfl); k_whole) | (refine' topTup_K ?F ?X ?l ?a ?b ?c ?d ?_; (case F => k_asm); (case X => k_asm); (case l => k_is); (case a => decide); (case b => decide); (case c => rfl); (case d => rfl)) | (refine' topList_K ?F ?X ?l ?a ?b ?d ?_; (case F => k_asm); (case X => k_asm); (case l => k_is); (case a => decide); (case b => decide); (case d => rfl); k_whole)))
  k_with "subscriptTail Name Constant ref int" => (k_here; (with_reducible show wpAny _ _ (subscriptTail _ _ (Value.ref _) (Value.int _ _)) _ _ _); (with_unfolding_all refine' item_litK ?k1 ?k2 ?k3 ?k4 ?_ ?k6; (case k1 => is_list); (case k2 => decide); (case k3 => decide); (case k4 => rfl); (case k6 => with_unfolding_all rfl); k_whole))
  k_with "call builtin:list.pop" => (k_here; k_dflt ((with_reducible show wpAny _ _ (call (Value.builtin _) [Value.ref _]) _ _ _); refine' kl_pop ?F ?N ?e ?U ?z ?_; (case F => k_asm); (case N => k_asm); (case U => k_upd); (case e => rfl); (case z => kl_room)); kl_rest)
  k_with "lt" => with_reducible (first | assumption | exact ll0 (by assumption) | exact ll1 (by assumption) | exact ll2 (by assumption) | exact ll3 (by assumption) | exact ll4 (by assumption) | exact ll5 (by assumption) | exact ll6 (by assumption) | exact ll7 (by assumption) | exact ll8 (by assumption) | exact ll9 (by assumption) | exact ll10 (by assumption) | exact ll11 (by assumption) | exact ll12 (by assumption) | exact ll13 (by assumption) | exact la0 (by assumption) | exact la1 (by assumption) | exact la2 (by assumption) | exact la3 (by assumption) | exact la4 (by assumption) | exact la5 (by assumption) | exact la6 (by assumption) | exact la7 (by assumption))
  k_with "keeplt" => skip
  k_with "ite" => with_reducible (first | refine ite_tt ?_ | refine ite_ff ?_)
  k_with "subscriptTail Attribute Name Name ref int" => (walk_at "last subscriptTail")
  k_with "callWith ref cons nil" => (k_here; k_dflt (refine' callWith_K ?k1 ?k2 ?_; (case k1 => k_asm); (case k2 => k_is); k_whole))
  k_with "call ref" => (k_here; (with_reducible show wpAny _ _ (call (Value.ref 1093) _) _ _ _); k_dflt (refine' row_F _ _ _ _ _ _ _ _ _ _ _ _ _ _ _ _ _ _ _ _ _ _ _ _ _ _ _ _ _ _ _ _ _ ?k1 ?k2 ?k3 ?k4 ?k5 ?k6 ?k7 ?k8 ?k9 ?k10 ?k11 ?k12 ?k13 ?_; (case k1 => k_asm); (case k2 => k_asm); (case k3 => k_asm); (case k4 => k_asm); (case k5 => k_mem); (case k6 => k_mem); (case k7 => k_mem); (case k8 => k_asm); (case k9 => first | exact rfl | assumption); (case k11 => assumption); (case k10 => omega); (case k12 => ktr_room); (case k13 => ktr_units); intro h' tk' F' N'; (try dsimp only); (try k_fold)))
  obtain ⟨dT, kT, nR, ra, e, c, a', ns, k0, k1, k2, k3, k4, k5, k6, k7, k8, tkk, tv, nm, ur, lc, pr, nk, na, f, g, hv, hl, N⟩ := G.heads N1 sub hr
  clear N1
  refine wpAny_call ?_
  k_dflt ktr_enter
  k_steps
  k_dflt (refine' list_copyK ?k1 ?k2 ?k3 ?_ ?z; (case k1 => k_asm); (case k2 => k_asm); (case k3 => exact News.isList (by k_asm) (by k_mem)); (case z => (rw [PySem.sizeLine_eq]; simp only [List.size_toArray, intsF_len]; omega)))
  intro D' c' h' F' N' l1'
  (try dsimp only)
  k_steps
  (rename News h₀ _ _ _ => NN)
  refine ret f _ c' _ _ (by assumption) (fun q hq => ?_) (allLt_of fun q hq => l1' q (by simp [hq]))
  rcases List.mem_cons.mp hq with rfl | hq
  · exact NN _ (.head _)
  · exact NN _ (by simp [hq])
end
end

section -- R9
open PySem PySem.W PyProof.Rows PySem.Calls
theorem and_r2 {x y z : Prop} (h : x ∧ y ∧ z) : z := h.2.2
section
variable {w : World} {p : Program} {loose : List Str} {mean : ExcName → Option Value} {mg mb : Str → Option Value}
    {dp un : Nat} {gd : Option (List Code)} {cn : Str} {cs : Scope} {a : Addr} {ccd : Value} {cl : List (Str × Addr)} {outer : List Env} {A₀ : Around} {base h₀ : Heap} {L : Addr} {m : Str → Option Value} {s : Shared}
    {Q E : Value → Shared → Prop}
set_option maxHeartbeats 0 in
theorem beneath4_A {T0 R : Addr} {led : List (Addr × Obj)} {xs : List Trip} {keep : List (Addr × Obj)} {tk : Tok}
    (B : Below A₀ base outer h₀) (F : Fr h₀ L s.heap m) (X : (KK w.params).In h₀) (G : TreeG w led T0 R xs rowsE keep) (N : News h₀ L s.heap led)
    (T : Top p loose mean mg mb h₀) (hk : cs.kind = .function) (hd : dp + 30 ≤ 900) (hu : un + 300 ≤ 1000)
    (ret : ∀ C n (t5 : Tok) h' tk', Fr h₀ L h' m → News h₀ L h' ((C, listOf #[.int ((5 : Nat) : Int) t5] n) :: led) → AllLt C led → Q (.ref C) { s with heap := h', toks := tk' }) :
    wpAny (model PySem.Challenge.rw_xm0674_01.prog w) (ktrTop dp un gd cn cs L a ccd cl outer) (call (.ref 197) [.ref T0, .int ((4 : Nat) : Int) tk]) Q E s := by
  k_with_none
  k_with "memR" => (first | with_reducible assumption | exact List.Mem.head _ | (refine' List.Mem.tail _ ?_; k_extra "memR"))
  k_with "memD" => (first | exact List.Mem.head _ | assumption | (refine' List.Mem.tail _ ?_; k_extra "memD"))
  k_with "mem" => (first | k_extra "memR" | k_extra "memD")
  k_with "allR" => (first | assumption | exact List.forall_mem_nil _ | (refine' List.forall_mem_cons.mpr ⟨?a, ?b⟩; (case a => first | with_reducible assumption | k_ne); (case b => k_extra "allR")))
  k_with "all" => (k_extra "allR")
  k_with "cj" => (with_reducible (first | assumption | exact cj0 (by assumption) | exact cj1 (by assumption) | exact cj2 (by assumption) | exact cj3 (by assumption) | exact cj4 (by assumption) | exact cj5 (by assumption) | exact cj6 (by assumption) | exact cj7 (by assumption) | exact cj8 (by assumption) | exact cj9 (by assumption) | exact cj10 (by assumption) | exact cj11 (by assumption) | exact cj12 (by assumption) | exact cj13 (by assumption) | exact cj14 (by assumption) | exact cj15 (by assumption) | exact cj16 (by assumption) | exact cl1 (by assumption) | exact cl2 (by assumption) | exact cl3 (by assumption) | exact cl4 (by assumption) | exact cl5 (by assumption) | exact cl6 (by assumption) | exact cl7 (by assumption) | exact cl8 (by assumption) | exact cl9 (by assumption) | exact cl10 (by assumption) | exact cl11 (by assumption) | exact cl12 (by assumption) | exact cl13 (by assumption) | exact cl14 (by assumption) | exact cl15 (by assumption) | exact cl16 (by assumption) | exact ct0t0x (by assumption) | exact ct0t1x (by assumption) | exact ct0t2x (by assumption) | exact ct1t0x (by assumption) | exact ct1t1x (by assumption) | exact ct1t2x (by assumption) | exact ct2t0x (by assumption) | exact ct2t1x (by assumption) | exact ct2t2x (by assumption) | exact ct3t0x (by assumption) | exact ct3t1x (by assumption) | exact ct3t2x (by assumption) | exact ct4t0x (by assumption) | exact ct4t1x (by assumption) | exact ct4t2x (by assumption)))
  k_with "ne" => ((refine neN ?_; (try dsimp only); first | with_reducible (first | assumption | exact ngt (by assumption) | exact nlt (by assumption) | exact Ne.symm (by assumption)) | (refine ngt ?_; k_data) | (refine nlt ?_; k_data) | k_data | (refine Ne.symm ?_; k_data) | (refine ngt1 ?_; k_data) | (refine ngt2 ?_; k_data) | (refine nlt1 ?_; k_data) | (refine nlt2 ?_; k_data) | omega))
  k_with "room" => (first | exact room_le2 (by assumption) (by exact rfl) | exact room_lt2 (by assumption) (by exact rfl) | exact room_le1 (by assumption) (by exact rfl) | exact room_lt1 (by assumption) (by exact rfl) | exact room_le3 (by assumption) (by exact rfl) | exact room_lt3 (by assumption) (by exact rfl) | exact room_ltF (by assumption) (by exact rfl) (by exact rfl))
  k_with "units" => (first | exact unit_le2 (by assumption) (by exact rfl) | exact unit_lt2 (by assumption) (by exact rfl) | exact unit_le1 (by assumption) (by exact rfl) | exact unit_lt1 (by assumption) (by exact rfl) | exact unit_le3 (by assumption) (by exact rfl) | exact unit_lt3 (by assumption) (by exact rfl) | exact unit_ltE (by assumption) (by exact rfl) (by exact rfl) | exact unit_ltF (by assumption) (by exact rfl) (by exact rfl))
  k_with "callWith ref nil nil" => (k_here; k_dflt (refine' callWith_K ?k1 ?k2 ?_; (case k1 => k_asm); (case k2 => k_is); k_whole))
  k_with "eval Name" => (k_here; k_dflt (refine' nameX_L ?F ?v ?_ ?a ?b; (case b => exact rfl); (case F => k_asm); (case a => rfl); (case v => rfl); k_whole))
  k_with "eval Name" => (k_here; k_dflt (refine' nameX_K ?F ?X ?T ?e ?_ ?a ?b; (case b => exact rfl); (case F => k_asm); (case X => k_asm); (case T => k_asm); (case a => rfl); (case e => k_is); k_whole))
  k_with "eval Name" => (k_here; k_dflt (refine' nameX_B ?F ?X ?T ?e ?v ?n ?_ ?a ?b; (case b => exact rfl); (case F => k_asm); (case X => k_asm); (case T => k_asm); (case a => rfl); (case e => k_is); (case v => boot_fast); (case n => decide); k_whole))
  k_with "subscriptTail Name Constant ref int" => (k_here; (with_reducible show wpAny _ _ (subscriptTail _ _ (Value.ref _) (Value.int _ _)) _ _ _); k_dflt (first | (refine' item_tupleT ?t ?a ?b ?c ?d ?_; (case t => first | with_reducible assumption | exact News.isTup (by k_asm) (by k_mem)); (case a => decide); (case b => decide); (case c => rfl); (case d => rfl); k_whole) | (refine' topTup_K ?F ?X ?l ?a ?b ?c ?d ?_; (case F => k_asm); (case X => k_asm); (case l => k_is); (case a => decide); (case b => decide); (case c => rfl); (case d => rfl)) | (refine' topList_K ?F ?X ?l ?a ?b ?d ?_; (case F => k_asm); (case X => k_asm); (case l => k_is); (case a => decide); (case b => decide); (case d => rfl); k_whole)))
  k_with "subscriptTail Name Constant ref int" => (k_here; (with_reducible show wpAny _ _ (subscriptTail _ _ (Value.ref _) (Value.int _ _)) _ _ _); (with_unfolding_all refine' item_litK ?k1 ?k2 ?k3 ?k4 ?_ ?k6; (case k1 => is_list); (case k2 => decide); (case k3 => decide); (case k4 => rfl); (case k6 => with_unfolding_all rfl); k_whole))
  k_with "call builtin:list.pop" => (k_here; k_dflt ((with_reducible show wpAny _ _ (call (Value.builtin _) [Value.ref _]) _ _ _); refine' kl_pop ?F ?N ?e ?U ?z ?_; (case F => k_asm); (case N => k_asm); (case U => k_upd); (case e => rfl); (case z => kl_room)); kl_rest)
  k_with "lt" => with_reducible (first | assumption | exact ll0 (by assumption) | exact ll1 (by assumption) | exact ll2 (by assumption) | exact ll3 (by assumption) | exact ll4 (by assumption) | exact ll5 (by assumption) | exact ll6 (by assumption) | exact ll7 (by assumption) | exact ll8 (by assumption) | exact ll9 (by assumption) | exact ll10 (by assumption) | exact ll11 (by assumption) | exact ll12 (by assumption) | exact ll13 (by assumption) | exact la0 (by assumption) | exact la1 (by assumption) | exact la2 (by assumption) | exact la3 (by assumption) | exact la4 (by assumption) | exact la5 (by assumption) | exact la6 (by assumption) | exact la7 (by assumption))
  k_with "ite" => with_reducible (first | refine ite_tt ?_ | refine ite_ff ?_)
  k_with "subscriptTail Attribute Name Name ref int" => (walk_at "last subscriptTail")
  k_with "callWith ref cons nil" => (k_here; k_dflt (refine' callWith_K ?k1 ?k2 ?_; (case k1 => k_asm); (case k2 => k_is); k_whole))
  k_with "call ref" => (k_here; (with_reducible show wpAny _ _ (call (Value.ref 1170) _) _ _ _); k_dflt (refine' kind_A ?B ?F ?X ?G ?N1 ?sub ?hr ?hz ?T ?hk ?hd ?hu ?_; (case B => k_asm); (case F => k_asm); (case X => k_asm); (case G => assumption); (case N1 => k_asm); (case sub => (repeat (first | assumption | exact sub_self | refine sub_tail ?_))); (case hr => exact rfl); (case hz => decide); (case T => k_asm); (case hk => first | exact rfl | assumption); (case hd => ktr_room); (case hu => ktr_units); intro t' h' tk' F' N'; (try dsimp only [rowsE]); (try k_fold)))
  k_with "call ref" => (k_here; (with_reducible show wpAny _ _ (call (Value.ref 1198) _) _ _ _); k_dflt (refine' value_A ?B ?F ?X ?G ?N1 ?sub ?hr ?hz ?T ?hk ?hd ?hu ?_; (case B => k_asm); (case F => k_asm); (case X => k_asm); (case G => assumption); (case N1 => k_asm); (case sub => (repeat (first | assumption | exact sub_self | refine sub_tail ?_))); (case hr => exact rfl); (case hz => decide); (case T => k_asm); (case hk => first | exact rfl | assumption); (case hd => ktr_room); (case hu => ktr_units); intro t' h' tk' F' N'; (try dsimp only [rowsE]); (try k_fold)))
  k_with "call ref" => (k_here; (with_reducible show wpAny _ _ (call (Value.ref 1212) _) _ _ _); k_dflt (refine' children_A ?B ?F ?X ?G ?N1 ?sub ?hr ?hz ?hzk ?T ?hk ?hd ?hu ?_; (case B => k_asm); (case F => k_asm); (case X => k_asm); (case G => assumption); (case N1 => k_asm); (case sub => (repeat (first | assumption | exact sub_self | refine sub_tail ?_))); (case hr => exact rfl); (case hz => decide); (case hzk => decide); (case T => k_asm); (case hk => first | exact rfl | assumption); (case hd => ktr_room); (case hu => ktr_units); intro f' C' n' h' tk' F' N' l1'; (dsimp only [intsF] at N'); (simp only [AllLt] at l1'); (try dsimp only); (try k_fold)))
  obtain ⟨dT, kT, nR, a1, a2, -⟩ := G.top
  have N0 := news_more a1 N (news_more a2 N N)
  clear N
  refine wpAny_call ?_
  k_dflt ktr_enter
  repeat (first | walk1 | (dsimp only; walk1))
  (rename News h₀ _ _ _ => NN)
  exact ret _ _ _ _ _ (by assumption) (news_sub NN (sub_cons (by k_dflt k_mem) (by repeat (first | exact sub_self | refine sub_tail ?_)))) (and_r2 (by assumption))
set_option maxHeartbeats 0 in
theorem beneath1_A {T0 R : Addr} {led : List (Addr × Obj)} {xs : List Trip} {keep : List (Addr × Obj)} {tk : Tok}
    (B : Below A₀ base outer h₀) (F : Fr h₀ L s.heap m) (X : (KK w.params).In h₀) (G : TreeG w led T0 R xs rowsE keep) (N : News h₀ L s.heap led)
    (T : Top p loose mean mg mb h₀) (hk : cs.kind = .function) (hd : dp + 30 ≤ 900) (hu : un + 300 ≤ 1000)
    (ret : ∀ C n (t3 t4 t5 t6 : Tok) h' tk', Fr h₀ L h' m → News h₀ L h' ((C, listOf #[.int ((3 : Nat) : Int) t3, .int ((4 : Nat) : Int) t4, .int ((5 : Nat) : Int) t5, .int ((6 : Nat) : Int) t6] n) :: led) → AllLt C led → Q (.ref C) { s with heap := h', toks := tk' }) :
    wpAny (model PySem.Challenge.rw_xm0674_01.prog w) (ktrTop dp un gd cn cs L a ccd cl outer) (call (.ref 197) [.ref T0, .int ((1 : Nat) : Int) tk]) Q E s := by
  k_with_none
  k_with "memR" => (first | with_reducible assumption | exact List.Mem.head _ | (refine' List.Mem.tail _ ?_; k_extra "memR"))
  k_with "memD" => (first | exact List.Mem.head _ | assumption | (refine' List.Mem.tail _ ?_; k_extra "memD"))
  k_with "mem" => (first | k_extra "memR" | k_extra "memD")
  k_with "allR" => (first | assumption | exact List.forall_mem_nil _ | (refine' List.forall_mem_cons.mpr ⟨?a, ?b⟩; (case a => first | with_reducible assumption | k_ne); (case b => k_extra "allR")))
  k_with "all" => (k_extra "allR")
  k_with "cj" => (with_reducible (first | assumption | exact cj0 (by assumption) | exact cj1 (by assumption) | exact cj2 (by assumption) | exact cj3 (by assumption) | exact cj4 (by assumption) | exact cj5 (by assumption) | exact cj6 (by assumption) | exact cj7 (by assumption) | exact cj8 (by assumption) | exact cj9 (by assumption) | exact cj10 (by assumption) | exact cj11 (by assumption) | exact cj12 (by assumption) | exact cj13 (by assumption) | exact cj14 (by assumption) | exact cj15 (by assumption) | exact cj16 (by assumption) | exact cl1 (by assumption) | exact cl2 (by assumption) | exact cl3 (by assumption) | exact cl4 (by assumption) | exact cl5 (by assumption) | exact cl6 (by assumption) | exact cl7 (by assumption) | exact cl8 (by assumption) | exact cl9 (by assumption) | exact cl10 (by assumption) | exact cl11 (by assumption) | exact cl12 (by assumption) | exact cl13 (by assumption) | exact cl14 (by assumption) | exact cl15 (by assumption) | exact cl16 (by assumption) | exact ct0t0x (by assumption) | exact ct0t1x (by assumption) | exact ct0t2x (by assumption) | exact ct1t0x (by assumption) | exact ct1t1x (by assumption) | exact ct1t2x (by assumption) | exact ct2t0x (by assumption) | exact ct2t1x (by assumption) | exact ct2t2x (by assumption) | exact ct3t0x (by assumption) | exact ct3t1x (by assumption) | exact ct3t2x (by assumption) | exact ct4t0x (by assumption) | exact ct4t1x (by assumption) | exact ct4t2x (by assumption)))
  k_with "ne" => ((refine neN ?_; (try dsimp only); first | with_reducible (first | assumption | exact ngt (by assumption) | exact nlt (by assumption) | exact Ne.symm (by assumption)) | (refine ngt ?_; k_data) | (refine nlt ?_; k_data) | k_data | (refine Ne.symm ?_; k_data) | (refine ngt1 ?_; k_data) | (refine ngt2 ?_; k_data) | (refine nlt1 ?_; k_data) | (refine nlt2 ?_; k_data) | omega))
  k_with "room" => (first | exact room_le2 (by assumption) (by exact rfl) | exact room_lt2 (by assumption) (by exact rfl) | exact room_le1 (by assumption) (by exact rfl) | exact room_lt1 (by assumption) (by exact rfl) | exact room_le3 (by assumption) (by exact rfl) | exact room_lt3 (by assumption) (by exact rfl) | exact room_ltF (by assumption) (by exact rfl) (by exact rfl))
  k_with "units" => (first | exact unit_le2 (by assumption) (by exact rfl) | exact unit_lt2 (by assumption) (by exact rfl) | exact unit_le1 (by assumption) (by exact rfl) | exact unit_lt1 (by assumption) (by exact rfl) | exact unit_le3 (by assumption) (by exact rfl) | exact unit_lt3 (by assumption) (by exact rfl) | exact unit_ltE (by assumption) (by exact rfl) (by exact rfl) | exact unit_ltF (by assumption) (by exact rfl) (by exact rfl))
  k_with "callWith ref nil nil" => (k_here; k_dflt (refine' callWith_K ?k1 ?k2 ?_; (case k1 => k_asm); (case k2 => k_is); k_whole))
  k_with "eval Name" => (k_here; k_dflt (refine' nameX_L ?F ?v ?_ ?a ?b; (case b => exact rfl); (case F => k_asm); (case a => rfl); (case v => rfl); k_whole))
  k_with "eval Name" => (k_here; k_dflt (refine' nameX_K ?F ?X ?T ?e ?_ ?a ?b; (case b => exact rfl); (case F => k_asm); (case X => k_asm); (case T => k_asm); (case a => rfl); (case e => k_is); k_whole))
  k_with "eval Name" => (k_here; k_dflt (refine' nameX_B ?F ?X ?T ?e ?v ?n ?_ ?a ?b; (case b => exact rfl); (case F => k_asm); (case X => k_asm); (case T => k_asm); (case a => rfl); (case e => k_is); (case v => boot_fast); (case n => decide); k_whole))
  k_with "subscriptTail Name Constant ref int" => (k_here; (with_reducible show wpAny _ _ (subscriptTail _ _ (Value.ref _) (Value.int _ _)) _ _ _); k_dflt (first | (refine' item_tupleT ?t ?a ?b ?c ?d ?_; (case t => first | with_reducible assumption | exact News.isTup (by k_asm) (by k_mem)); (case a => decide); (case b => decide); (case c => rfl); (case d => rfl); k_whole) | (refine' topTup_K ?F ?X ?l ?a ?b ?c ?d ?_; (case F => k_asm); (case X => k_asm); (case l => k_is); (case a => decide); (case b => decide); (case c => rfl); (case d => rfl)) | (refine' topList_K ?F ?X ?l ?a ?b ?d ?_; (case F => k_asm); (case X => k_asm); (case l => k_is); (case a => decide); (case b => decide); (case d => rfl); k_whole)))
  k_with "subscriptTail Name Constant ref int" => (k_here; (with_reducible show wpAny _ _ (subscriptTail _ _ (Value.ref _) (Value.int _ _)) _ _ _); (with_unfolding_all refine' item_litK ?k1 ?k2 ?k3 ?k4 ?_ ?k6; (case k1 => is_list); (case k2 => decide); (case k3 => decide); (case k4 => rfl); (case k6 => with_unfolding_all rfl); k_whole))
  k_with "call builtin:list.pop" => (k_here; k_dflt ((with_reducible show wpAny _ _ (call (Value.builtin _) [Value.ref _]) _ _ _); refine' kl_pop ?F ?N ?e ?U ?z ?_; (case F => k_asm); (case N => k_asm); (case U => k_upd); (case e => rfl); (case z => kl_room)); kl_rest)
  k_with "lt" => with_reducible (first | assumption | exact ll0 (by assumption) | exact ll1 (by assumption) | exact ll2 (by assumption) | exact ll3 (by assumption) | exact ll4 (by assumption) | exact ll5 (by assumption) | exact ll6 (by assumption) | exact ll7 (by assumption) | exact ll8 (by assumption) | exact ll9 (by assumption) | exact ll10 (by assumption) | exact ll11 (by assumption) | exact ll12 (by assumption) | exact ll13 (by assumption) | exact la0 (by assumption) | exact la1 (by assumption) | exact la2 (by assumption) | exact la3 (by assumption) | exact la4 (by assumption) | exact la5 (by assumption) | exact la6 (by assumption) | exact la7 (by assumption))
  k_with "ite" => with_reducible (first | refine ite_tt ?_ | refine ite_ff ?_)
  k_with "subscriptTail Attribute Name Name ref int" => (walk_at "last subscriptTail")
  k_with "callWith ref cons nil" => (k_here; k_dflt (refine' callWith_K ?k1 ?k2 ?_; (case k1 => k_asm); (case k2 => k_is); k_whole))
  k_with "call ref" => (k_here; (with_reducible show wpAny _ _ (call (Value.ref 1170) _) _ _ _); k_dflt (refine' kind_A ?B ?F ?X ?G ?N1 ?sub ?hr ?hz ?T ?hk ?hd ?hu ?_; (case B => k_asm); (case F => k_asm); (case X => k_asm); (case G => assumption); (case N1 => k_asm); (case sub => (repeat (first | assumption | exact sub_self | refine sub_tail ?_))); (case hr => exact rfl); (case hz => decide); (case T => k_asm); (case hk => first | exact rfl | assumption); (case hd => ktr_room); (case hu => ktr_units); intro t' h' tk' F' N'; (try dsimp only [rowsE]); (try k_fold)))
  k_with "call ref" => (k_here; (with_reducible show wpAny _ _ (call (Value.ref 1198) _) _ _ _); k_dflt (refine' value_A ?B ?F ?X ?G ?N1 ?sub ?hr ?hz ?T ?hk ?hd ?hu ?_; (case B => k_asm); (case F => k_asm); (case X => k_asm); (case G => assumption); (case N1 => k_asm); (case sub => (repeat (first | assumption | exact sub_self | refine sub_tail ?_))); (case hr => exact rfl); (case hz => decide); (case T => k_asm); (case hk => first | exact rfl | assumption); (case hd => ktr_room); (case hu => ktr_units); intro t' h' tk' F' N'; (try dsimp only [rowsE]); (try k_fold)))
  k_with "call ref" => (k_here; (with_reducible show wpAny _ _ (call (Value.ref 1212) _) _ _ _); k_dflt (refine' children_A ?B ?F ?X ?G ?N1 ?sub ?hr ?hz ?hzk ?T ?hk ?hd ?hu ?_; (case B => k_asm); (case F => k_asm); (case X => k_asm); (case G => assumption); (case N1 => k_asm); (case sub => (repeat (first | assumption | exact sub_self | refine sub_tail ?_))); (case hr => exact rfl); (case hz => decide); (case hzk => decide); (case T => k_asm); (case hk => first | exact rfl | assumption); (case hd => ktr_room); (case hu => ktr_units); intro f' C' n' h' tk' F' N' l1'; (dsimp only [intsF] at N'); (simp only [AllLt] at l1'); (try dsimp only); (try k_fold)))
  obtain ⟨dT, kT, nR, a1, a2, -⟩ := G.top
  have N0 := news_more a1 N (news_more a2 N N)
  clear N
  refine wpAny_call ?_
  k_dflt ktr_enter
  repeat (first | walk1 | (dsimp only; walk1))
  (rename News h₀ _ _ _ => NN)
  exact ret _ _ _ _ _ _ _ _ (by assumption) (news_sub NN (sub_cons (by k_dflt k_mem) (by repeat (first | exact sub_self | refine sub_tail ?_)))) (and_r2 (by assumption))
end
end

section -- R10
open PySem PySem.W PyProof.Rows PySem.Calls
inductive StrsV : List Value → List Str → Prop where
  | nil : StrsV [] []
  | cons {vs : List Value} {l : List Str} {x : Str} {t : Tok} : StrsV vs l → StrsV (.str x t :: vs) (x :: l)
theorem StrsV.app {vs : List Value} {l : List Str} (h : StrsV vs l) (x : Str) (t : Tok) : StrsV (vs ++ [.str x t]) (l ++ [x]) := by
  induction h with
  | nil => exact .cons .nil
  | cons _ ih => exact .cons ih
theorem StrsV.carried {vs : List Value} {l : List Str} (h : StrsV vs l) : CarriedAll vs (l.map fun a => PyData.str a) := by
  induction h with
  | nil => exact .nil
  | cons _ ih => exact .cons (.str _ _) ih
noncomputable def textOf (k : Nat) : List Str := match rowsE[k]? with
  | some r => if r.kd == Str.ofString "text" then [r.vl] else []
  | none => []
noncomputable def IntAt (n : Nat) (v : Value) : Prop := ∃ t, v = .int (n : Int) t
section
variable {prog : Program} {w : World} {A : Around} {h₀ : Heap} {L : Addr} {m : Str → Option Value} {env : Env} {ct elt : Expr} {x : Str} {scope : Scope} {cl : List (Str × Addr)} {s : Shared} {Fin : List Value → List (Addr × Obj) → Prop} {S : List (Addr × Obj) → Prop} {P : Nat → Value → Prop}
theorem text_rest {led : List (Addr × Obj)} (ns : List Nat) (hP : ∀ i v, P i v → ∀ n, ns[i]? = some n → IntAt n v) (hr : ∀ n ∈ ns, ∃ row, rowsE[n]? = some row)
    (turn : ∀ (k : Nat) row t I oI C oC D m₂ ys h tk (E' : Value → Shared → Prop), rowsE[k]? = some row → LCg.NsObj oC m₂ → m₂ x = some (.int (k : Int) t) → Fr h₀ L h m → News h₀ L h ((I, oI) :: (C, oC) :: (D, LCg.lst ys) :: led) → LCg.Off3 I C D led → ((@Ne Nat I C) ∧ (@Ne Nat I D) ∧ (@Ne Nat C D)) →
      wpAny (model prog w) A (isTrue ct (compEnvC scope cl C env) (eval ct (compEnvC scope cl C env))) (fun ok s' => if ok = true then
        wpAny (model prog w) A (eval elt (compEnvC scope cl C env)) (LCg.CompEnd h₀ L m { s with heap := h, toks := tk } I oI C oC D (LCg.lst ys) S (fun y news' => news' = led ∧ (row.kd == Str.ofString "text") = true ∧ ∃ t, y = .str row.vl t)) E' s'
        else LCg.CompEnd h₀ L m { s with heap := h, toks := tk } I oI C oC D (LCg.lst ys) S (fun _ news' => news' = led ∧ (row.kd == Str.ofString "text") = false) Value.none s') E' { s with heap := h, toks := tk })
    (fin : ∀ ys, StrsV ys (ns.flatMap textOf) → Fin ys led) :
    LCt.CompRestT prog w A h₀ L m env ct elt x scope cl s S P Fin ns.length 0 [] led := by
  have key : ∀ (j i : Nat) (ys : List Value), i + j = ns.length → StrsV ys ((ns.take i).flatMap textOf) → LCt.CompRestT prog w A h₀ L m env ct elt x scope cl s S P Fin j i ys led := by
    intro j
    induction j with
    | zero =>
      intro i ys hi hy
      rw [List.take_of_length_le (by omega)] at hy
      exact LCt.CompRestT.zero (fin ys hy)
    | succ j ih =>
      intro i ys hi hy
      have hlt : i < ns.length := by omega
      have hn : ns[i]? = some ns[i] := List.getElem?_eq_getElem hlt
      obtain ⟨row, hrow⟩ := hr ns[i] (List.getElem_mem hlt)
      have hs : ∀ l : List Str, textOf ns[i] = l → (ns.take (i + 1)).flatMap textOf = (ns.take i).flatMap textOf ++ l := fun l hl => by
        rw [List.take_add_one, hn, List.flatMap_append]
        simp [hl]
      refine LCt.CompRestT.succ ?_
      intro v I oI C oC D m₂ h tk E' hv hC hx F N off ne
      obtain ⟨t, rfl⟩ := hP i v hv _ hn
      refine wpAny_mono (turn _ row t I oI C oC D m₂ ys h tk E' hrow hC hx F N off ne) (fun ok s₂ hq => ?_) fun _ _ e => e
      cases ok with
      | true =>
        rw [if_pos rfl] at hq ⊢
        refine wpAny_mono hq (fun y s₃ hq => ?_) fun _ _ e => e
        obtain ⟨h', tk', nw, e, F', N', off', hS, rfl, hk, t', rfl⟩ := hq
        refine ⟨h', tk', _, e, F', N', off', hS, ih (i + 1) _ (by omega) ?_⟩
        rw [hs [row.vl] (by simp [textOf, hrow, hk])]
        exact hy.app _ _
      | false =>
        rw [if_neg (by decide)] at hq ⊢
        obtain ⟨h', tk', nw, e, F', N', off', hS, rfl, hk⟩ := hq
        refine ⟨h', tk', _, e, F', N', off', hS, ih (i + 1) _ (by omega) ?_⟩
        rw [hs [] (by simp [textOf, hrow, hk]), List.append_nil]
        exact hy
  exact key ns.length 0 [] (by simp) (by simpa using StrsV.nil)
end
theorem rows_some {ns : List Nat} (h : (ns.all fun n => decide (n < 7)) = true) : ∀ n ∈ ns, ∃ row, rowsE[n]? = some row := fun n hn => by
  have h1 : n < 7 := of_decide_eq_true (List.all_eq_true.mp h n hn)
  have h2 : n < rowsE.length := h1
  exact ⟨rowsE[n], List.getElem?_eq_getElem h2⟩
theorem intsV_at {vs : List Value} {ns : List Nat} (h : IntsV vs ns) : ∀ (i : Nat) (v : Value), vs.toArray[i]? = some v → ∀ n, ns[i]? = some n → IntAt n v := by
  induction h with
  | nil => intro i v h; simp at h
  | @cons vs ns n t _ ih =>
    intro i v h m hm
    cases i with
    | zero =>
      simp at h hm
      subst h hm
      exact ⟨t, rfl⟩
    | succ i => exact ih i v (by simpa using h) m (by simpa using hm)
theorem join_strs {prog : Program} {w : World} {A : Around} {E : Value → Shared → Prop} {s : Shared} {t : Tok} {Q : Value → Shared → Prop} {D : Addr} {ys : List Value} {l : List Str} (hl : s.heap.IsList D ys.toArray) (hp : StrsV ys l) (hb : ∀ a ∈ l, a.length ≤ 8) (hn : l.length ≤ 6)
    (h : ∀ t' k, Q (.str (Str.join (Str.ofString "") l) t') { s with toks := k }) : wpAny (model prog w) A (call (.builtin "str.join") [.str (Str.ofString "") t, .ref D]) Q E s := by
  refine KT.join_B (l := l) (g := fun a => a) 8 hl hp.carried hb (by omega) (by decide) fun t' k => ?_
  have e2 : Txt.join (Str.ofString "") (l.map fun a => a) = Str.join (Str.ofString "") l := by
    show Builtin.Str.glued _ _ = _
    rw [StrLaws.glued_eq_join, List.map_id']
  rw [e2]
  exact h t' k
theorem notin_made {w : World} {A : Around} {s : Shared} {x : Str} {u t1 t2 : Tok} {D : Addr} {h₀ : Heap} {L : Addr} {led : List (Addr × Obj)} {Q E : Value → Shared → Prop} (N : News h₀ L s.heap led) (hm : (D, tupO #[.str (Str.ofString "root") t1, .str (Str.ofString "element") t2]) ∈ led) (b : Bool)
    (hb : b = true ∧ x ≠ Str.ofString "root" ∧ x ≠ Str.ofString "element" ∨ b = false ∧ (x = Str.ofString "root" ∨ x = Str.ofString "element")) (h : Q (.bool b) s) :
    wpAny (model PySem.Challenge.rw_xm0674_01.prog w) A (compareOp .NotIn (.str x u) (.ref D)) Q E s := by
  refine notin_tuple_strs (News.isTup N hm) (.cons _ _ (.cons _ _ .nil)) ?_
  have e : (!(([Str.ofString "root", Str.ofString "element"] : List Str).any (· == x))) = b := by
    rcases hb with ⟨rfl, h1, h2⟩ | ⟨rfl, h1⟩
    · simp [Ne.symm h1, Ne.symm h2]
    · rcases h1 with rfl | rfl <;> simp
  rw [e]
  exact h
section
variable {w : World} {p : Program} {loose : List Str} {mean : ExcName → Option Value} {mg mb : Str → Option Value}
    {dp un : Nat} {gd : Option (List Code)} {cn : Str} {cs : Scope} {a : Addr} {ccd : Value} {cl : List (Str × Addr)} {outer : List Env} {A₀ : Around} {base h₀ : Heap} {L : Addr} {m : Str → Option Value} {s : Shared}
    {Q E : Value → Shared → Prop}
set_option maxHeartbeats 0 in
theorem strvalL_A {T0 R : Addr} {led : List (Addr × Obj)} {xs : List Trip} {keep : List (Addr × Obj)} {tk : Tok} {k : Nat} {row : RowS}
    (B : Below A₀ base outer h₀) (F : Fr h₀ L s.heap m) (X : (KK w.params).In h₀) (G : TreeG w led T0 R xs rowsE keep) (N : News h₀ L s.heap led) (hr : rowsE[k]? = some row) (hl1 : row.kd ≠ Str.ofString "root") (hl2 : row.kd ≠ Str.ofString "element")
    (T : Top p loose mean mg mb h₀) (hk : cs.kind = .function) (hd : dp + 34 ≤ 900) (hu : un + 340 ≤ 1000)
    (ret : ∀ t h' tk', Fr h₀ L h' m → News h₀ L h' led → Q (.str row.vl t) { s with heap := h', toks := tk' }) :
    wpAny (model PySem.Challenge.rw_xm0674_01.prog w) (ktrTop dp un gd cn cs L a ccd cl outer) (call (.ref 202) [.ref T0, .int (k : Int) tk]) Q E s := by
  k_with_none
  k_with "memR" => (first | with_reducible assumption | exact List.Mem.head _ | (refine' List.Mem.tail _ ?_; k_extra "memR"))
  k_with "memD" => (first | exact List.Mem.head _ | assumption | (refine' List.Mem.tail _ ?_; k_extra "memD"))
  k_with "mem" => (first | k_extra "memR" | k_extra "memD")
  k_with "allR" => (first | with_reducible assumption | exact List.forall_mem_nil _ | (refine' List.forall_mem_cons.mpr ⟨?a, ?b⟩; (case a => first | with_reducible assumption | k_ne); (case b => k_extra "allR")))
  k_with "all" => (first | with_reducible assumption | exact List.forall_mem_nil _ | with_reducible (first | exact aa0 (by assumption) | exact aa1 (by assumption) | exact aa2 (by assumption) | exact aa3 (by assumption) | exact aa4 (by assumption) | exact aa5 (by assumption) | exact aa6 (by assumption) | exact aa7 (by assumption) | exact ab0 (by assumption) (by assumption) | exact ab1 (by assumption) (by assumption)) | k_extra "allR" | assumption)
  k_with "cj" => (with_reducible (first | assumption | exact cj0 (by assumption) | exact cj1 (by assumption) | exact cj2 (by assumption) | exact cj3 (by assumption) | exact cj4 (by assumption) | exact cj5 (by assumption) | exact cj6 (by assumption) | exact cj7 (by assumption) | exact cj8 (by assumption) | exact cj9 (by assumption) | exact cj10 (by assumption) | exact cj11 (by assumption) | exact cj12 (by assumption) | exact cj13 (by assumption) | exact cj14 (by assumption) | exact cj15 (by assumption) | exact cj16 (by assumption) | exact cl1 (by assumption) | exact cl2 (by assumption) | exact cl3 (by assumption) | exact cl4 (by assumption) | exact cl5 (by assumption) | exact cl6 (by assumption) | exact cl7 (by assumption) | exact cl8 (by assumption) | exact cl9 (by assumption) | exact cl10 (by assumption) | exact cl11 (by assumption) | exact cl12 (by assumption) | exact cl13 (by assumption) | exact cl14 (by assumption) | exact cl15 (by assumption) | exact cl16 (by assumption) | exact ct0t0x (by assumption) | exact ct0t1x (by assumption) | exact ct0t2x (by assumption) | exact ct1t0x (by assumption) | exact ct1t1x (by assumption) | exact ct1t2x (by assumption) | exact ct2t0x (by assumption) | exact ct2t1x (by assumption) | exact ct2t2x (by assumption) | exact ct3t0x (by assumption) | exact ct3t1x (by assumption) | exact ct3t2x (by assumption) | exact ct4t0x (by assumption) | exact ct4t1x (by assumption) | exact ct4t2x (by assumption)))
  k_with "ne" => ((refine neN ?_; (try dsimp only); first | with_reducible (first | assumption | exact ngt (by assumption) | exact nlt (by assumption) | exact Ne.symm (by assumption)) | with_reducible (first | exact al0 (by assumption) | exact ar0 (by assumption) | exact al1 (by assumption) | exact ar1 (by assumption) | exact al2 (by assumption) | exact ar2 (by assumption) | exact al3 (by assumption) | exact ar3 (by assumption) | exact al4 (by assumption) | exact ar4 (by assumption) | exact al5 (by assumption) | exact ar5 (by assumption) | exact al6 (by assumption) | exact ar6 (by assumption) | exact al7 (by assumption) | exact ar7 (by assumption) | exact al8 (by assumption) | exact ar8 (by assumption) | exact al9 (by assumption) | exact ar9 (by assumption) | exact al10 (by assumption) | exact ar10 (by assumption) | exact al11 (by assumption) | exact ar11 (by assumption) | exact al12 (by assumption) | exact ar12 (by assumption) | exact al13 (by assumption) | exact ar13 (by assumption) | exact al14 (by assumption) | exact ar14 (by assumption) | exact al15 (by assumption) | exact ar15 (by assumption)) | with_reducible (first | exact at0 (by assumption) (by assumption) | exact au0 (by assumption) (by assumption) | exact at1 (by assumption) (by assumption) | exact au1 (by assumption) (by assumption) | exact at2 (by assumption) (by assumption) | exact au2 (by assumption) (by assumption) | exact at3 (by assumption) (by assumption) | exact au3 (by assumption) (by assumption) | exact at4 (by assumption) (by assumption) | exact au4 (by assumption) (by assumption) | exact at5 (by assumption) (by assumption) | exact au5 (by assumption) (by assumption) | exact at6 (by assumption) (by assumption) | exact au6 (by assumption) (by assumption) | exact at7 (by assumption) (by assumption) | exact au7 (by assumption) (by assumption)) | with_reducible (first | exact av0 (by assumption) | exact avs0 (by assumption) | exact av1 (by assumption) | exact avs1 (by assumption) | exact av2 (by assumption) | exact avs2 (by assumption) | exact av3 (by assumption) | exact avs3 (by assumption) | exact av4 (by assumption) | exact avs4 (by assumption) | exact av5 (by assumption) | exact avs5 (by assumption) | exact aw0 (by assumption) | exact aws0 (by assumption) | exact aw1 (by assumption) | exact aws1 (by assumption) | exact aw2 (by assumption) | exact aws2 (by assumption) | exact aw3 (by assumption) | exact aws3 (by assumption) | exact aw4 (by assumption) | exact aws4 (by assumption) | exact aw5 (by assumption) | exact aws5 (by assumption)) | (refine nlt ?_; k_data) | (refine ngt ?_; k_data) | k_data | (refine Ne.symm ?_; k_data) | (refine ngt1 ?_; k_data) | (refine ngt2 ?_; k_data) | (refine nlt1 ?_; k_data) | (refine nlt2 ?_; k_data) | omega))
  k_with "room" => (first | exact room_le2 (by assumption) (by exact rfl) | exact room_lt2 (by assumption) (by exact rfl) | exact room_le1 (by assumption) (by exact rfl) | exact room_lt1 (by assumption) (by exact rfl) | exact room_le3 (by assumption) (by exact rfl) | exact room_lt3 (by assumption) (by exact rfl) | exact room_ltF (by assumption) (by exact rfl) (by exact rfl))
  k_with "units" => (first | exact unit_le2 (by assumption) (by exact rfl) | exact unit_lt2 (by assumption) (by exact rfl) | exact unit_le1 (by assumption) (by exact rfl) | exact unit_lt1 (by assumption) (by exact rfl) | exact unit_le3 (by assumption) (by exact rfl) | exact unit_lt3 (by assumption) (by exact rfl) | exact unit_ltE (by assumption) (by exact rfl) (by exact rfl) | exact unit_ltF (by assumption) (by exact rfl) (by exact rfl))
  k_with "callWith ref nil nil" => (k_here; k_dflt (refine' callWith_K ?k1 ?k2 ?_; (case k1 => k_asm); (case k2 => k_is); k_whole))
  k_with "eval Name" => (k_here; k_dflt (refine' nameX_L ?F ?v ?_ ?a ?b; (case b => exact rfl); (case F => k_asm); (case a => rfl); (case v => rfl); k_whole))
  k_with "eval Name" => (k_here; k_dflt (refine' nameX_K ?F ?X ?T ?e ?_ ?a ?b; (case b => exact rfl); (case F => k_asm); (case X => k_asm); (case T => k_asm); (case a => rfl); (case e => k_is); k_whole))
  k_with "eval Name" => (k_here; k_dflt (refine' nameX_B ?F ?X ?T ?e ?v ?n ?_ ?a ?b; (case b => exact rfl); (case F => k_asm); (case X => k_asm); (case T => k_asm); (case a => rfl); (case e => k_is); (case v => boot_fast); (case n => decide); k_whole))
  k_with "subscriptTail Name Constant ref int" => (k_here; (with_reducible show wpAny _ _ (subscriptTail _ _ (Value.ref _) (Value.int _ _)) _ _ _); k_dflt (first | (refine' item_tupleT ?t ?a ?b ?c ?d ?_; (case t => first | with_reducible assumption | exact News.isTup (by k_asm) (by k_mem)); (case a => decide); (case b => decide); (case c => rfl); (case d => rfl); k_whole) | (refine' topTup_K ?F ?X ?l ?a ?b ?c ?d ?_; (case F => k_asm); (case X => k_asm); (case l => k_is); (case a => decide); (case b => decide); (case c => rfl); (case d => rfl)) | (refine' topList_K ?F ?X ?l ?a ?b ?d ?_; (case F => k_asm); (case X => k_asm); (case l => k_is); (case a => decide); (case b => decide); (case d => rfl); k_whole)))
  k_with "subscriptTail Name Constant ref int" => (k_here; (with_reducible show wpAny _ _ (subscriptTail _ _ (Value.ref _) (Value.int _ _)) _ _ _); (with_unfolding_all refine' item_litK ?k1 ?k2 ?k3 ?k4 ?_ ?k6; (case k1 => is_list); (case k2 => decide); (case k3 => decide); (case k4 => rfl); (case k6 => with_unfolding_all rfl); k_whole))
  k_with "call builtin:list.pop" => (k_here; k_dflt ((with_reducible show wpAny _ _ (call (Value.builtin _) [Value.ref _]) _ _ _); refine' kl_pop ?F ?N ?e ?U ?z ?_; (case F => k_asm); (case N => k_asm); (case U => k_upd); (case e => rfl); (case z => kl_room)); kl_rest)
  k_with "lt" => with_reducible (first | assumption | exact ll0 (by assumption) | exact ll1 (by assumption) | exact ll2 (by assumption) | exact ll3 (by assumption) | exact ll4 (by assumption) | exact ll5 (by assumption) | exact ll6 (by assumption) | exact ll7 (by assumption) | exact ll8 (by assumption) | exact ll9 (by assumption) | exact ll10 (by assumption) | exact ll11 (by assumption) | exact ll12 (by assumption) | exact ll13 (by assumption) | exact la0 (by assumption) | exact la1 (by assumption) | exact la2 (by assumption) | exact la3 (by assumption) | exact la4 (by assumption) | exact la5 (by assumption) | exact la6 (by assumption) | exact la7 (by assumption))
  k_with "keeplt" => skip
  k_with "ite" => with_reducible (first | refine ite_tt ?_ | refine ite_ff ?_)
  k_with "subscriptTail Attribute Name Name ref int" => (walk_at "last subscriptTail")
  k_with "callWith ref cons nil" => (k_here; k_dflt (refine' callWith_K ?k1 ?k2 ?_; (case k1 => k_asm); (case k2 => k_is); k_whole))
  k_with "call ref" => (k_here; (with_reducible show wpAny _ _ (call (Value.ref 1170) _) _ _ _); k_dflt (refine' kind_A ?B ?F ?X ?G ?N1 ?sub ?hr ?hz ?T ?hk ?hd ?hu ?_; (case B => k_asm); (case F => k_asm); (case X => k_asm); (case G => assumption); (case N1 => k_asm); (case sub => (repeat (first | assumption | exact sub_self | refine sub_tail ?_))); (case hr => first | assumption | exact rfl); (case hz => decide); (case T => k_asm); (case hk => first | exact rfl | assumption); (case hd => ktr_room); (case hu => ktr_units); intro t' h' tk' F' N'; (try dsimp only [rowsE]); (try k_fold)))
  k_with "call ref" => (k_here; (with_reducible show wpAny _ _ (call (Value.ref 1198) _) _ _ _); k_dflt (refine' value_A ?B ?F ?X ?G ?N1 ?sub ?hr ?hz ?T ?hk ?hd ?hu ?_; (case B => k_asm); (case F => k_asm); (case X => k_asm); (case G => assumption); (case N1 => k_asm); (case sub => (repeat (first | assumption | exact sub_self | refine sub_tail ?_))); (case hr => first | assumption | exact rfl); (case hz => decide); (case T => k_asm); (case hk => first | exact rfl | assumption); (case hd => ktr_room); (case hu => ktr_units); intro t' h' tk' F' N'; (try dsimp only [rowsE]); (try k_fold)))
  k_with "call ref" => (k_here; (with_reducible show wpAny _ _ (call (Value.ref 1212) _) _ _ _); k_dflt (refine' children_A ?B ?F ?X ?G ?N1 ?sub ?hr ?hz ?hzk ?T ?hk ?hd ?hu ?_; (case B => k_asm); (case F => k_asm); (case X => k_asm); (case G => assumption); (case N1 => k_asm); (case sub => (repeat (first | assumption | exact sub_self | refine sub_tail ?_))); (case hr => first | assumption | exact rfl); (case hz => decide); (case hzk => decide); (case T => k_asm); (case hk => first | exact rfl | assumption); (case hd => ktr_room); (case hu => ktr_units); intro f' C' n' h' tk' F' N' l1'; (dsimp only [intsF] at N'); (simp only [AllLt] at l1'); (try dsimp only); (try k_fold)))
  k_with "call ref" => (k_here; (with_reducible show wpAny _ _ (call (Value.ref 197) _) _ _ _); k_dflt (refine' beneath4_A ?B ?F ?X ?G ?N ?T ?hk ?hd ?hu ?_; (case B => k_asm); (case F => k_asm); (case X => k_asm); (case N => k_asm); (case G => exact TreeG.mono (by assumption) (by repeat (first | assumption | exact sub_self | refine sub_tail ?_))); (case T => k_asm); (case hk => first | exact rfl | assumption); (case hd => ktr_room); (case hu => ktr_units); intro C' n' t5' h' tk' F' N' l1'; (simp only [AllLt] at l1'); (try dsimp only); (try k_fold)))
  k_with "call ref" => (k_here; (with_reducible show wpAny _ _ (call (Value.ref 197) _) _ _ _); k_dflt (refine' beneath1_A ?B ?F ?X ?G ?N ?T ?hk ?hd ?hu ?_; (case B => k_asm); (case F => k_asm); (case X => k_asm); (case N => k_asm); (case G => exact TreeG.mono (by assumption) (by repeat (first | assumption | exact sub_self | refine sub_tail ?_))); (case T => k_asm); (case hk => first | exact rfl | assumption); (case hd => ktr_room); (case hu => ktr_units); intro C' n' t3' t4' t5' t6' h' tk' F' N' l1'; (simp only [AllLt] at l1'); (try dsimp only); (try k_fold)))
  k_with "call builtin:str.join" => (k_here; k_dflt (refine' join_strs ?k1 ?k2 ?k3 ?k4 ?_; (case k1 => first | assumption | exact News.isList (by k_asm) (by k_mem)); (case k2 => assumption); (case k3 => decide +kernel); (case k4 => decide +kernel); intro u' k'))
  k_with "eval ListComp" => (k_here; k_dflt (refine LCt.ListComp_T (F₀ := by k_asm) (by with_unfolding_all rfl) (by decide) (by rfl) (by decide) (by rfl) ?_); lct_toSrc)
  k_with "compareOp NotIn str ref" => (k_here; k_dflt (first | (refine notin_made (by k_asm) (by k_mem) true (.inl ⟨rfl, by assumption, by assumption⟩) ?_) | (refine notin_made (by k_asm) (by k_mem) true (.inl ⟨rfl, by decide, by decide⟩) ?_) | (refine notin_made (by k_asm) (by k_mem) false (.inr ⟨rfl, by first | exact .inl rfl | exact .inr rfl⟩) ?_)))
  obtain ⟨dT, kT, nR, a1, a2, -⟩ := G.top
  have N0 := news_more a1 N (news_more a2 N N)
  clear N
  refine wpAny_call ?_
  k_dflt (refine' code_defC ?k1 ?k2 ?k3 ?k4 ?k5 ?kA ?kF ?kK ?k6 ?k7 ?k8 ?k9 ?kB ?kD ?_ ?c2 ?c3 ?c4; (case kA => exact rfl); (case kF => exact rfl); (case kK => assumption); (case k1 => k_asm); (case k2 => k_asm); (case k3 => assumption); (case k4 => k_asm); (case k5 => assumption); (case k6 => k_is); (case k7 => k_is); (case k8 => ktr_room); (case k9 => exact BindsTo.of_eq rfl); (case kB => exact rfl); (case kD => decide +kernel); (case c2 => exact rfl); (case c3 => exact rfl); (case c4 => exact rfl); k_whole)
  intro g' L' h' tk' cells' FG' F' N' Y' B' X' T' l1
  (try k_lt l1)
  k_cells Y'
  (try simp only [List.cons_append, List.nil_append] at N')
  (try dsimp only)
  (try k_fold)
  repeat' (first | walk1 | (dsimp only; walk1))
  (rename News h₀ _ _ _ => NN)
  exact ret _ _ _ (by assumption) (news_sub NN (by repeat (first | exact sub_self | refine sub_tail ?_)))

set_option maxHeartbeats 0 in
theorem strval4_A {T0 R : Addr} {led : List (Addr × Obj)} {xs : List Trip} {keep : List (Addr × Obj)} {tk : Tok}
    (B : Below A₀ base outer h₀) (F : Fr h₀ L s.heap m) (X : (KK w.params).In h₀) (G : TreeG w led T0 R xs rowsE keep) (N : News h₀ L s.heap led)
    (T : Top p loose mean mg mb h₀) (hk : cs.kind = .function) (hd : dp + 34 ≤ 900) (hu : un + 340 ≤ 1000)
    (ret : ∀ t h' tk', Fr h₀ L h' m → News h₀ L h' led → Q (.str (Str.ofString "c{") t) { s with heap := h', toks := tk' }) :
    wpAny (model PySem.Challenge.rw_xm0674_01.prog w) (ktrTop dp un gd cn cs L a ccd cl outer) (call (.ref 202) [.ref T0, .int ((4 : Nat) : Int) tk]) Q E s := by
  k_with_none
  k_with "memR" => (first | with_reducible assumption | exact List.Mem.head _ | (refine' List.Mem.tail _ ?_; k_extra "memR"))
  k_with "memD" => (first | exact List.Mem.head _ | assumption | (refine' List.Mem.tail _ ?_; k_extra "memD"))
  k_with "mem" => (first | k_extra "memR" | k_extra "memD")
  k_with "allR" => (first | with_reducible assumption | exact List.forall_mem_nil _ | (refine' List.forall_mem_cons.mpr ⟨?a, ?b⟩; (case a => first | with_reducible assumption | k_ne); (case b => k_extra "allR")))
  k_with "all" => (first | with_reducible assumption | exact List.forall_mem_nil _ | with_reducible (first | exact aa0 (by assumption) | exact aa1 (by assumption) | exact aa2 (by assumption) | exact aa3 (by assumption) | exact aa4 (by assumption) | exact aa5 (by assumption) | exact aa6 (by assumption) | exact aa7 (by assumption) | exact ab0 (by assumption) (by assumption) | exact ab1 (by assumption) (by assumption)) | k_extra "allR" | assumption)
  k_with "cj" => (with_reducible (first | assumption | exact cj0 (by assumption) | exact cj1 (by assumption) | exact cj2 (by assumption) | exact cj3 (by assumption) | exact cj4 (by assumption) | exact cj5 (by assumption) | exact cj6 (by assumption) | exact cj7 (by assumption) | exact cj8 (by assumption) | exact cj9 (by assumption) | exact cj10 (by assumption) | exact cj11 (by assumption) | exact cj12 (by assumption) | exact cj13 (by assumption) | exact cj14 (by assumption) | exact cj15 (by assumption) | exact cj16 (by assumption) | exact cl1 (by assumption) | exact cl2 (by assumption) | exact cl3 (by assumption) | exact cl4 (by assumption) | exact cl5 (by assumption) | exact cl6 (by assumption) | exact cl7 (by assumption) | exact cl8 (by assumption) | exact cl9 (by assumption) | exact cl10 (by assumption) | exact cl11 (by assumption) | exact cl12 (by assumption) | exact cl13 (by assumption) | exact cl14 (by assumption) | exact cl15 (by assumption) | exact cl16 (by assumption) | exact ct0t0x (by assumption) | exact ct0t1x (by assumption) | exact ct0t2x (by assumption) | exact ct1t0x (by assumption) | exact ct1t1x (by assumption) | exact ct1t2x (by assumption) | exact ct2t0x (by assumption) | exact ct2t1x (by assumption) | exact ct2t2x (by assumption) | exact ct3t0x (by assumption) | exact ct3t1x (by assumption) | exact ct3t2x (by assumption) | exact ct4t0x (by assumption) | exact ct4t1x (by assumption) | exact ct4t2x (by assumption)))
  k_with "ne" => ((refine neN ?_; (try dsimp only); first | with_reducible (first | assumption | exact ngt (by assumption) | exact nlt (by assumption) | exact Ne.symm (by assumption)) | with_reducible (first | exact al0 (by assumption) | exact ar0 (by assumption) | exact al1 (by assumption) | exact ar1 (by assumption) | exact al2 (by assumption) | exact ar2 (by assumption) | exact al3 (by assumption) | exact ar3 (by assumption) | exact al4 (by assumption) | exact ar4 (by assumption) | exact al5 (by assumption) | exact ar5 (by assumption) | exact al6 (by assumption) | exact ar6 (by assumption) | exact al7 (by assumption) | exact ar7 (by assumption) | exact al8 (by assumption) | exact ar8 (by assumption) | exact al9 (by assumption) | exact ar9 (by assumption) | exact al10 (by assumption) | exact ar10 (by assumption) | exact al11 (by assumption) | exact ar11 (by assumption) | exact al12 (by assumption) | exact ar12 (by assumption) | exact al13 (by assumption) | exact ar13 (by assumption) | exact al14 (by assumption) | exact ar14 (by assumption) | exact al15 (by assumption) | exact ar15 (by assumption)) | with_reducible (first | exact at0 (by assumption) (by assumption) | exact au0 (by assumption) (by assumption) | exact at1 (by assumption) (by assumption) | exact au1 (by assumption) (by assumption) | exact at2 (by assumption) (by assumption) | exact au2 (by assumption) (by assumption) | exact at3 (by assumption) (by assumption) | exact au3 (by assumption) (by assumption) | exact at4 (by assumption) (by assumption) | exact au4 (by assumption) (by assumption) | exact at5 (by assumption) (by assumption) | exact au5 (by assumption) (by assumption) | exact at6 (by assumption) (by assumption) | exact au6 (by assumption) (by assumption) | exact at7 (by assumption) (by assumption) | exact au7 (by assumption) (by assumption)) | with_reducible (first | exact av0 (by assumption) | exact avs0 (by assumption) | exact av1 (by assumption) | exact avs1 (by assumption) | exact av2 (by assumption) | exact avs2 (by assumption) | exact av3 (by assumption) | exact avs3 (by assumption) | exact av4 (by assumption) | exact avs4 (by assumption) | exact av5 (by assumption) | exact avs5 (by assumption) | exact aw0 (by assumption) | exact aws0 (by assumption) | exact aw1 (by assumption) | exact aws1 (by assumption) | exact aw2 (by assumption) | exact aws2 (by assumption) | exact aw3 (by assumption) | exact aws3 (by assumption) | exact aw4 (by assumption) | exact aws4 (by assumption) | exact aw5 (by assumption) | exact aws5 (by assumption)) | (refine nlt ?_; k_data) | (refine ngt ?_; k_data) | k_data | (refine Ne.symm ?_; k_data) | (refine ngt1 ?_; k_data) | (refine ngt2 ?_; k_data) | (refine nlt1 ?_; k_data) | (refine nlt2 ?_; k_data) | omega))
  k_with "room" => (first | exact room_le2 (by assumption) (by exact rfl) | exact room_lt2 (by assumption) (by exact rfl) | exact room_le1 (by assumption) (by exact rfl) | exact room_lt1 (by assumption) (by exact rfl) | exact room_le3 (by assumption) (by exact rfl) | exact room_lt3 (by assumption) (by exact rfl) | exact room_ltF (by assumption) (by exact rfl) (by exact rfl))
  k_with "units" => (first | exact unit_le2 (by assumption) (by exact rfl) | exact unit_lt2 (by assumption) (by exact rfl) | exact unit_le1 (by assumption) (by exact rfl) | exact unit_lt1 (by assumption) (by exact rfl) | exact unit_le3 (by assumption) (by exact rfl) | exact unit_lt3 (by assumption) (by exact rfl) | exact unit_ltE (by assumption) (by exact rfl) (by exact rfl) | exact unit_ltF (by assumption) (by exact rfl) (by exact rfl))
  k_with "callWith ref nil nil" => (k_here; k_dflt (refine' callWith_K ?k1 ?k2 ?_; (case k1 => k_asm); (case k2 => k_is); k_whole))
  k_with "eval Name" => (k_here; k_dflt (refine' nameX_L ?F ?v ?_ ?a ?b; (case b => exact rfl); (case F => k_asm); (case a => rfl); (case v => rfl); k_whole))
  k_with "eval Name" => (k_here; k_dflt (refine' nameX_K ?F ?X ?T ?e ?_ ?a ?b; (case b => exact rfl); (case F => k_asm); (case X => k_asm); (case T => k_asm); (case a => rfl); (case e => k_is); k_whole))
  k_with "eval Name" => (k_here; k_dflt (refine' nameX_B ?F ?X ?T ?e ?v ?n ?_ ?a ?b; (case b => exact rfl); (case F => k_asm); (case X => k_asm); (case T => k_asm); (case a => rfl); (case e => k_is); (case v => boot_fast); (case n => decide); k_whole))
  k_with "subscriptTail Name Constant ref int" => (k_here; (with_reducible show wpAny _ _ (subscriptTail _ _ (Value.ref _) (Value.int _ _)) _ _ _); k_dflt (first | (refine' item_tupleT ?t ?a ?b ?c ?d ?_; (case t => first | with_reducible assumption | exact News.isTup (by k_asm) (by k_mem)); (case a => decide); (case b => decide); (case c => rfl); (case d => rfl); k_whole) | (refine' topTup_K ?F ?X ?l ?a ?b ?c ?d ?_; (case F => k_asm); (case X => k_asm); (case l => k_is); (case a => decide); (case b => decide); (case c => rfl); (case d => rfl)) | (refine' topList_K ?F ?X ?l ?a ?b ?d ?_; (case F => k_asm); (case X => k_asm); (case l => k_is); (case a => decide); (case b => decide); (case d => rfl); k_whole)))
  k_with "subscriptTail Name Constant ref int" => (k_here; (with_reducible show wpAny _ _ (subscriptTail _ _ (Value.ref _) (Value.int _ _)) _ _ _); (with_unfolding_all refine' item_litK ?k1 ?k2 ?k3 ?k4 ?_ ?k6; (case k1 => is_list); (case k2 => decide); (case k3 => decide); (case k4 => rfl); (case k6 => with_unfolding_all rfl); k_whole))
  k_with "call builtin:list.pop" => (k_here; k_dflt ((with_reducible show wpAny _ _ (call (Value.builtin _) [Value.ref _]) _ _ _); refine' kl_pop ?F ?N ?e ?U ?z ?_; (case F => k_asm); (case N => k_asm); (case U => k_upd); (case e => rfl); (case z => kl_room)); kl_rest)
  k_with "lt" => with_reducible (first | assumption | exact ll0 (by assumption) | exact ll1 (by assumption) | exact ll2 (by assumption) | exact ll3 (by assumption) | exact ll4 (by assumption) | exact ll5 (by assumption) | exact ll6 (by assumption) | exact ll7 (by assumption) | exact ll8 (by assumption) | exact ll9 (by assumption) | exact ll10 (by assumption) | exact ll11 (by assumption) | exact ll12 (by assumption) | exact ll13 (by assumption) | exact la0 (by assumption) | exact la1 (by assumption) | exact la2 (by assumption) | exact la3 (by assumption) | exact la4 (by assumption) | exact la5 (by assumption) | exact la6 (by assumption) | exact la7 (by assumption))
  k_with "keeplt" => skip
  k_with "ite" => with_reducible (first | refine ite_tt ?_ | refine ite_ff ?_)
  k_with "subscriptTail Attribute Name Name ref int" => (walk_at "last subscriptTail")
  k_with "callWith ref cons nil" => (k_here; k_dflt (refine' callWith_K ?k1 ?k2 ?_; (case k1 => k_asm); (case k2 => k_is); k_whole))
  k_with "call ref" => (k_here; (with_reducible show wpAny _ _ (call (Value.ref 1170) _) _ _ _); k_dflt (refine' kind_A ?B ?F ?X ?G ?N1 ?sub ?hr ?hz ?T ?hk ?hd ?hu ?_; (case B => k_asm); (case F => k_asm); (case X => k_asm); (case G => assumption); (case N1 => k_asm); (case sub => (repeat (first | assumption | exact sub_self | refine sub_tail ?_))); (case hr => first | assumption | exact rfl); (case hz => decide); (case T => k_asm); (case hk => first | exact rfl | assumption); (case hd => ktr_room); (case hu => ktr_units); intro t' h' tk' F' N'; (try dsimp only [rowsE]); (try k_fold)))
  k_with "call ref" => (k_here; (with_reducible show wpAny _ _ (call (Value.ref 1198) _) _ _ _); k_dflt (refine' value_A ?B ?F ?X ?G ?N1 ?sub ?hr ?hz ?T ?hk ?hd ?hu ?_; (case B => k_asm); (case F => k_asm); (case X => k_asm); (case G => assumption); (case N1 => k_asm); (case sub => (repeat (first | assumption | exact sub_self | refine sub_tail ?_))); (case hr => first | assumption | exact rfl); (case hz => decide); (case T => k_asm); (case hk => first | exact rfl | assumption); (case hd => ktr_room); (case hu => ktr_units); intro t' h' tk' F' N'; (try dsimp only [rowsE]); (try k_fold)))
  k_with "call ref" => (k_here; (with_reducible show wpAny _ _ (call (Value.ref 1212) _) _ _ _); k_dflt (refine' children_A ?B ?F ?X ?G ?N1 ?sub ?hr ?hz ?hzk ?T ?hk ?hd ?hu ?_; (case B => k_asm); (case F => k_asm); (case X => k_asm); (case G => assumption); (case N1 => k_asm); (case sub => (repeat (first | assumption | exact sub_self | refine sub_tail ?_))); (case hr => first | assumption | exact rfl); (case hz => decide); (case hzk => decide); (case T => k_asm); (case hk => first | exact rfl | assumption); (case hd => ktr_room); (case hu => ktr_units); intro f' C' n' h' tk' F' N' l1'; (dsimp only [intsF] at N'); (simp only [AllLt] at l1'); (try dsimp only); (try k_fold)))
  k_with "call ref" => (k_here; (with_reducible show wpAny _ _ (call (Value.ref 197) _) _ _ _); k_dflt (refine' beneath4_A ?B ?F ?X ?G ?N ?T ?hk ?hd ?hu ?_; (case B => k_asm); (case F => k_asm); (case X => k_asm); (case N => k_asm); (case G => exact TreeG.mono (by assumption) (by repeat (first | assumption | exact sub_self | refine sub_tail ?_))); (case T => k_asm); (case hk => first | exact rfl | assumption); (case hd => ktr_room); (case hu => ktr_units); intro C' n' t5' h' tk' F' N' l1'; (simp only [AllLt] at l1'); (try dsimp only); (try k_fold)))
  k_with "call ref" => (k_here; (with_reducible show wpAny _ _ (call (Value.ref 197) _) _ _ _); k_dflt (refine' beneath1_A ?B ?F ?X ?G ?N ?T ?hk ?hd ?hu ?_; (case B => k_asm); (case F => k_asm); (case X => k_asm); (case N => k_asm); (case G => exact TreeG.mono (by assumption) (by repeat (first | assumption | exact sub_self | refine sub_tail ?_))); (case T => k_asm); (case hk => first | exact rfl | assumption); (case hd => ktr_room); (case hu => ktr_units); intro C' n' t3' t4' t5' t6' h' tk' F' N' l1'; (simp only [AllLt] at l1'); (try dsimp only); (try k_fold)))
  k_with "call builtin:str.join" => (k_here; k_dflt (refine' join_strs ?k1 ?k2 ?k3 ?k4 ?_; (case k1 => first | assumption | exact News.isList (by k_asm) (by k_mem)); (case k2 => assumption); (case k3 => decide +kernel); (case k4 => decide +kernel); intro u' k'))
  k_with "eval ListComp" => (k_here; k_dflt (refine LCt.ListComp_T (F₀ := by k_asm) (by with_unfolding_all rfl) (by decide) (by rfl) (by decide) (by rfl) ?_); lct_toSrc)
  k_with "compareOp NotIn str ref" => (k_here; k_dflt (first | (refine notin_made (by k_asm) (by k_mem) true (.inl ⟨rfl, by assumption, by assumption⟩) ?_) | (refine notin_made (by k_asm) (by k_mem) true (.inl ⟨rfl, by decide, by decide⟩) ?_) | (refine notin_made (by k_asm) (by k_mem) false (.inr ⟨rfl, by first | exact .inl rfl | exact .inr rfl⟩) ?_)))
  obtain ⟨dT, kT, nR, a1, a2, -⟩ := G.top
  have N0 := news_more a1 N (news_more a2 N N)
  clear N
  k_with "CompSrcT" =>
    k_dflt (refine' LCt.CompSrcT.ledger ?q1 ?q2 ?q3 ?q4 ?q5 ?_)
    (case q1 => k_dflt (exact rfl))
    (case q2 => k_dflt k_asm)
    (case q3 => k_dflt k_asm)
    (case q4 => k_dflt k_mem)
    (case q5 => exact Nat.le_of_ble_eq_true rfl)
    intro g'
    k_dflt (refine' text_rest [5] ?q1 ?q2 ?_ ?_)
    (case q1 => exact intsV_at (.cons .nil))
    (case q2 => exact rows_some (by decide))
    (intro k' row' t' I' oI' C' oC' D' m' ys' h' tk' E' hrow' hC' hx' F' N' off' ne')
    rotate_left
    (intro ys' hys')
    rotate_left
  refine wpAny_call ?_
  k_dflt (refine' code_defC ?k1 ?k2 ?k3 ?k4 ?k5 ?kA ?kF ?kK ?k6 ?k7 ?k8 ?k9 ?kB ?kD ?_ ?c2 ?c3 ?c4; (case kA => exact rfl); (case kF => exact rfl); (case kK => assumption); (case k1 => k_asm); (case k2 => k_asm); (case k3 => assumption); (case k4 => k_asm); (case k5 => assumption); (case k6 => k_is); (case k7 => k_is); (case k8 => ktr_room); (case k9 => exact BindsTo.of_eq rfl); (case kB => exact rfl); (case kD => decide +kernel); (case c2 => exact rfl); (case c3 => exact rfl); (case c4 => exact rfl); k_whole)
  intro g' L' h' tk' cells' FG' F' N' Y' B' X' T' l1
  (try k_lt l1)
  k_cells Y'
  (try simp only [List.cons_append, List.nil_append] at N')
  (try dsimp only)
  (try k_fold)
  repeat' (first | walk1 | (dsimp only; walk1))
  · show LCg.CompEnd _ _ _ _ _ _ _ _ _ _ _ _ _ _
    refine LCg.CompEnd.intro (by assumption) (by assumption) _ sub_self (by assumption) (.inr ⟨_, by k_dflt k_mem, rfl, _, rfl⟩) ⟨rfl, by assumption, _, rfl⟩
  · refine LCg.CompEnd.intro (by assumption) (by assumption) _ sub_self (by assumption) (.inr ⟨_, by k_dflt k_mem, rfl, _, rfl⟩) ⟨rfl, by assumption⟩
  · have e9 : Str.join (Str.ofString "") (List.flatMap textOf [5]) = Str.ofString "c{" := by decide +kernel
    rw [e9]
    exact ret _ _ _ (by assumption) (news_sub (by assumption) (by repeat (first | exact sub_self | refine sub_tail ?_)))
set_option maxHeartbeats 0 in
theorem strval1_A {T0 R : Addr} {led : List (Addr × Obj)} {xs : List Trip} {keep : List (Addr × Obj)} {tk : Tok}
    (B : Below A₀ base outer h₀) (F : Fr h₀ L s.heap m) (X : (KK w.params).In h₀) (G : TreeG w led T0 R xs rowsE keep) (N : News h₀ L s.heap led)
    (T : Top p loose mean mg mb h₀) (hk : cs.kind = .function) (hd : dp + 34 ≤ 900) (hu : un + 340 ≤ 1000)
    (ret : ∀ t h' tk', Fr h₀ L h' m → News h₀ L h' led → Q (.str (Str.ofString "bc{") t) { s with heap := h', toks := tk' }) :
    wpAny (model PySem.Challenge.rw_xm0674_01.prog w) (ktrTop dp un gd cn cs L a ccd cl outer) (call (.ref 202) [.ref T0, .int ((1 : Nat) : Int) tk]) Q E s := by
  k_with_none
  k_with "memR" => (first | with_reducible assumption | exact List.Mem.head _ | (refine' List.Mem.tail _ ?_; k_extra "memR"))
  k_with "memD" => (first | exact List.Mem.head _ | assumption | (refine' List.Mem.tail _ ?_; k_extra "memD"))
  k_with "mem" => (first | k_extra "memR" | k_extra "memD")
  k_with "allR" => (first | with_reducible assumption | exact List.forall_mem_nil _ | (refine' List.forall_mem_cons.mpr ⟨?a, ?b⟩; (case a => first | with_reducible assumption | k_ne); (case b => k_extra "allR")))
  k_with "all" => (first | with_reducible assumption | exact List.forall_mem_nil _ | with_reducible (first | exact aa0 (by assumption) | exact aa1 (by assumption) | exact aa2 (by assumption) | exact aa3 (by assumption) | exact aa4 (by assumption) | exact aa5 (by assumption) | exact aa6 (by assumption) | exact aa7 (by assumption) | exact ab0 (by assumption) (by assumption) | exact ab1 (by assumption) (by assumption)) | k_extra "allR" | assumption)
  k_with "cj" => (with_reducible (first | assumption | exact cj0 (by assumption) | exact cj1 (by assumption) | exact cj2 (by assumption) | exact cj3 (by assumption) | exact cj4 (by assumption) | exact cj5 (by assumption) | exact cj6 (by assumption) | exact cj7 (by assumption) | exact cj8 (by assumption) | exact cj9 (by assumption) | exact cj10 (by assumption) | exact cj11 (by assumption) | exact cj12 (by assumption) | exact cj13 (by assumption) | exact cj14 (by assumption) | exact cj15 (by assumption) | exact cj16 (by assumption) | exact cl1 (by assumption) | exact cl2 (by assumption) | exact cl3 (by assumption) | exact cl4 (by assumption) | exact cl5 (by assumption) | exact cl6 (by assumption) | exact cl7 (by assumption) | exact cl8 (by assumption) | exact cl9 (by assumption) | exact cl10 (by assumption) | exact cl11 (by assumption) | exact cl12 (by assumption) | exact cl13 (by assumption) | exact cl14 (by assumption) | exact cl15 (by assumption) | exact cl16 (by assumption) | exact ct0t0x (by assumption) | exact ct0t1x (by assumption) | exact ct0t2x (by assumption) | exact ct1t0x (by assumption) | exact ct1t1x (by assumption) | exact ct1t2x (by assumption) | exact ct2t0x (by assumption) | exact ct2t1x (by assumption) | exact ct2t2x (by assumption) | exact ct3t0x (by assumption) | exact ct3t1x (by assumption) | exact ct3t2x (by assumption) | exact ct4t0x (by assumption) | exact ct4t1x (by assumption) | exact ct4t2x (by assumption)))
  k_with "ne" => ((refine neN ?_; (try dsimp only); first | with_reducible (first | assumption | exact ngt (by assumption) | exact nlt (by assumption) | exact Ne.symm (by assumption)) | with_reducible (first | exact al0 (by assumption) | exact ar0 (by assumption) | exact al1 (by assumption) | exact ar1 (by assumption) | exact al2 (by assumption) | exact ar2 (by assumption) | exact al3 (by assumption) | exact ar3 (by assumption) | exact al4 (by assumption) | exact ar4 (by assumption) | exact al5 (by assumption) | exact ar5 (by assumption) | exact al6 (by assumption) | exact ar6 (by assumption) | exact al7 (by assumption) | exact ar7 (by assumption) | exact al8 (by assumption) | exact ar8 (by assumption) | exact al9 (by assumption) | exact ar9 (by assumption) | exact al10 (by assumption) | exact ar10 (by assumption) | exact al11 (by assumption) | exact ar11 (by assumption) | exact al12 (by assumption) | exact ar12 (by assumption) | exact al13 (by assumption) | exact ar13 (by assumption) | exact al14 (by assumption) | exact ar14 (by assumption) | exact al15 (by assumption) | exact ar15 (by assumption)) | with_reducible (first | exact at0 (by assumption) (by assumption) | exact au0 (by assumption) (by assumption) | exact at1 (by assumption) (by assumption) | exact au1 (by assumption) (by assumption) | exact at2 (by assumption) (by assumption) | exact au2 (by assumption) (by assumption) | exact at3 (by assumption) (by assumption) | exact au3 (by assumption) (by assumption) | exact at4 (by assumption) (by assumption) | exact au4 (by assumption) (by assumption) | exact at5 (by assumption) (by assumption) | exact au5 (by assumption) (by assumption) | exact at6 (by assumption) (by assumption) | exact au6 (by assumption) (by assumption) | exact at7 (by assumption) (by assumption) | exact au7 (by assumption) (by assumption)) | with_reducible (first | exact av0 (by assumption) | exact avs0 (by assumption) | exact av1 (by assumption) | exact avs1 (by assumption) | exact av2 (by assumption) | exact avs2 (by assumption) | exact av3 (by assumption) | exact avs3 (by assumption) | exact av4 (by assumption) | exact avs4 (by assumption) | exact av5 (by assumption) | exact avs5 (by assumption) | exact aw0 (by assumption) | exact aws0 (by assumption) | exact aw1 (by assumption) | exact aws1 (by assumption) | exact aw2 (by assumption) | exact aws2 (by assumption) | exact aw3 (by assumption) | exact aws3 (by assumption) | exact aw4 (by assumption) | exact aws4 (by assumption) | exact aw5 (by assumption) | exact aws5 (by assumption)) | (refine nlt ?_; k_data) | (refine ngt ?_; k_data) | k_data | (refine Ne.symm ?_; k_data) | (refine ngt1 ?_; k_data) | (refine ngt2 ?_; k_data) | (refine nlt1 ?_; k_data) | (refine nlt2 ?_; k_data) | omega))
  k_with "room" => (first | exact room_le2 (by assumption) (by exact rfl) | exact room_lt2 (by assumption) (by exact rfl) | exact room_le1 (by assumption) (by exact rfl) | exact room_lt1 (by assumption) (by exact rfl) | exact room_le3 (by assumption) (by exact rfl) | exact room_lt3 (by assumption) (by exact rfl) | exact room_ltF (by assumption) (by exact rfl) (by exact rfl))
  k_with "units" => (first | exact unit_le2 (by assumption) (by exact rfl) | exact unit_lt2 (by assumption) (by exact rfl) | exact unit_le1 (by assumption) (by exact rfl) | exact unit_lt1 (by assumption) (by exact rfl) | exact unit_le3 (by assumption) (by exact rfl) | exact unit_lt3 (by assumption) (by exact rfl) | exact unit_ltE (by assumption) (by exact rfl) (by exact rfl) | exact unit_ltF (by assumption) (by exact rfl) (by exact rfl))
  k_with "callWith ref nil nil" => (k_here; k_dflt (refine' callWith_K ?k1 ?k2 ?_; (case k1 => k_asm); (case k2 => k_is); k_whole))
  k_with "eval Name" => (k_here; k_dflt (refine' nameX_L ?F ?v ?_ ?a ?b; (case b => exact rfl); (case F => k_asm); (case a => rfl); (case v => rfl); k_whole))
  k_with "eval Name" => (k_here; k_dflt (refine' nameX_K ?F ?X ?T ?e ?_ ?a ?b; (case b => exact rfl); (case F => k_asm); (case X => k_asm); (case T => k_asm); (case a => rfl); (case e => k_is); k_whole))
  k_with "eval Name" => (k_here; k_dflt (refine' nameX_B ?F ?X ?T ?e ?v ?n ?_ ?a ?b; (case b => exact rfl); (case F => k_asm); (case X => k_asm); (case T => k_asm); (case a => rfl); (case e => k_is); (case v => boot_fast); (case n => decide); k_whole))
  k_with "subscriptTail Name Constant ref int" => (k_here; (with_reducible show wpAny _ _ (subscriptTail _ _ (Value.ref _) (Value.int _ _)) _ _ _); k_dflt (first | (refine' item_tupleT ?t ?a ?b ?c ?d ?_; (case t => first | with_reducible assumption | exact News.isTup (by k_asm) (by k_mem)); (case a => decide); (case b => decide); (case c => rfl); (case d => rfl); k_whole) | (refine' topTup_K ?F ?X ?l ?a ?b ?c ?d ?_; (case F => k_asm); (case X => k_asm); (case l => k_is); (case a => decide); (case b => decide); (case c => rfl); (case d => rfl)) | (refine' topList_K ?F ?X ?l ?a ?b ?d ?_; (case F => k_asm); (case X => k_asm); (case l => k_is); (case a => decide); (case b => decide); (case d => rfl); k_whole)))
  k_with "subscriptTail Name Constant ref int" => (k_here; (with_reducible show wpAny _ _ (subscriptTail _ _ (Value.ref _) (Value.int _ _)) _ _ _); (with_unfolding_all refine' item_litK ?k1 ?k2 ?k3 ?k4 ?_ ?k6; (case k1 => is_list); (case k2 => decide); (case k3 => decide); (case k4 => rfl); (case k6 => with_unfolding_all rfl); k_whole))
  k_with "call builtin:list.pop" => (k_here; k_dflt ((with_reducible show wpAny _ _ (call (Value.builtin _) [Value.ref _]) _ _ _); refine' kl_pop ?F ?N ?e ?U ?z ?_; (case F => k_asm); (case N => k_asm); (case U => k_upd); (case e => rfl); (case z => kl_room)); kl_rest)
  k_with "lt" => with_reducible (first | assumption | exact ll0 (by assumption) | exact ll1 (by assumption) | exact ll2 (by assumption) | exact ll3 (by assumption) | exact ll4 (by assumption) | exact ll5 (by assumption) | exact ll6 (by assumption) | exact ll7 (by assumption) | exact ll8 (by assumption) | exact ll9 (by assumption) | exact ll10 (by assumption) | exact ll11 (by assumption) | exact ll12 (by assumption) | exact ll13 (by assumption) | exact la0 (by assumption) | exact la1 (by assumption) | exact la2 (by assumption) | exact la3 (by assumption) | exact la4 (by assumption) | exact la5 (by assumption) | exact la6 (by assumption) | exact la7 (by assumption))
  k_with "keeplt" => skip
  k_with "ite" => with_reducible (first | refine ite_tt ?_ | refine ite_ff ?_)
  k_with "subscriptTail Attribute Name Name ref int" => (walk_at "last subscriptTail")
  k_with "callWith ref cons nil" => (k_here; k_dflt (refine' callWith_K ?k1 ?k2 ?_; (case k1 => k_asm); (case k2 => k_is); k_whole))
  k_with "call ref" => (k_here; (with_reducible show wpAny _ _ (call (Value.ref 1170) _) _ _ _); k_dflt (refine' kind_A ?B ?F ?X ?G ?N1 ?sub ?hr ?hz ?T ?hk ?hd ?hu ?_; (case B => k_asm); (case F => k_asm); (case X => k_asm); (case G => assumption); (case N1 => k_asm); (case sub => (repeat (first | assumption | exact sub_self | refine sub_tail ?_))); (case hr => first | assumption | exact rfl); (case hz => decide); (case T => k_asm); (case hk => first | exact rfl | assumption); (case hd => ktr_room); (case hu => ktr_units); intro t' h' tk' F' N'; (try dsimp only [rowsE]); (try k_fold)))
  k_with "call ref" => (k_here; (with_reducible show wpAny _ _ (call (Value.ref 1198) _) _ _ _); k_dflt (refine' value_A ?B ?F ?X ?G ?N1 ?sub ?hr ?hz ?T ?hk ?hd ?hu ?_; (case B => k_asm); (case F => k_asm); (case X => k_asm); (case G => assumption); (case N1 => k_asm); (case sub => (repeat (first | assumption | exact sub_self | refine sub_tail ?_))); (case hr => first | assumption | exact rfl); (case hz => decide); (case T => k_asm); (case hk => first | exact rfl | assumption); (case hd => ktr_room); (case hu => ktr_units); intro t' h' tk' F' N'; (try dsimp only [rowsE]); (try k_fold)))
  k_with "call ref" => (k_here; (with_reducible show wpAny _ _ (call (Value.ref 1212) _) _ _ _); k_dflt (refine' children_A ?B ?F ?X ?G ?N1 ?sub ?hr ?hz ?hzk ?T ?hk ?hd ?hu ?_; (case B => k_asm); (case F => k_asm); (case X => k_asm); (case G => assumption); (case N1 => k_asm); (case sub => (repeat (first | assumption | exact sub_self | refine sub_tail ?_))); (case hr => first | assumption | exact rfl); (case hz => decide); (case hzk => decide); (case T => k_asm); (case hk => first | exact rfl | assumption); (case hd => ktr_room); (case hu => ktr_units); intro f' C' n' h' tk' F' N' l1'; (dsimp only [intsF] at N'); (simp only [AllLt] at l1'); (try dsimp only); (try k_fold)))
  k_with "call ref" => (k_here; (with_reducible show wpAny _ _ (call (Value.ref 197) _) _ _ _); k_dflt (refine' beneath4_A ?B ?F ?X ?G ?N ?T ?hk ?hd ?hu ?_; (case B => k_asm); (case F => k_asm); (case X => k_asm); (case N => k_asm); (case G => exact TreeG.mono (by assumption) (by repeat (first | assumption | exact sub_self | refine sub_tail ?_))); (case T => k_asm); (case hk => first | exact rfl | assumption); (case hd => ktr_room); (case hu => ktr_units); intro C' n' t5' h' tk' F' N' l1'; (simp only [AllLt] at l1'); (try dsimp only); (try k_fold)))
  k_with "call ref" => (k_here; (with_reducible show wpAny _ _ (call (Value.ref 197) _) _ _ _); k_dflt (refine' beneath1_A ?B ?F ?X ?G ?N ?T ?hk ?hd ?hu ?_; (case B => k_asm); (case F => k_asm); (case X => k_asm); (case N => k_asm); (case G => exact TreeG.mono (by assumption) (by repeat (first | assumption | exact sub_self | refine sub_tail ?_))); (case T => k_asm); (case hk => first | exact rfl | assumption); (case hd => ktr_room); (case hu => ktr_units); intro C' n' t3' t4' t5' t6' h' tk' F' N' l1'; (simp only [AllLt] at l1'); (try dsimp only); (try k_fold)))
  k_with "call builtin:str.join" => (k_here; k_dflt (refine' join_strs ?k1 ?k2 ?k3 ?k4 ?_; (case k1 => first | assumption | exact News.isList (by k_asm) (by k_mem)); (case k2 => assumption); (case k3 => decide +kernel); (case k4 => decide +kernel); intro u' k'))
  k_with "eval ListComp" => (k_here; k_dflt (refine LCt.ListComp_T (F₀ := by k_asm) (by with_unfolding_all rfl) (by decide) (by rfl) (by decide) (by rfl) ?_); lct_toSrc)
  k_with "compareOp NotIn str ref" => (k_here; k_dflt (first | (refine notin_made (by k_asm) (by k_mem) true (.inl ⟨rfl, by assumption, by assumption⟩) ?_) | (refine notin_made (by k_asm) (by k_mem) true (.inl ⟨rfl, by decide, by decide⟩) ?_) | (refine notin_made (by k_asm) (by k_mem) false (.inr ⟨rfl, by first | exact .inl rfl | exact .inr rfl⟩) ?_)))
  obtain ⟨dT, kT, nR, a1, a2, -⟩ := G.top
  have N0 := news_more a1 N (news_more a2 N N)
  clear N
  k_with "CompSrcT" =>
    k_dflt (refine' LCt.CompSrcT.ledger ?q1 ?q2 ?q3 ?q4 ?q5 ?_)
    (case q1 => k_dflt (exact rfl))
    (case q2 => k_dflt k_asm)
    (case q3 => k_dflt k_asm)
    (case q4 => k_dflt k_mem)
    (case q5 => exact Nat.le_of_ble_eq_true rfl)
    intro g'
    k_dflt (refine' text_rest [3, 4, 5, 6] ?q1 ?q2 ?_ ?_)
    (case q1 => exact intsV_at (.cons (.cons (.cons (.cons .nil)))))
    (case q2 => exact rows_some (by decide))
    (intro k' row' t' I' oI' C' oC' D' m' ys' h' tk' E' hrow' hC' hx' F' N' off' ne')
    rotate_left
    (intro ys' hys')
    rotate_left
  refine wpAny_call ?_
  k_dflt (refine' code_defC ?k1 ?k2 ?k3 ?k4 ?k5 ?kA ?kF ?kK ?k6 ?k7 ?k8 ?k9 ?kB ?kD ?_ ?c2 ?c3 ?c4; (case kA => exact rfl); (case kF => exact rfl); (case kK => assumption); (case k1 => k_asm); (case k2 => k_asm); (case k3 => assumption); (case k4 => k_asm); (case k5 => assumption); (case k6 => k_is); (case k7 => k_is); (case k8 => ktr_room); (case k9 => exact BindsTo.of_eq rfl); (case kB => exact rfl); (case kD => decide +kernel); (case c2 => exact rfl); (case c3 => exact rfl); (case c4 => exact rfl); k_whole)
  intro g' L' h' tk' cells' FG' F' N' Y' B' X' T' l1
  (try k_lt l1)
  k_cells Y'
  (try simp only [List.cons_append, List.nil_append] at N')
  (try dsimp only)
  (try k_fold)
  repeat' (first | walk1 | (dsimp only; walk1))
  · show LCg.CompEnd _ _ _ _ _ _ _ _ _ _ _ _ _ _
    refine LCg.CompEnd.intro (by assumption) (by assumption) _ sub_self (by assumption) (.inr ⟨_, by k_dflt k_mem, rfl, _, rfl⟩) ⟨rfl, by assumption, _, rfl⟩
  · refine LCg.CompEnd.intro (by assumption) (by assumption) _ sub_self (by assumption) (.inr ⟨_, by k_dflt k_mem, rfl, _, rfl⟩) ⟨rfl, by assumption⟩
  · have e9 : Str.join (Str.ofString "") (List.flatMap textOf [3, 4, 5, 6]) = Str.ofString "bc{" := by decide +kernel
    rw [e9]
    exact ret _ _ _ (by assumption) (news_sub (by assumption) (by repeat (first | exact sub_self | refine sub_tail ?_)))
noncomputable def nodeTexts : List (Nat × Str) := [(1, Str.ofString "bc{"), (2, Str.ofString "v"), (3, Str.ofString "b"), (4, Str.ofString "c{"), (6, Str.ofString "d")]
theorem strval_A {T0 R : Addr} {led : List (Addr × Obj)} {xs : List Trip} {keep : List (Addr × Obj)} {tk : Tok} {k : Nat} {x : Str}
    (B : Below A₀ base outer h₀) (F : Fr h₀ L s.heap m) (X : (KK w.params).In h₀) (G : TreeG w led T0 R xs rowsE keep) (N : News h₀ L s.heap led) (hx : (k, x) ∈ nodeTexts)
    (T : Top p loose mean mg mb h₀) (hk : cs.kind = .function) (hd : dp + 34 ≤ 900) (hu : un + 340 ≤ 1000)
    (ret : ∀ t h' tk', Fr h₀ L h' m → News h₀ L h' led → Q (.str x t) { s with heap := h', toks := tk' }) :
    wpAny (model PySem.Challenge.rw_xm0674_01.prog w) (ktrTop dp un gd cn cs L a ccd cl outer) (call (.ref 202) [.ref T0, .int (k : Int) tk]) Q E s := by
  simp only [nodeTexts, List.mem_cons, Prod.mk.injEq, List.not_mem_nil, or_false] at hx
  rcases hx with ⟨rfl, rfl⟩ | ⟨rfl, rfl⟩ | ⟨rfl, rfl⟩ | ⟨rfl, rfl⟩ | ⟨rfl, rfl⟩
  · exact strval1_A B F X G N T hk hd hu ret
  · exact strvalL_A (k := 2) B F X G N rfl (by decide +kernel) (by decide +kernel) T hk hd hu ret
  · exact strvalL_A (k := 3) B F X G N rfl (by decide +kernel) (by decide +kernel) T hk hd hu ret
  · exact strval4_A B F X G N T hk hd hu ret
  · exact strvalL_A (k := 6) B F X G N rfl (by decide +kernel) (by decide +kernel) T hk hd hu ret
end
end

section -- W4
open PySem PySem.W PyProof.Rows PySem.Calls
theorem abs_is {prog : Program} {w : World} {A : Around} {E : Value → Shared → Prop} {s : Shared} {a c : Int} {t : Tok} {Q : Value → Shared → Prop} (ha : (if a < 0 then -a else a) = c) (h : ∀ u tk, Q (.int c u) { s with toks := tk }) : wpAny (model prog w) A (call (.builtin "abs") [.int a t]) Q E s :=
  call_abs_int fun u tk => by rw [ha]; exact h u tk
theorem small_ok {a b : Int} (h1 : 0 ≤ a) (h2 : a ≤ 1000) : IntMulOk a b := IntMulOk.of_left (intBits_le_64 (by omega) (by omega))
theorem fits_small {i : Int} (h0 : 0 ≤ i) (h1 : i ≤ 1000) : fitsSsize i = true := by
  unfold fitsSsize
  simp
  omega
noncomputable abbrev SC (ia j : Int) : Int := Int.fdiv (2 * ia * 1000000000000000 + j) (2 * j)
structure Fin1 (i j ia q : Int) (told P body x : Str) (e0 : Int) : Prop where
  hq : Int.fdiv (SC ia j) 1000000000000000 = q
  q0 : 0 ≤ q
  q1 : q ≤ 1000
  j0 : 0 < j
  j1 : j ≤ 1000
  ab : (if i < 0 then -i else i) = ia
  i0 : 0 ≤ ia
  i1 : ia ≤ 1000
  s0 : 0 ≤ SC ia j
  ht : Str.ofString (toString (Int.fdiv (SC ia j) 1000000000000000)) = told
  toldl : told.length ≤ 5
  hP : Txt.slice (Str.ofString (toString (1000000000000000 + Int.fmod (SC ia j) 1000000000000000))) (some 1) none = P
  hPx : (Str.ofString (toString (1000000000000000 + Int.fmod (SC ia j) 1000000000000000))).length = 16
  hPl : P.length = 15
  e1 : 1 ≤ e0
  e2 : e0 ≤ 15
  hz : 0 < Int.fmod (SC ia j) 1000000000000000 → ∀ k : Int, e0 < k → k ≤ 15 → (Txt.item P (k - 1) == Str.ofString "0") = true
  hn : 0 < Int.fmod (SC ia j) 1000000000000000 → (Txt.item P (e0 - 1) == Str.ofString "0") = false
  b0 : ¬ 0 < Int.fmod (SC ia j) 1000000000000000 → body = told
  b1 : 0 < Int.fmod (SC ia j) 1000000000000000 → body = told ++ Str.ofString "." ++ Txt.slice P none (some e0)
  x0 : i < 0 → x = Str.ofString "-" ++ body
  x1 : ¬ (i < 0) ∨ ¬ (0 < SC ia j) → x = body
theorem toNat_lt {k : Int} (h : 0 < k) : Int.toNat (k - 1) < Int.toNat k := by omega
theorem fin_k {P : Str} {e0 : Int} (hz : ∀ k : Int, e0 < k → k ≤ 15 → (Txt.item P (k - 1) == Str.ofString "0") = true) {k : Int} (h1 : e0 ≤ k ∧ k ≤ 15) (h2 : (Txt.item P (k - 1) == Str.ofString "0") = false) : k = e0 := by
  by_cases e : e0 < k
  · rw [hz k e h1.2] at h2; cases h2
  · omega
theorem turn_k {P : Str} {e0 : Int} (hn : (Txt.item P (e0 - 1) == Str.ofString "0") = false) {k : Int} (h1 : e0 ≤ k ∧ k ≤ 15) (h2 : (Txt.item P (k - 1) == Str.ofString "0") = true) : e0 ≤ k - 1 ∧ k - 1 ≤ 15 := by
  by_cases e : k = e0
  · rw [e, hn] at h2; cases h2
  · omega
section
variable (w : World) (p : Program) (loose : List Str) (mean : ExcName → Option Value) (mg mb : Str → Option Value)
    (dp un : Nat) (gd : Option (List Code)) (cn : Str) (cs : Scope) (a : Addr) (ccd : Value) (cl : List (Str × Addr)) (outer : List Env) (A₀ : Around) (base h₀ : Heap) (L : Addr) (m : Str → Option Value) (led : List (Addr × Obj)) (s : Shared)
    (Q E : Value → Shared → Prop)
set_option maxHeartbeats 0 in
theorem write_fin (tA : Addr) (i j ia q : Int) (told P body x : Str) (e0 : Int) (ti tj : Tok) (hf : Fin1 i j ia q told P body x e0)
    (B : Below A₀ base outer h₀) (F : Fr h₀ L s.heap m) (X : (KK w.params).In h₀) (N : News h₀ L s.heap ((tA, tupO #[.int i ti, .int j tj]) :: led))
    (T : Top p loose mean mg mb h₀) (hk : cs.kind = .function) (hd : dp + 16 ≤ 900) (hu : un + 200 ≤ 1000)
    (ret : ∀ t h' tk', Fr h₀ L h' m → News h₀ L h' ((tA, tupO #[.int i ti, .int j tj]) :: led) → Q (.str x t) { s with heap := h', toks := tk' }) :
    wpAny (model PySem.Challenge.rw_xm0674_01.prog w) (ktrTop dp un gd cn cs L a ccd cl outer) (call (.ref 173) [.ref tA]) Q E s := by
  k_with_none
  k_with "memR" => (first | with_reducible assumption | exact List.Mem.head _ | (refine' List.Mem.tail _ ?_; k_extra "memR"))
  k_with "memD" => (first | exact List.Mem.head _ | assumption | (refine' List.Mem.tail _ ?_; k_extra "memD"))
  k_with "mem" => (first | k_extra "memR" | k_extra "memD")
  k_with "allR" => (first | with_reducible assumption | exact List.forall_mem_nil _ | (refine' List.forall_mem_cons.mpr ⟨?a, ?b⟩; (case a => first | with_reducible assumption | k_ne); (case b => k_extra "allR")))
  k_with "all" => (first | with_reducible assumption | exact List.forall_mem_nil _ | with_reducible (first | exact aa0 (by assumption) | exact aa1 (by assumption) | exact aa2 (by assumption) | exact aa3 (by assumption) | exact aa4 (by assumption) | exact aa5 (by assumption) | exact aa6 (by assumption) | exact aa7 (by assumption) | exact ab0 (by assumption) (by assumption) | exact ab1 (by assumption) (by assumption)) | k_extra "allR" | assumption)
  k_with "cj" => (with_reducible (first | assumption | exact cj0 (by assumption) | exact cj1 (by assumption) | exact cj2 (by assumption) | exact cj3 (by assumption) | exact cj4 (by assumption) | exact cj5 (by assumption) | exact cj6 (by assumption) | exact cj7 (by assumption) | exact cj8 (by assumption) | exact cj9 (by assumption) | exact cj10 (by assumption) | exact cj11 (by assumption) | exact cj12 (by assumption) | exact cj13 (by assumption) | exact cj14 (by assumption) | exact cj15 (by assumption) | exact cj16 (by assumption) | exact cl1 (by assumption) | exact cl2 (by assumption) | exact cl3 (by assumption) | exact cl4 (by assumption) | exact cl5 (by assumption) | exact cl6 (by assumption) | exact cl7 (by assumption) | exact cl8 (by assumption) | exact cl9 (by assumption) | exact cl10 (by assumption) | exact cl11 (by assumption) | exact cl12 (by assumption) | exact cl13 (by assumption) | exact cl14 (by assumption) | exact cl15 (by assumption) | exact cl16 (by assumption) | exact ct0t0x (by assumption) | exact ct0t1x (by assumption) | exact ct0t2x (by assumption) | exact ct1t0x (by assumption) | exact ct1t1x (by assumption) | exact ct1t2x (by assumption) | exact ct2t0x (by assumption) | exact ct2t1x (by assumption) | exact ct2t2x (by assumption) | exact ct3t0x (by assumption) | exact ct3t1x (by assumption) | exact ct3t2x (by assumption) | exact ct4t0x (by assumption) | exact ct4t1x (by assumption) | exact ct4t2x (by assumption)))
  k_with "ne" => ((refine neN ?_; (try dsimp only); first | with_reducible (first | assumption | exact ngt (by assumption) | exact nlt (by assumption) | exact Ne.symm (by assumption)) | with_reducible (first | exact al0 (by assumption) | exact ar0 (by assumption) | exact al1 (by assumption) | exact ar1 (by assumption) | exact al2 (by assumption) | exact ar2 (by assumption) | exact al3 (by assumption) | exact ar3 (by assumption) | exact al4 (by assumption) | exact ar4 (by assumption) | exact al5 (by assumption) | exact ar5 (by assumption) | exact al6 (by assumption) | exact ar6 (by assumption) | exact al7 (by assumption) | exact ar7 (by assumption) | exact al8 (by assumption) | exact ar8 (by assumption) | exact al9 (by assumption) | exact ar9 (by assumption) | exact al10 (by assumption) | exact ar10 (by assumption) | exact al11 (by assumption) | exact ar11 (by assumption) | exact al12 (by assumption) | exact ar12 (by assumption) | exact al13 (by assumption) | exact ar13 (by assumption) | exact al14 (by assumption) | exact ar14 (by assumption) | exact al15 (by assumption) | exact ar15 (by assumption)) | with_reducible (first | exact at0 (by assumption) (by assumption) | exact au0 (by assumption) (by assumption) | exact at1 (by assumption) (by assumption) | exact au1 (by assumption) (by assumption) | exact at2 (by assumption) (by assumption) | exact au2 (by assumption) (by assumption) | exact at3 (by assumption) (by assumption) | exact au3 (by assumption) (by assumption) | exact at4 (by assumption) (by assumption) | exact au4 (by assumption) (by assumption) | exact at5 (by assumption) (by assumption) | exact au5 (by assumption) (by assumption) | exact at6 (by assumption) (by assumption) | exact au6 (by assumption) (by assumption) | exact at7 (by assumption) (by assumption) | exact au7 (by assumption) (by assumption)) | with_reducible (first | exact av0 (by assumption) | exact avs0 (by assumption) | exact av1 (by assumption) | exact avs1 (by assumption) | exact av2 (by assumption) | exact avs2 (by assumption) | exact av3 (by assumption) | exact avs3 (by assumption) | exact av4 (by assumption) | exact avs4 (by assumption) | exact av5 (by assumption) | exact avs5 (by assumption) | exact aw0 (by assumption) | exact aws0 (by assumption) | exact aw1 (by assumption) | exact aws1 (by assumption) | exact aw2 (by assumption) | exact aws2 (by assumption) | exact aw3 (by assumption) | exact aws3 (by assumption) | exact aw4 (by assumption) | exact aws4 (by assumption) | exact aw5 (by assumption) | exact aws5 (by assumption)) | (refine nlt ?_; k_data) | (refine ngt ?_; k_data) | k_data | (refine Ne.symm ?_; k_data) | (refine ngt1 ?_; k_data) | (refine ngt2 ?_; k_data) | (refine nlt1 ?_; k_data) | (refine nlt2 ?_; k_data) | omega))
  k_with "room" => (first | exact room_le2 (by assumption) (by exact rfl) | exact room_lt2 (by assumption) (by exact rfl) | exact room_le1 (by assumption) (by exact rfl) | exact room_lt1 (by assumption) (by exact rfl) | exact room_le3 (by assumption) (by exact rfl) | exact room_lt3 (by assumption) (by exact rfl) | exact room_ltF (by assumption) (by exact rfl) (by exact rfl))
  k_with "units" => (first | exact unit_le2 (by assumption) (by exact rfl) | exact unit_lt2 (by assumption) (by exact rfl) | exact unit_le1 (by assumption) (by exact rfl) | exact unit_lt1 (by assumption) (by exact rfl) | exact unit_le3 (by assumption) (by exact rfl) | exact unit_lt3 (by assumption) (by exact rfl) | exact unit_ltE (by assumption) (by exact rfl) (by exact rfl) | exact unit_ltF (by assumption) (by exact rfl) (by exact rfl))
  k_with "callWith ref nil nil" => (k_here; k_dflt (refine' callWith_K ?k1 ?k2 ?_; (case k1 => k_asm); (case k2 => k_is); k_whole))
  k_with "eval Name" => (k_here; k_dflt (refine' nameX_L ?F ?v ?_ ?a ?b; (case b => exact rfl); (case F => k_asm); (case a => rfl); (case v => rfl); k_whole))
  k_with "eval Name" => (k_here; k_dflt (refine' nameX_K ?F ?X ?T ?e ?_ ?a ?b; (case b => exact rfl); (case F => k_asm); (case X => k_asm); (case T => k_asm); (case a => rfl); (case e => k_is); k_whole))
  k_with "eval Name" => (k_here; k_dflt (refine' nameX_B ?F ?X ?T ?e ?v ?n ?_ ?a ?b; (case b => exact rfl); (case F => k_asm); (case X => k_asm); (case T => k_asm); (case a => rfl); (case e => k_is); (case v => boot_fast); (case n => decide); k_whole))
  k_with "subscriptTail Name Constant ref int" => (k_here; (with_reducible show wpAny _ _ (subscriptTail _ _ (Value.ref _) (Value.int _ _)) _ _ _); k_dflt (first | (refine' item_tupleT ?t ?a ?b ?c ?d ?_; (case t => first | with_reducible assumption | exact News.isTup (by k_asm) (by k_mem)); (case a => decide); (case b => decide); (case c => rfl); (case d => rfl); k_whole) | (refine' topTup_K ?F ?X ?l ?a ?b ?c ?d ?_; (case F => k_asm); (case X => k_asm); (case l => k_is); (case a => decide); (case b => decide); (case c => rfl); (case d => rfl)) | (refine' topList_K ?F ?X ?l ?a ?b ?d ?_; (case F => k_asm); (case X => k_asm); (case l => k_is); (case a => decide); (case b => decide); (case d => rfl); k_whole)))
  k_with "subscriptTail Name Constant ref int" => (k_here; (with_reducible show wpAny _ _ (subscriptTail _ _ (Value.ref _) (Value.int _ _)) _ _ _); (with_unfolding_all refine' item_litK ?k1 ?k2 ?k3 ?k4 ?_ ?k6; (case k1 => is_list); (case k2 => decide); (case k3 => decide); (case k4 => rfl); (case k6 => with_unfolding_all rfl); k_whole))
  k_with "call builtin:list.pop" => (k_here; k_dflt ((with_reducible show wpAny _ _ (call (Value.builtin _) [Value.ref _]) _ _ _); refine' kl_pop ?F ?N ?e ?U ?z ?_; (case F => k_asm); (case N => k_asm); (case U => k_upd); (case e => rfl); (case z => kl_room)); kl_rest)
  k_with "lt" => with_reducible (first | assumption | exact ll0 (by assumption) | exact ll1 (by assumption) | exact ll2 (by assumption) | exact ll3 (by assumption) | exact ll4 (by assumption) | exact ll5 (by assumption) | exact ll6 (by assumption) | exact ll7 (by assumption) | exact ll8 (by assumption) | exact ll9 (by assumption) | exact ll10 (by assumption) | exact ll11 (by assumption) | exact ll12 (by assumption) | exact ll13 (by assumption) | exact la0 (by assumption) | exact la1 (by assumption) | exact la2 (by assumption) | exact la3 (by assumption) | exact la4 (by assumption) | exact la5 (by assumption) | exact la6 (by assumption) | exact la7 (by assumption))
  k_with "keeplt" => skip
  k_with "ite" => with_reducible (first | refine ite_tt ?_ | refine ite_ff ?_)
  k_with "subscriptTail Attribute Name Name ref int" => (walk_at "last subscriptTail")
  k_with "callWith ref cons nil" => (k_here; k_dflt (refine' callWith_K ?k1 ?k2 ?_; (case k1 => k_asm); (case k2 => k_is); k_whole))
  k_with "KswEnd" => (refine hold ?_)
  k_with "storeName" => (k_here; dsimp only [Int.reduceMul, Int.reducePow, Int.reduceAdd, Int.reduceSub, Int.reduceFDiv, Int.reduceFMod, Int.reduceNeg, Int.reduceToNat]; walk_at "storeName")
  k_with "storeName" => (k_here; (with_reducible rename Str.length _ = 15 => hl'); rw [hl']; walk_at "storeName")
  k_with "subscriptTail Call" => (k_here; (with_reducible show wpAny _ _ (subscriptTail _ (Expr.Slice (some _) none none _) (Value.str _ _) (Value.ref _)) _ _ _); (refine slice_strN_sn (hsz := ?hsz) (s := ⟨_, _, _, _, _⟩) (by assumption) (by assumption) ?_); (case hsz => (with_reducible rename Str.length (Str.ofString (toString (1000000000000000 + _))) = 16 => hl'); rw [hl', PySem.sizeLine_eq]; decide); (with_reducible rename Txt.slice _ (some 1) none = _ => hP'); rw [hP']; intro _ _ _ _ _)
  k_with "subscriptTail" => (k_here; (with_reducible show wpAny _ _ (subscriptTail _ _ (Value.str _ _) (Value.int _ _)) _ _ _); (with_reducible rename Str.length _ = 15 => hl'); (with_reducible rename (_ ≤ Prod.fst _ ∧ Prod.fst _ ≤ 15) => hk'); (refine item_str (fits_small (by omega) (by omega)) (by rw [hl']; omega) (by rw [hl']; omega) ?_); intro _)
  k_with "call builtin:abs" => (with_reducible refine abs_is (by assumption) ?_; intro _ _)
  k_with "binaryOp Mult int int" => (with_reducible refine mul_int ?_ (small_ok (by omega) (by omega)))
  k_with "eval IfExp" => (exfalso; omega)
  obtain ⟨hq, q0, q1, j0, j1, hab, i0, i1, s0, htold, htl, hP, hPx, hPl, he1, he2, hz, hn, b0, b1, x0, x1⟩ := hf
  simp only [SC] at hq s0 htold hP hPx b0 b1 x1 hz hn
  have hj : j ≠ 0 := by omega
  have hnan : (if j = 0 then i == 0 else j == 0) = false := by simp [hj]
  k_with "exec While Compare cons nil" =>
    rename Fr _ _ _ _ => lF'
    rename News _ _ _ _ => lN'
    with_unfolding_all refine' ksw_while (fun _ => (tA, tupO #[.int i ti, .int j tj]) :: led) (fun c : Int × Tok => [(Str.ofString "end", Value.int c.1 c.2)]) (fun _ => True) [] (fun c => e0 ≤ c.1 ∧ c.1 ≤ 15) (fun c => c.1.toNat) (15, _) lF' lN' trivial ?kk ?kp ?_
    (case kk => intro p hp; rcases List.mem_cons.mp hp with hp | hp; (subst hp; exact rfl); exact nomatch hp)
    (case kp => exact ⟨he2, Int.le_refl _⟩)
  refine wpAny_call ?_
  k_dflt (refine' code_def ?k1 ?k2 ?k3 ?k4 ?k5 ?kA ?kF ?kK ?k6 ?k7 ?k8 ?k9 ?kB ?_ ?c2 ?c3 ?c4 ?c5; (case kA => exact rfl); (case kF => exact rfl); (case kK => assumption); (case k1 => k_asm); (case k2 => k_asm); (case k3 => k_asm); (case k4 => k_asm); (case k5 => k_asm); (case k6 => k_is); (case k7 => k_is); (case k8 => ktr_room); (case k9 => exact binds_K (by k_in) rfl (by k_is) rfl rfl rfl); (case c5 => decide); (case kB => exact locs rfl); (case c2 => exact rfl); (case c3 => exact rfl); (case c4 => exact rfl); k_whole; intro g' L' h' FG' F' N' B' X' T'; (try dsimp only); (try k_fold))
  k_steps
  · refine' ksw_end (_, _) (by assumption) (by assumption) (fun p hp => hp) trivial ?kk ?kr (turn_k (hn (by assumption)) (by assumption) (by assumption)) ?km
    (case kk => kst_all)
    (case kr =>
      intro z h2 h3
      have a1 : z ≠ Str.ofString "end" := h2 _ (.head _)
      simp [a1, kstB])
    (case km =>
      have hc := turn_k (hn (by assumption)) (by assumption) (by assumption)
      exact toNat_lt (by omega))
  · have hk := fin_k (hz (by assumption)) (by assumption) (by assumption)
    rw [hk, htold, ← b1 (by assumption), ← x0 (by assumption)]
    exact ret _ _ _ (by assumption) (by assumption)
  · have hk := fin_k (hz (by assumption)) (by assumption) (by assumption)
    rw [hk, htold, ← b1 (by assumption), ← x1 (by first | exact .inl (by assumption) | exact .inr (by assumption))]
    exact ret _ _ _ (by assumption) (by assumption)
  · rw [htold, ← b0 (by assumption), ← x0 (by assumption)]
    exact ret _ _ _ (by assumption) (by assumption)
  · rw [htold, ← b0 (by assumption), ← x1 (by first | exact .inl (by assumption) | exact .inr (by assumption))]
    exact ret _ _ _ (by assumption) (by assumption)
  · rw [htold, ← b0 (by assumption), ← x1 (by first | exact .inl (by assumption) | exact .inr (by assumption))]
    exact ret _ _ _ (by assumption) (by assumption)
end
end

section -- W5
open PySem PySem.W PyProof.Rows PySem.Calls
theorem hz_of {P : Str} {e0 : Int} (h : (List.range 16).all (fun n => decide ((n : Int) ≤ e0) || (Txt.item P ((n : Int) - 1) == Str.ofString "0")) = true) : ∀ k : Int, e0 < k → k ≤ 15 → 1 ≤ e0 → (Txt.item P (k - 1) == Str.ofString "0") = true := fun k h1 h2 h3 => by
  have e : (k.toNat : Int) = k := by omega
  have := List.all_eq_true.mp h k.toNat (List.mem_range.mpr (by omega))
  rw [e] at this
  rcases Bool.or_eq_true_iff.mp this with q | q
  · have := of_decide_eq_true q; omega
  · exact q
theorem fin_0 : Fin1 (0) 1 0 0 (Str.ofString "0") (Str.ofString "000000000000000") (Str.ofString "0") (Str.ofString "0") 1 where
  hq := by decide +kernel
  q0 := by decide
  q1 := by decide
  j0 := by decide
  j1 := by decide
  ab := by decide
  i0 := by decide
  i1 := by decide
  s0 := by decide +kernel
  ht := by decide +kernel
  toldl := by decide +kernel
  hP := by decide +kernel
  hPx := by decide +kernel
  hPl := by decide +kernel
  e1 := by decide
  e2 := by decide
  hz := fun h => absurd h (by decide +kernel)
  hn := fun h => absurd h (by decide +kernel)
  b0 := fun _ => by decide +kernel
  b1 := fun h => absurd h (by decide +kernel)
  x0 := fun h => absurd h (by decide)
  x1 := fun _ => by decide +kernel
theorem fin_32 : Fin1 (3) 2 3 1 (Str.ofString "1") (Str.ofString "500000000000000") (Str.ofString "1.5") (Str.ofString "1.5") 1 where
  hq := by decide +kernel
  q0 := by decide
  q1 := by decide
  j0 := by decide
  j1 := by decide
  ab := by decide
  i0 := by decide
  i1 := by decide
  s0 := by decide +kernel
  ht := by decide +kernel
  toldl := by decide +kernel
  hP := by decide +kernel
  hPx := by decide +kernel
  hPl := by decide +kernel
  e1 := by decide
  e2 := by decide
  hz := fun _ k h1 h2 => hz_of (by decide +kernel) k h1 h2 (by decide)
  hn := fun _ => by decide +kernel
  b0 := fun h => absurd (by decide +kernel) h
  b1 := fun _ => by decide +kernel
  x0 := fun h => absurd h (by decide)
  x1 := fun _ => by decide +kernel
theorem fin_14 : Fin1 (-1) 4 1 0 (Str.ofString "0") (Str.ofString "250000000000000") (Str.ofString "0.25") (Str.ofString "-0.25") 2 where
  hq := by decide +kernel
  q0 := by decide
  q1 := by decide
  j0 := by decide
  j1 := by decide
  ab := by decide
  i0 := by decide
  i1 := by decide
  s0 := by decide +kernel
  ht := by decide +kernel
  toldl := by decide +kernel
  hP := by decide +kernel
  hPx := by decide +kernel
  hPl := by decide +kernel
  e1 := by decide
  e2 := by decide
  hz := fun _ k h1 h2 => hz_of (by decide +kernel) k h1 h2 (by decide)
  hn := fun _ => by decide +kernel
  b0 := fun h => absurd (by decide +kernel) h
  b1 := fun _ => by decide +kernel
  x0 := fun _ => by decide +kernel
  x1 := fun h => by
    rcases h with h | h
    · exact absurd (by decide) h
    · exact absurd (by decide +kernel) h
theorem fin_12 : Fin1 (12) 1 12 12 (Str.ofString "12") (Str.ofString "000000000000000") (Str.ofString "12") (Str.ofString "12") 1 where
  hq := by decide +kernel
  q0 := by decide
  q1 := by decide
  j0 := by decide
  j1 := by decide
  ab := by decide
  i0 := by decide
  i1 := by decide
  s0 := by decide +kernel
  ht := by decide +kernel
  toldl := by decide +kernel
  hP := by decide +kernel
  hPx := by decide +kernel
  hPl := by decide +kernel
  e1 := by decide
  e2 := by decide
  hz := fun h => absurd h (by decide +kernel)
  hn := fun h => absurd h (by decide +kernel)
  b0 := fun _ => by decide +kernel
  b1 := fun h => absurd h (by decide +kernel)
  x0 := fun h => absurd h (by decide)
  x1 := fun _ => by decide +kernel
theorem fin_13 : Fin1 (1) 3 1 0 (Str.ofString "0") (Str.ofString "333333333333333") (Str.ofString "0.333333333333333") (Str.ofString "0.333333333333333") 15 where
  hq := by decide +kernel
  q0 := by decide
  q1 := by decide
  j0 := by decide
  j1 := by decide
  ab := by decide
  i0 := by decide
  i1 := by decide
  s0 := by decide +kernel
  ht := by decide +kernel
  toldl := by decide +kernel
  hP := by decide +kernel
  hPx := by decide +kernel
  hPl := by decide +kernel
  e1 := by decide
  e2 := by decide
  hz := fun _ k h1 h2 => hz_of (by decide +kernel) k h1 h2 (by decide)
  hn := fun _ => by decide +kernel
  b0 := fun h => absurd (by decide +kernel) h
  b1 := fun _ => by decide +kernel
  x0 := fun h => absurd h (by decide)
  x1 := fun _ => by decide +kernel
section
variable {w : World} {p : Program} {loose : List Str} {mean : ExcName → Option Value} {mg mb : Str → Option Value}
    {dp un : Nat} {gd : Option (List Code)} {cn : Str} {cs : Scope} {a : Addr} {ccd : Value} {cl : List (Str × Addr)} {outer : List Env} {A₀ : Around} {base h₀ : Heap} {L : Addr} {m : Str → Option Value} {s : Shared}
    {Q E : Value → Shared → Prop} {led : List (Addr × Obj)}
set_option maxHeartbeats 0 in
theorem write_zero {tA : Addr} {i : Int} {x : Str} {ti tj : Tok} (hx : (i = 0 ∧ x = Str.ofString "NaN") ∨ (0 < i ∧ x = Str.ofString "Infinity") ∨ (i < 0 ∧ x = Str.ofString "-Infinity"))
    (B : Below A₀ base outer h₀) (F : Fr h₀ L s.heap m) (X : (KK w.params).In h₀) (N : News h₀ L s.heap ((tA, tupO #[.int i ti, .int 0 tj]) :: led))
    (T : Top p loose mean mg mb h₀) (hk : cs.kind = .function) (hd : dp + 16 ≤ 900) (hu : un + 200 ≤ 1000)
    (ret : ∀ t h' tk', Fr h₀ L h' m → News h₀ L h' ((tA, tupO #[.int i ti, .int 0 tj]) :: led) → Q (.str x t) { s with heap := h', toks := tk' }) :
    wpAny (model PySem.Challenge.rw_xm0674_01.prog w) (ktrTop dp un gd cn cs L a ccd cl outer) (call (.ref 173) [.ref tA]) Q E s := by
  k_with_none
  k_with "memR" => (first | with_reducible assumption | exact List.Mem.head _ | (refine' List.Mem.tail _ ?_; k_extra "memR"))
  k_with "memD" => (first | exact List.Mem.head _ | assumption | (refine' List.Mem.tail _ ?_; k_extra "memD"))
  k_with "mem" => (first | k_extra "memR" | k_extra "memD")
  k_with "allR" => (first | with_reducible assumption | exact List.forall_mem_nil _ | (refine' List.forall_mem_cons.mpr ⟨?a, ?b⟩; (case a => first | with_reducible assumption | k_ne); (case b => k_extra "allR")))
  k_with "all" => (first | with_reducible assumption | exact List.forall_mem_nil _ | with_reducible (first | exact aa0 (by assumption) | exact aa1 (by assumption) | exact aa2 (by assumption) | exact aa3 (by assumption) | exact aa4 (by assumption) | exact aa5 (by assumption) | exact aa6 (by assumption) | exact aa7 (by assumption) | exact ab0 (by assumption) (by assumption) | exact ab1 (by assumption) (by assumption)) | k_extra "allR" | assumption)
  k_with "cj" => (with_reducible (first | assumption | exact cj0 (by assumption) | exact cj1 (by assumption) | exact cj2 (by assumption) | exact cj3 (by assumption) | exact cj4 (by assumption) | exact cj5 (by assumption) | exact cj6 (by assumption) | exact cj7 (by assumption) | exact cj8 (by assumption) | exact cj9 (by assumption) | exact cj10 (by assumption) | exact cj11 (by assumption) | exact cj12 (by assumption) | exact cj13 (by assumption) | exact cj14 (by assumption) | exact cj15 (by assumption) | exact cj16 (by assumption) | exact cl1 (by assumption) | exact cl2 (by assumption) | exact cl3 (by assumption) | exact cl4 (by assumption) | exact cl5 (by assumption) | exact cl6 (by assumption) | exact cl7 (by assumption) | exact cl8 (by assumption) | exact cl9 (by assumption) | exact cl10 (by assumption) | exact cl11 (by assumption) | exact cl12 (by assumption) | exact cl13 (by assumption) | exact cl14 (by assumption) | exact cl15 (by assumption) | exact cl16 (by assumption) | exact ct0t0x (by assumption) | exact ct0t1x (by assumption) | exact ct0t2x (by assumption) | exact ct1t0x (by assumption) | exact ct1t1x (by assumption) | exact ct1t2x (by assumption) | exact ct2t0x (by assumption) | exact ct2t1x (by assumption) | exact ct2t2x (by assumption) | exact ct3t0x (by assumption) | exact ct3t1x (by assumption) | exact ct3t2x (by assumption) | exact ct4t0x (by assumption) | exact ct4t1x (by assumption) | exact ct4t2x (by assumption)))
  k_with "ne" => ((refine neN ?_; (try dsimp only); first | with_reducible (first | assumption | exact ngt (by assumption) | exact nlt (by assumption) | exact Ne.symm (by assumption)) | with_reducible (first | exact al0 (by assumption) | exact ar0 (by assumption) | exact al1 (by assumption) | exact ar1 (by assumption) | exact al2 (by assumption) | exact ar2 (by assumption) | exact al3 (by assumption) | exact ar3 (by assumption) | exact al4 (by assumption) | exact ar4 (by assumption) | exact al5 (by assumption) | exact ar5 (by assumption) | exact al6 (by assumption) | exact ar6 (by assumption) | exact al7 (by assumption) | exact ar7 (by assumption) | exact al8 (by assumption) | exact ar8 (by assumption) | exact al9 (by assumption) | exact ar9 (by assumption) | exact al10 (by assumption) | exact ar10 (by assumption) | exact al11 (by assumption) | exact ar11 (by assumption) | exact al12 (by assumption) | exact ar12 (by assumption) | exact al13 (by assumption) | exact ar13 (by assumption) | exact al14 (by assumption) | exact ar14 (by assumption) | exact al15 (by assumption) | exact ar15 (by assumption)) | with_reducible (first | exact at0 (by assumption) (by assumption) | exact au0 (by assumption) (by assumption) | exact at1 (by assumption) (by assumption) | exact au1 (by assumption) (by assumption) | exact at2 (by assumption) (by assumption) | exact au2 (by assumption) (by assumption) | exact at3 (by assumption) (by assumption) | exact au3 (by assumption) (by assumption) | exact at4 (by assumption) (by assumption) | exact au4 (by assumption) (by assumption) | exact at5 (by assumption) (by assumption) | exact au5 (by assumption) (by assumption) | exact at6 (by assumption) (by assumption) | exact au6 (by assumption) (by assumption) | exact at7 (by assumption) (by assumption) | exact au7 (by assumption) (by assumption)) | with_reducible (first | exact av0 (by assumption) | exact avs0 (by assumption) | exact av1 (by assumption) | exact avs1 (by assumption) | exact av2 (by assumption) | exact avs2 (by assumption) | exact av3 (by assumption) | exact avs3 (by assumption) | exact av4 (by assumption) | exact avs4 (by assumption) | exact av5 (by assumption) | exact avs5 (by assumption) | exact aw0 (by assumption) | exact aws0 (by assumption) | exact aw1 (by assumption) | exact aws1 (by assumption) | exact aw2 (by assumption) | exact aws2 (by assumption) | exact aw3 (by assumption) | exact aws3 (by assumption) | exact aw4 (by assumption) | exact aws4 (by assumption) | exact aw5 (by assumption) | exact aws5 (by assumption)) | (refine nlt ?_; k_data) | (refine ngt ?_; k_data) | k_data | (refine Ne.symm ?_; k_data) | (refine ngt1 ?_; k_data) | (refine ngt2 ?_; k_data) | (refine nlt1 ?_; k_data) | (refine nlt2 ?_; k_data) | omega))
  k_with "room" => (first | exact room_le2 (by assumption) (by exact rfl) | exact room_lt2 (by assumption) (by exact rfl) | exact room_le1 (by assumption) (by exact rfl) | exact room_lt1 (by assumption) (by exact rfl) | exact room_le3 (by assumption) (by exact rfl) | exact room_lt3 (by assumption) (by exact rfl) | exact room_ltF (by assumption) (by exact rfl) (by exact rfl))
  k_with "units" => (first | exact unit_le2 (by assumption) (by exact rfl) | exact unit_lt2 (by assumption) (by exact rfl) | exact unit_le1 (by assumption) (by exact rfl) | exact unit_lt1 (by assumption) (by exact rfl) | exact unit_le3 (by assumption) (by exact rfl) | exact unit_lt3 (by assumption) (by exact rfl) | exact unit_ltE (by assumption) (by exact rfl) (by exact rfl) | exact unit_ltF (by assumption) (by exact rfl) (by exact rfl))
  k_with "callWith ref nil nil" => (k_here; k_dflt (refine' callWith_K ?k1 ?k2 ?_; (case k1 => k_asm); (case k2 => k_is); k_whole))
  k_with "eval Name" => (k_here; k_dflt (refine' nameX_L ?F ?v ?_ ?a ?b; (case b => exact rfl); (case F => k_asm); (case a => rfl); (case v => rfl); k_whole))
  k_with "eval Name" => (k_here; k_dflt (refine' nameX_K ?F ?X ?T ?e ?_ ?a ?b; (case b => exact rfl); (case F => k_asm); (case X => k_asm); (case T => k_asm); (case a => rfl); (case e => k_is); k_whole))
  k_with "eval Name" => (k_here; k_dflt (refine' nameX_B ?F ?X ?T ?e ?v ?n ?_ ?a ?b; (case b => exact rfl); (case F => k_asm); (case X => k_asm); (case T => k_asm); (case a => rfl); (case e => k_is); (case v => boot_fast); (case n => decide); k_whole))
  k_with "subscriptTail Name Constant ref int" => (k_here; (with_reducible show wpAny _ _ (subscriptTail _ _ (Value.ref _) (Value.int _ _)) _ _ _); k_dflt (first | (refine' item_tupleT ?t ?a ?b ?c ?d ?_; (case t => first | with_reducible assumption | exact News.isTup (by k_asm) (by k_mem)); (case a => decide); (case b => decide); (case c => rfl); (case d => rfl); k_whole) | (refine' topTup_K ?F ?X ?l ?a ?b ?c ?d ?_; (case F => k_asm); (case X => k_asm); (case l => k_is); (case a => decide); (case b => decide); (case c => rfl); (case d => rfl)) | (refine' topList_K ?F ?X ?l ?a ?b ?d ?_; (case F => k_asm); (case X => k_asm); (case l => k_is); (case a => decide); (case b => decide); (case d => rfl); k_whole)))
  k_with "subscriptTail Name Constant ref int" => (k_here; (with_reducible show wpAny _ _ (subscriptTail _ _ (Value.ref _) (Value.int _ _)) _ _ _); (with_unfolding_all refine' item_litK ?k1 ?k2 ?k3 ?k4 ?_ ?k6; (case k1 => is_list); (case k2 => decide); (case k3 => decide); (case k4 => rfl); (case k6 => with_unfolding_all rfl); k_whole))
  k_with "call builtin:list.pop" => (k_here; k_dflt ((with_reducible show wpAny _ _ (call (Value.builtin _) [Value.ref _]) _ _ _); refine' kl_pop ?F ?N ?e ?U ?z ?_; (case F => k_asm); (case N => k_asm); (case U => k_upd); (case e => rfl); (case z => kl_room)); kl_rest)
  k_with "lt" => with_reducible (first | assumption | exact ll0 (by assumption) | exact ll1 (by assumption) | exact ll2 (by assumption) | exact ll3 (by assumption) | exact ll4 (by assumption) | exact ll5 (by assumption) | exact ll6 (by assumption) | exact ll7 (by assumption) | exact ll8 (by assumption) | exact ll9 (by assumption) | exact ll10 (by assumption) | exact ll11 (by assumption) | exact ll12 (by assumption) | exact ll13 (by assumption) | exact la0 (by assumption) | exact la1 (by assumption) | exact la2 (by assumption) | exact la3 (by assumption) | exact la4 (by assumption) | exact la5 (by assumption) | exact la6 (by assumption) | exact la7 (by assumption))
  k_with "keeplt" => skip
  k_with "ite" => with_reducible (first | refine ite_tt ?_ | refine ite_ff ?_)
  k_with "subscriptTail Attribute Name Name ref int" => (walk_at "last subscriptTail")
  k_with "callWith ref cons nil" => (k_here; k_dflt (refine' callWith_K ?k1 ?k2 ?_; (case k1 => k_asm); (case k2 => k_is); k_whole))
  refine wpAny_call ?_
  k_dflt (refine' code_def ?k1 ?k2 ?k3 ?k4 ?k5 ?kA ?kF ?kK ?k6 ?k7 ?k8 ?k9 ?kB ?_ ?c2 ?c3 ?c4 ?c5; (case kA => exact rfl); (case kF => exact rfl); (case kK => assumption); (case k1 => k_asm); (case k2 => k_asm); (case k3 => k_asm); (case k4 => k_asm); (case k5 => k_asm); (case k6 => k_is); (case k7 => k_is); (case k8 => ktr_room); (case k9 => exact binds_K (by k_in) rfl (by k_is) rfl rfl rfl); (case c5 => decide); (case kB => exact locs rfl); (case c2 => exact rfl); (case c3 => exact rfl); (case c4 => exact rfl); k_whole; intro g' L' h' FG' F' N' B' X' T'; (try dsimp only); (try k_fold))
  k_steps
  · rcases hx with ⟨_, rfl⟩ | ⟨h, _⟩ | ⟨h, _⟩
    · exact ret _ _ _ (by assumption) (by assumption)
    · exfalso; omega
    · exfalso; omega
  · rcases hx with ⟨h, _⟩ | ⟨_, rfl⟩ | ⟨h, _⟩
    · exfalso; omega
    · exact ret _ _ _ (by assumption) (by assumption)
    · exfalso; omega
  · rcases hx with ⟨h, _⟩ | ⟨h, _⟩ | ⟨_, rfl⟩
    · exfalso; omega
    · exfalso; omega
    · exact ret _ _ _ (by assumption) (by assumption)
theorem write_A {tA : Addr} {i j : Int} {x : Str} {ti tj : Tok} (hx : (i, j, x) ∈ numTab)
    (B : Below A₀ base outer h₀) (F : Fr h₀ L s.heap m) (X : (KK w.params).In h₀) (N : News h₀ L s.heap ((tA, tupO #[.int i ti, .int j tj]) :: led))
    (T : Top p loose mean mg mb h₀) (hk : cs.kind = .function) (hd : dp + 16 ≤ 900) (hu : un + 200 ≤ 1000)
    (ret : ∀ t h' tk', Fr h₀ L h' m → News h₀ L h' ((tA, tupO #[.int i ti, .int j tj]) :: led) → Q (.str x t) { s with heap := h', toks := tk' }) :
    wpAny (model PySem.Challenge.rw_xm0674_01.prog w) (ktrTop dp un gd cn cs L a ccd cl outer) (call (.ref 173) [.ref tA]) Q E s := by
  simp only [numTab, List.mem_cons, Prod.mk.injEq, List.not_mem_nil, or_false] at hx
  rcases hx with ⟨rfl, rfl, rfl⟩ | ⟨rfl, rfl, rfl⟩ | ⟨rfl, rfl, rfl⟩ | ⟨rfl, rfl, rfl⟩ | ⟨rfl, rfl, rfl⟩ | ⟨rfl, rfl, rfl⟩ | ⟨rfl, rfl, rfl⟩ | ⟨rfl, rfl, rfl⟩
  · exact write_fin _ _ _ _ _ _ _ _ _ _ _ _ _ _ _ _ _ _ _ _ _ _ _ _ _ _ _ _ _ _ _ _ _ _ _ _ fin_0 B F X N T hk hd hu ret
  · exact write_fin _ _ _ _ _ _ _ _ _ _ _ _ _ _ _ _ _ _ _ _ _ _ _ _ _ _ _ _ _ _ _ _ _ _ _ _ fin_32 B F X N T hk hd hu ret
  · exact write_fin _ _ _ _ _ _ _ _ _ _ _ _ _ _ _ _ _ _ _ _ _ _ _ _ _ _ _ _ _ _ _ _ _ _ _ _ fin_14 B F X N T hk hd hu ret
  · exact write_zero (.inl ⟨rfl, rfl⟩) B F X N T hk hd hu ret
  · exact write_zero (.inr (.inl ⟨by decide, rfl⟩)) B F X N T hk hd hu ret
  · exact write_zero (.inr (.inr ⟨by decide, rfl⟩)) B F X N T hk hd hu ret
  · exact write_fin _ _ _ _ _ _ _ _ _ _ _ _ _ _ _ _ _ _ _ _ _ _ _ _ _ _ _ _ _ _ _ _ _ _ _ _ fin_12 B F X N T hk hd hu ret
  · exact write_fin _ _ _ _ _ _ _ _ _ _ _ _ _ _ _ _ _ _ _ _ _ _ _ _ _ _ _ _ _ _ _ _ _ _ _ _ fin_13 B F X N T hk hd hu ret
end
end

section -- A1
open PySem PySem.W PyProof.Rows PySem.Calls
inductive Tells (led : List (Addr × Obj)) : Value → Str → Prop where
  | num {t : Addr} {i j : Int} {ti tj : Tok} {x : Str} : (t, tupO #[.int i ti, .int j tj]) ∈ led → (i, j, x) ∈ numTab → Tells led (.ref t) x
  | tt : Tells led (.bool true) (Str.ofString "true")
  | ff : Tells led (.bool false) (Str.ofString "false")
  | str {x : Str} {t : Tok} : x.length ≤ 8 → Tells led (.str x t) x
  | none {t : Addr} {n : Nat} : (t, listOf #[] n) ∈ led → Tells led (.ref t) (Str.ofString "")
  | one {t : Addr} {n k : Nat} {u : Tok} {x : Str} : (t, listOf #[.int (k : Int) u] n) ∈ led → (k, x) ∈ nodeTexts → Tells led (.ref t) x
  | two {t : Addr} {n k k2 : Nat} {u u2 : Tok} {x : Str} : (t, listOf #[.int (k : Int) u, .int (k2 : Int) u2] n) ∈ led → (k, x) ∈ nodeTexts → Tells led (.ref t) x
theorem Tells.mono {led led' : List (Addr × Obj)} {v : Value} {x : Str} (h : Tells led v x) (s : ∀ q ∈ led, q ∈ led') : Tells led' v x := by
  cases h with
  | num a b => exact .num (s _ a) b
  | tt => exact .tt
  | ff => exact .ff
  | str a => exact .str a
  | none a => exact .none (s _ a)
  | one a b => exact .one (s _ a) b
  | two a b => exact .two (s _ a) b
theorem numTab_len {i j : Int} {x : Str} (h : (i, j, x) ∈ numTab) : x.length ≤ 17 := by
  have hb : (numTab.all fun r => decide (r.2.2.length ≤ 17)) = true := by decide +kernel
  exact of_decide_eq_true (List.all_eq_true.mp hb _ h)
theorem nodeTexts_len {k : Nat} {x : Str} (h : (k, x) ∈ nodeTexts) : x.length ≤ 17 := by
  have hb : (nodeTexts.all fun r => decide (r.2.length ≤ 17)) = true := by decide +kernel
  exact of_decide_eq_true (List.all_eq_true.mp hb _ h)
theorem Tells.len {led : List (Addr × Obj)} {v : Value} {x : Str} (h : Tells led v x) : x.length ≤ 17 := by
  cases h with
  | num a b => exact numTab_len b
  | tt => decide
  | ff => decide
  | str a => omega
  | none a => decide
  | one a b => exact nodeTexts_len b
  | two a b => exact nodeTexts_len b
theorem nodec {x : Int} {l : List Int} (h : decide (x :: l = []) = true) : False := by simp at h
section
variable {w : World} {p : Program} {loose : List Str} {mean : ExcName → Option Value} {mg mb : Str → Option Value}
    {dp un : Nat} {gd : Option (List Code)} {cn : Str} {cs : Scope} {a : Addr} {ccd : Value} {cl : List (Str × Addr)} {outer : List Env} {A₀ : Around} {base h₀ : Heap} {L : Addr} {m : Str → Option Value} {s : Shared}
    {Q E : Value → Shared → Prop}
set_option maxHeartbeats 0 in
theorem astext_two {T0 R : Addr} {led : List (Addr × Obj)} {xs : List Trip} {keep : List (Addr × Obj)} {tA : Addr} {n k k2 : Nat} {u u2 : Tok} {x : Str}
    (B : Below A₀ base outer h₀) (F : Fr h₀ L s.heap m) (X : (KK w.params).In h₀) (G : TreeG w led T0 R xs rowsE keep) (N : News h₀ L s.heap ((tA, listOf #[.int (k : Int) u, .int (k2 : Int) u2] n) :: led)) (hx : (k, x) ∈ nodeTexts)
    (T : Top p loose mean mg mb h₀) (hk : cs.kind = .function) (hd : dp + 40 ≤ 900) (hu : un + 400 ≤ 1000)
    (ret : ∀ t h' tk', Fr h₀ L h' m → News h₀ L h' led → Q (.str x t) { s with heap := h', toks := tk' }) :
    wpAny (model PySem.Challenge.rw_xm0674_01.prog w) (ktrTop dp un gd cn cs L a ccd cl outer) (call (.ref 209) [.ref tA, .ref T0]) Q E s := by
  k_with_none
  k_with "memR" => (first | with_reducible assumption | exact List.Mem.head _ | (refine' List.Mem.tail _ ?_; k_extra "memR"))
  k_with "memD" => (first | exact List.Mem.head _ | assumption | (refine' List.Mem.tail _ ?_; k_extra "memD"))
  k_with "mem" => (first | k_extra "memR" | k_extra "memD")
  k_with "allR" => (first | with_reducible assumption | exact List.forall_mem_nil _ | (refine' List.forall_mem_cons.mpr ⟨?a, ?b⟩; (case a => first | with_reducible assumption | k_ne); (case b => k_extra "allR")))
  k_with "all" => (first | with_reducible assumption | exact List.forall_mem_nil _ | with_reducible (first | exact aa0 (by assumption) | exact aa1 (by assumption) | exact aa2 (by assumption) | exact aa3 (by assumption) | exact aa4 (by assumption) | exact aa5 (by assumption) | exact aa6 (by assumption) | exact aa7 (by assumption) | exact ab0 (by assumption) (by assumption) | exact ab1 (by assumption) (by assumption)) | k_extra "allR" | assumption)
  k_with "cj" => (with_reducible (first | assumption | exact cj0 (by assumption) | exact cj1 (by assumption) | exact cj2 (by assumption) | exact cj3 (by assumption) | exact cj4 (by assumption) | exact cj5 (by assumption) | exact cj6 (by assumption) | exact cj7 (by assumption) | exact cj8 (by assumption) | exact cj9 (by assumption) | exact cj10 (by assumption) | exact cj11 (by assumption) | exact cj12 (by assumption) | exact cj13 (by assumption) | exact cj14 (by assumption) | exact cj15 (by assumption) | exact cj16 (by assumption) | exact cl1 (by assumption) | exact cl2 (by assumption) | exact cl3 (by assumption) | exact cl4 (by assumption) | exact cl5 (by assumption) | exact cl6 (by assumption) | exact cl7 (by assumption) | exact cl8 (by assumption) | exact cl9 (by assumption) | exact cl10 (by assumption) | exact cl11 (by assumption) | exact cl12 (by assumption) | exact cl13 (by assumption) | exact cl14 (by assumption) | exact cl15 (by assumption) | exact cl16 (by assumption) | exact ct0t0x (by assumption) | exact ct0t1x (by assumption) | exact ct0t2x (by assumption) | exact ct1t0x (by assumption) | exact ct1t1x (by assumption) | exact ct1t2x (by assumption) | exact ct2t0x (by assumption) | exact ct2t1x (by assumption) | exact ct2t2x (by assumption) | exact ct3t0x (by assumption) | exact ct3t1x (by assumption) | exact ct3t2x (by assumption) | exact ct4t0x (by assumption) | exact ct4t1x (by assumption) | exact ct4t2x (by assumption)))
  k_with "ne" => ((refine neN ?_; (try dsimp only); first | with_reducible (first | assumption | exact ngt (by assumption) | exact nlt (by assumption) | exact Ne.symm (by assumption)) | with_reducible (first | exact al0 (by assumption) | exact ar0 (by assumption) | exact al1 (by assumption) | exact ar1 (by assumption) | exact al2 (by assumption) | exact ar2 (by assumption) | exact al3 (by assumption) | exact ar3 (by assumption) | exact al4 (by assumption) | exact ar4 (by assumption) | exact al5 (by assumption) | exact ar5 (by assumption) | exact al6 (by assumption) | exact ar6 (by assumption) | exact al7 (by assumption) | exact ar7 (by assumption) | exact al8 (by assumption) | exact ar8 (by assumption) | exact al9 (by assumption) | exact ar9 (by assumption) | exact al10 (by assumption) | exact ar10 (by assumption) | exact al11 (by assumption) | exact ar11 (by assumption) | exact al12 (by assumption) | exact ar12 (by assumption) | exact al13 (by assumption) | exact ar13 (by assumption) | exact al14 (by assumption) | exact ar14 (by assumption) | exact al15 (by assumption) | exact ar15 (by assumption)) | with_reducible (first | exact at0 (by assumption) (by assumption) | exact au0 (by assumption) (by assumption) | exact at1 (by assumption) (by assumption) | exact au1 (by assumption) (by assumption) | exact at2 (by assumption) (by assumption) | exact au2 (by assumption) (by assumption) | exact at3 (by assumption) (by assumption) | exact au3 (by assumption) (by assumption) | exact at4 (by assumption) (by assumption) | exact au4 (by assumption) (by assumption) | exact at5 (by assumption) (by assumption) | exact au5 (by assumption) (by assumption) | exact at6 (by assumption) (by assumption) | exact au6 (by assumption) (by assumption) | exact at7 (by assumption) (by assumption) | exact au7 (by assumption) (by assumption)) | with_reducible (first | exact av0 (by assumption) | exact avs0 (by assumption) | exact av1 (by assumption) | exact avs1 (by assumption) | exact av2 (by assumption) | exact avs2 (by assumption) | exact av3 (by assumption) | exact avs3 (by assumption) | exact av4 (by assumption) | exact avs4 (by assumption) | exact av5 (by assumption) | exact avs5 (by assumption) | exact aw0 (by assumption) | exact aws0 (by assumption) | exact aw1 (by assumption) | exact aws1 (by assumption) | exact aw2 (by assumption) | exact aws2 (by assumption) | exact aw3 (by assumption) | exact aws3 (by assumption) | exact aw4 (by assumption) | exact aws4 (by assumption) | exact aw5 (by assumption) | exact aws5 (by assumption)) | (refine nlt ?_; k_data) | (refine ngt ?_; k_data) | k_data | (refine Ne.symm ?_; k_data) | (refine ngt1 ?_; k_data) | (refine ngt2 ?_; k_data) | (refine nlt1 ?_; k_data) | (refine nlt2 ?_; k_data) | omega))
  k_with "room" => (first | exact room_le2 (by assumption) (by exact rfl) | exact room_lt2 (by assumption) (by exact rfl) | exact room_le1 (by assumption) (by exact rfl) | exact room_lt1 (by assumption) (by exact rfl) | exact room_le3 (by assumption) (by exact rfl) | exact room_lt3 (by assumption) (by exact rfl) | exact room_ltF (by assumption) (by exact rfl) (by exact rfl))
  k_with "units" => (first | exact unit_le2 (by assumption) (by exact rfl) | exact unit_lt2 (by assumption) (by exact rfl) | exact unit_le1 (by assumption) (by exact rfl) | exact unit_lt1 (by assumption) (by exact rfl) | exact unit_le3 (by assumption) (by exact rfl) | exact unit_lt3 (by assumption) (by exact rfl) | exact unit_ltE (by assumption) (by exact rfl) (by exact rfl) | exact unit_ltF (by assumption) (by exact rfl) (by exact rfl))
  k_with "callWith ref nil nil" => (k_here; k_dflt (refine' callWith_K ?k1 ?k2 ?_; (case k1 => k_asm); (case k2 => k_is); k_whole))
  k_with "eval Name" => (k_here; k_dflt (refine' nameX_L ?F ?v ?_ ?a ?b; (case b => exact rfl); (case F => k_asm); (case a => rfl); (case v => rfl); k_whole))
  k_with "eval Name" => (k_here; k_dflt (refine' nameX_K ?F ?X ?T ?e ?_ ?a ?b; (case b => exact rfl); (case F => k_asm); (case X => k_asm); (case T => k_asm); (case a => rfl); (case e => k_is); k_whole))
  k_with "eval Name" => (k_here; k_dflt (refine' nameX_B ?F ?X ?T ?e ?v ?n ?_ ?a ?b; (case b => exact rfl); (case F => k_asm); (case X => k_asm); (case T => k_asm); (case a => rfl); (case e => k_is); (case v => boot_fast); (case n => decide); k_whole))
  k_with "subscriptTail Name Constant ref int" => (k_here; (with_reducible show wpAny _ _ (subscriptTail _ _ (Value.ref _) (Value.int _ _)) _ _ _); k_dflt (first | (refine' item_tupleT ?t ?a ?b ?c ?d ?_; (case t => first | with_reducible assumption | exact News.isTup (by k_asm) (by k_mem)); (case a => decide); (case b => decide); (case c => rfl); (case d => rfl); k_whole) | (refine' topTup_K ?F ?X ?l ?a ?b ?c ?d ?_; (case F => k_asm); (case X => k_asm); (case l => k_is); (case a => decide); (case b => decide); (case c => rfl); (case d => rfl)) | (refine' topList_K ?F ?X ?l ?a ?b ?d ?_; (case F => k_asm); (case X => k_asm); (case l => k_is); (case a => decide); (case b => decide); (case d => rfl); k_whole)))
  k_with "subscriptTail Name Constant ref int" => (k_here; (with_reducible show wpAny _ _ (subscriptTail _ _ (Value.ref _) (Value.int _ _)) _ _ _); (with_unfolding_all refine' item_litK ?k1 ?k2 ?k3 ?k4 ?_ ?k6; (case k1 => is_list); (case k2 => decide); (case k3 => decide); (case k4 => rfl); (case k6 => with_unfolding_all rfl); k_whole))
  k_with "call builtin:list.pop" => (k_here; k_dflt ((with_reducible show wpAny _ _ (call (Value.builtin _) [Value.ref _]) _ _ _); refine' kl_pop ?F ?N ?e ?U ?z ?_; (case F => k_asm); (case N => k_asm); (case U => k_upd); (case e => rfl); (case z => kl_room)); kl_rest)
  k_with "lt" => with_reducible (first | assumption | exact ll0 (by assumption) | exact ll1 (by assumption) | exact ll2 (by assumption) | exact ll3 (by assumption) | exact ll4 (by assumption) | exact ll5 (by assumption) | exact ll6 (by assumption) | exact ll7 (by assumption) | exact ll8 (by assumption) | exact ll9 (by assumption) | exact ll10 (by assumption) | exact ll11 (by assumption) | exact ll12 (by assumption) | exact ll13 (by assumption) | exact la0 (by assumption) | exact la1 (by assumption) | exact la2 (by assumption) | exact la3 (by assumption) | exact la4 (by assumption) | exact la5 (by assumption) | exact la6 (by assumption) | exact la7 (by assumption))
  k_with "keeplt" => skip
  k_with "ite" => with_reducible (first | refine ite_tt ?_ | refine ite_ff ?_)
  k_with "subscriptTail Attribute Name Name ref int" => (walk_at "last subscriptTail")
  k_with "callWith ref cons nil" => (k_here; k_dflt (refine' callWith_K ?k1 ?k2 ?_; (case k1 => k_asm); (case k2 => k_is); k_whole))
  k_with "call ref" => (k_here; (with_reducible show wpAny _ _ (call (Value.ref 202) _) _ _ _); k_dflt (refine' strval_A ?B ?F ?X ?G ?N ?hx ?T ?hk ?hd ?hu ?_; (case B => k_asm); (case F => k_asm); (case X => k_asm); (case N => k_asm); (case G => exact TreeG.mono (by assumption) (by repeat (first | assumption | exact sub_self | refine sub_tail ?_))); (case hx => assumption); (case T => k_asm); (case hk => first | exact rfl | assumption); (case hd => ktr_room); (case hu => ktr_units); intro t' h' tk' F' N'; (try dsimp only); (try k_fold)))
  k_with "call ref" => (k_here; (with_reducible show wpAny _ _ (call (Value.ref 173) _) _ _ _); k_dflt (refine' write_A ?hx ?B ?F ?X ?N ?T ?hk ?hd ?hu ?_; (case B => k_asm); (case F => k_asm); (case X => k_asm); (case N => k_asm); (case hx => assumption); (case T => k_asm); (case hk => first | exact rfl | assumption); (case hd => ktr_room); (case hu => ktr_units); intro t' h' tk' F' N'; (try dsimp only); (try k_fold)))
  refine wpAny_call ?_
  k_dflt ktr_enter
  repeat' (first | walk1 | (dsimp only; walk1))
  all_goals first | exact ret _ _ _ (by assumption) (news_sub (by assumption) (by repeat (first | exact sub_self | refine sub_tail ?_))) | (exfalso; exact nodec (by assumption))
set_option maxHeartbeats 0 in
theorem astext_one {T0 R : Addr} {led : List (Addr × Obj)} {xs : List Trip} {keep : List (Addr × Obj)} {tA : Addr} {n k : Nat} {u : Tok} {x : Str}
    (B : Below A₀ base outer h₀) (F : Fr h₀ L s.heap m) (X : (KK w.params).In h₀) (G : TreeG w led T0 R xs rowsE keep) (N : News h₀ L s.heap ((tA, listOf #[.int (k : Int) u] n) :: led)) (hx : (k, x) ∈ nodeTexts)
    (T : Top p loose mean mg mb h₀) (hk : cs.kind = .function) (hd : dp + 40 ≤ 900) (hu : un + 400 ≤ 1000)
    (ret : ∀ t h' tk', Fr h₀ L h' m → News h₀ L h' led → Q (.str x t) { s with heap := h', toks := tk' }) :
    wpAny (model PySem.Challenge.rw_xm0674_01.prog w) (ktrTop dp un gd cn cs L a ccd cl outer) (call (.ref 209) [.ref tA, .ref T0]) Q E s := by
  k_with_none
  k_with "memR" => (first | with_reducible assumption | exact List.Mem.head _ | (refine' List.Mem.tail _ ?_; k_extra "memR"))
  k_with "memD" => (first | exact List.Mem.head _ | assumption | (refine' List.Mem.tail _ ?_; k_extra "memD"))
  k_with "mem" => (first | k_extra "memR" | k_extra "memD")
  k_with "allR" => (first | with_reducible assumption | exact List.forall_mem_nil _ | (refine' List.forall_mem_cons.mpr ⟨?a, ?b⟩; (case a => first | with_reducible assumption | k_ne); (case b => k_extra "allR")))
  k_with "all" => (first | with_reducible assumption | exact List.forall_mem_nil _ | with_reducible (first | exact aa0 (by assumption) | exact aa1 (by assumption) | exact aa2 (by assumption) | exact aa3 (by assumption) | exact aa4 (by assumption) | exact aa5 (by assumption) | exact aa6 (by assumption) | exact aa7 (by assumption) | exact ab0 (by assumption) (by assumption) | exact ab1 (by assumption) (by assumption)) | k_extra "allR" | assumption)
  k_with "cj" => (with_reducible (first | assumption | exact cj0 (by assumption) | exact cj1 (by assumption) | exact cj2 (by assumption) | exact cj3 (by assumption) | exact cj4 (by assumption) | exact cj5 (by assumption) | exact cj6 (by assumption) | exact cj7 (by assumption) | exact cj8 (by assumption) | exact cj9 (by assumption) | exact cj10 (by assumption) | exact cj11 (by assumption) | exact cj12 (by assumption) | exact cj13 (by assumption) | exact cj14 (by assumption) | exact cj15 (by assumption) | exact cj16 (by assumption) | exact cl1 (by assumption) | exact cl2 (by assumption) | exact cl3 (by assumption) | exact cl4 (by assumption) | exact cl5 (by assumption) | exact cl6 (by assumption) | exact cl7 (by assumption) | exact cl8 (by assumption) | exact cl9 (by assumption) | exact cl10 (by assumption) | exact cl11 (by assumption) | exact cl12 (by assumption) | exact cl13 (by assumption) | exact cl14 (by assumption) | exact cl15 (by assumption) | exact cl16 (by assumption) | exact ct0t0x (by assumption) | exact ct0t1x (by assumption) | exact ct0t2x (by assumption) | exact ct1t0x (by assumption) | exact ct1t1x (by assumption) | exact ct1t2x (by assumption) | exact ct2t0x (by assumption) | exact ct2t1x (by assumption) | exact ct2t2x (by assumption) | exact ct3t0x (by assumption) | exact ct3t1x (by assumption) | exact ct3t2x (by assumption) | exact ct4t0x (by assumption) | exact ct4t1x (by assumption) | exact ct4t2x (by assumption)))
  k_with "ne" => ((refine neN ?_; (try dsimp only); first | with_reducible (first | assumption | exact ngt (by assumption) | exact nlt (by assumption) | exact Ne.symm (by assumption)) | with_reducible (first | exact al0 (by assumption) | exact ar0 (by assumption) | exact al1 (by assumption) | exact ar1 (by assumption) | exact al2 (by assumption) | exact ar2 (by assumption) | exact al3 (by assumption) | exact ar3 (by assumption) | exact al4 (by assumption) | exact ar4 (by assumption) | exact al5 (by assumption) | exact ar5 (by assumption) | exact al6 (by assumption) | exact ar6 (by assumption) | exact al7 (by assumption) | exact ar7 (by assumption) | exact al8 (by assumption) | exact ar8 (by assumption) | exact al9 (by assumption) | exact ar9 (by assumption) | exact al10 (by assumption) | exact ar10 (by assumption) | exact al11 (by assumption) | exact ar11 (by assumption) | exact al12 (by assumption) | exact ar12 (by assumption) | exact al13 (by assumption) | exact ar13 (by assumption) | exact al14 (by assumption) | exact ar14 (by assumption) | exact al15 (by assumption) | exact ar15 (by assumption)) | with_reducible (first | exact at0 (by assumption) (by assumption) | exact au0 (by assumption) (by assumption) | exact at1 (by assumption) (by assumption) | exact au1 (by assumption) (by assumption) | exact at2 (by assumption) (by assumption) | exact au2 (by assumption) (by assumption) | exact at3 (by assumption) (by assumption) | exact au3 (by assumption) (by assumption) | exact at4 (by assumption) (by assumption) | exact au4 (by assumption) (by assumption) | exact at5 (by assumption) (by assumption) | exact au5 (by assumption) (by assumption) | exact at6 (by assumption) (by assumption) | exact au6 (by assumption) (by assumption) | exact at7 (by assumption) (by assumption) | exact au7 (by assumption) (by assumption)) | with_reducible (first | exact av0 (by assumption) | exact avs0 (by assumption) | exact av1 (by assumption) | exact avs1 (by assumption) | exact av2 (by assumption) | exact avs2 (by assumption) | exact av3 (by assumption) | exact avs3 (by assumption) | exact av4 (by assumption) | exact avs4 (by assumption) | exact av5 (by assumption) | exact avs5 (by assumption) | exact aw0 (by assumption) | exact aws0 (by assumption) | exact aw1 (by assumption) | exact aws1 (by assumption) | exact aw2 (by assumption) | exact aws2 (by assumption) | exact aw3 (by assumption) | exact aws3 (by assumption) | exact aw4 (by assumption) | exact aws4 (by assumption) | exact aw5 (by assumption) | exact aws5 (by assumption)) | (refine nlt ?_; k_data) | (refine ngt ?_; k_data) | k_data | (refine Ne.symm ?_; k_data) | (refine ngt1 ?_; k_data) | (refine ngt2 ?_; k_data) | (refine nlt1 ?_; k_data) | (refine nlt2 ?_; k_data) | omega))
  k_with "room" => (first | exact room_le2 (by assumption) (by exact rfl) | exact room_lt2 (by assumption) (by exact rfl) | exact room_le1 (by assumption) (by exact rfl) | exact room_lt1 (by assumption) (by exact rfl) | exact room_le3 (by assumption) (by exact rfl) | exact room_lt3 (by assumption) (by exact rfl) | exact room_ltF (by assumption) (by exact rfl) (by exact rfl))
  k_with "units" => (first | exact unit_le2 (by assumption) (by exact rfl) | exact unit_lt2 (by assumption) (by exact rfl) | exact unit_le1 (by assumption) (by exact rfl) | exact unit_lt1 (by assumption) (by exact rfl) | exact unit_le3 (by assumption) (by exact rfl) | exact unit_lt3 (by assumption) (by exact rfl) | exact unit_ltE (by assumption) (by exact rfl) (by exact rfl) | exact unit_ltF (by assumption) (by exact rfl) (by exact rfl))
  k_with "callWith ref nil nil" => (k_here; k_dflt (refine' callWith_K ?k1 ?k2 ?_; (case k1 => k_asm); (case k2 => k_is); k_whole))
  k_with "eval Name" => (k_here; k_dflt (refine' nameX_L ?F ?v ?_ ?a ?b; (case b => exact rfl); (case F => k_asm); (case a => rfl); (case v => rfl); k_whole))
  k_with "eval Name" => (k_here; k_dflt (refine' nameX_K ?F ?X ?T ?e ?_ ?a ?b; (case b => exact rfl); (case F => k_asm); (case X => k_asm); (case T => k_asm); (case a => rfl); (case e => k_is); k_whole))
  k_with "eval Name" => (k_here; k_dflt (refine' nameX_B ?F ?X ?T ?e ?v ?n ?_ ?a ?b; (case b => exact rfl); (case F => k_asm); (case X => k_asm); (case T => k_asm); (case a => rfl); (case e => k_is); (case v => boot_fast); (case n => decide); k_whole))
  k_with "subscriptTail Name Constant ref int" => (k_here; (with_reducible show wpAny _ _ (subscriptTail _ _ (Value.ref _) (Value.int _ _)) _ _ _); k_dflt (first | (refine' item_tupleT ?t ?a ?b ?c ?d ?_; (case t => first | with_reducible assumption | exact News.isTup (by k_asm) (by k_mem)); (case a => decide); (case b => decide); (case c => rfl); (case d => rfl); k_whole) | (refine' topTup_K ?F ?X ?l ?a ?b ?c ?d ?_; (case F => k_asm); (case X => k_asm); (case l => k_is); (case a => decide); (case b => decide); (case c => rfl); (case d => rfl)) | (refine' topList_K ?F ?X ?l ?a ?b ?d ?_; (case F => k_asm); (case X => k_asm); (case l => k_is); (case a => decide); (case b => decide); (case d => rfl); k_whole)))
  k_with "subscriptTail Name Constant ref int" => (k_here; (with_reducible show wpAny _ _ (subscriptTail _ _ (Value.ref _) (Value.int _ _)) _ _ _); (with_unfolding_all refine' item_litK ?k1 ?k2 ?k3 ?k4 ?_ ?k6; (case k1 => is_list); (case k2 => decide); (case k3 => decide); (case k4 => rfl); (case k6 => with_unfolding_all rfl); k_whole))
  k_with "call builtin:list.pop" => (k_here; k_dflt ((with_reducible show wpAny _ _ (call (Value.builtin _) [Value.ref _]) _ _ _); refine' kl_pop ?F ?N ?e ?U ?z ?_; (case F => k_asm); (case N => k_asm); (case U => k_upd); (case e => rfl); (case z => kl_room)); kl_rest)
  k_with "lt" => with_reducible (first | assumption | exact ll0 (by assumption) | exact ll1 (by assumption) | exact ll2 (by assumption) | exact ll3 (by assumption) | exact ll4 (by assumption) | exact ll5 (by assumption) | exact ll6 (by assumption) | exact ll7 (by assumption) | exact ll8 (by assumption) | exact ll9 (by assumption) | exact ll10 (by assumption) | exact ll11 (by assumption) | exact ll12 (by assumption) | exact ll13 (by assumption) | exact la0 (by assumption) | exact la1 (by assumption) | exact la2 (by assumption) | exact la3 (by assumption) | exact la4 (by assumption) | exact la5 (by assumption) | exact la6 (by assumption) | exact la7 (by assumption))
  k_with "keeplt" => skip
  k_with "ite" => with_reducible (first | refine ite_tt ?_ | refine ite_ff ?_)
  k_with "subscriptTail Attribute Name Name ref int" => (walk_at "last subscriptTail")
  k_with "callWith ref cons nil" => (k_here; k_dflt (refine' callWith_K ?k1 ?k2 ?_; (case k1 => k_asm); (case k2 => k_is); k_whole))
  k_with "call ref" => (k_here; (with_reducible show wpAny _ _ (call (Value.ref 202) _) _ _ _); k_dflt (refine' strval_A ?B ?F ?X ?G ?N ?hx ?T ?hk ?hd ?hu ?_; (case B => k_asm); (case F => k_asm); (case X => k_asm); (case N => k_asm); (case G => exact TreeG.mono (by assumption) (by repeat (first | assumption | exact sub_self | refine sub_tail ?_))); (case hx => assumption); (case T => k_asm); (case hk => first | exact rfl | assumption); (case hd => ktr_room); (case hu => ktr_units); intro t' h' tk' F' N'; (try dsimp only); (try k_fold)))
  k_with "call ref" => (k_here; (with_reducible show wpAny _ _ (call (Value.ref 173) _) _ _ _); k_dflt (refine' write_A ?hx ?B ?F ?X ?N ?T ?hk ?hd ?hu ?_; (case B => k_asm); (case F => k_asm); (case X => k_asm); (case N => k_asm); (case hx => assumption); (case T => k_asm); (case hk => first | exact rfl | assumption); (case hd => ktr_room); (case hu => ktr_units); intro t' h' tk' F' N'; (try dsimp only); (try k_fold)))
  refine wpAny_call ?_
  k_dflt ktr_enter
  repeat' (first | walk1 | (dsimp only; walk1))
  all_goals first | exact ret _ _ _ (by assumption) (news_sub (by assumption) (by repeat (first | exact sub_self | refine sub_tail ?_))) | (exfalso; exact nodec (by assumption))
set_option maxHeartbeats 0 in
theorem astext_none {T0 R : Addr} {led : List (Addr × Obj)} {xs : List Trip} {keep : List (Addr × Obj)} {tA : Addr} {n : Nat}
    (B : Below A₀ base outer h₀) (F : Fr h₀ L s.heap m) (X : (KK w.params).In h₀) (G : TreeG w led T0 R xs rowsE keep) (N : News h₀ L s.heap ((tA, listOf #[] n) :: led)) 
    (T : Top p loose mean mg mb h₀) (hk : cs.kind = .function) (hd : dp + 40 ≤ 900) (hu : un + 400 ≤ 1000)
    (ret : ∀ t h' tk', Fr h₀ L h' m → News h₀ L h' led → Q (.str (Str.ofString "") t) { s with heap := h', toks := tk' }) :
    wpAny (model PySem.Challenge.rw_xm0674_01.prog w) (ktrTop dp un gd cn cs L a ccd cl outer) (call (.ref 209) [.ref tA, .ref T0]) Q E s := by
  k_with_none
  k_with "memR" => (first | with_reducible assumption | exact List.Mem.head _ | (refine' List.Mem.tail _ ?_; k_extra "memR"))
  k_with "memD" => (first | exact List.Mem.head _ | assumption | (refine' List.Mem.tail _ ?_; k_extra "memD"))
  k_with "mem" => (first | k_extra "memR" | k_extra "memD")
  k_with "allR" => (first | with_reducible assumption | exact List.forall_mem_nil _ | (refine' List.forall_mem_cons.mpr ⟨?a, ?b⟩; (case a => first | with_reducible assumption | k_ne); (case b => k_extra "allR")))
  k_with "all" => (first | with_reducible assumption | exact List.forall_mem_nil _ | with_reducible (first | exact aa0 (by assumption) | exact aa1 (by assumption) | exact aa2 (by assumption) | exact aa3 (by assumption) | exact aa4 (by assumption) | exact aa5 (by assumption) | exact aa6 (by assumption) | exact aa7 (by assumption) | exact ab0 (by assumption) (by assumption) | exact ab1 (by assumption) (by assumption)) | k_extra "allR" | assumption)
  k_with "cj" => (with_reducible (first | assumption | exact cj0 (by assumption) | exact cj1 (by assumption) | exact cj2 (by assumption) | exact cj3 (by assumption) | exact cj4 (by assumption) | exact cj5 (by assumption) | exact cj6 (by assumption) | exact cj7 (by assumption) | exact cj8 (by assumption) | exact cj9 (by assumption) | exact cj10 (by assumption) | exact cj11 (by assumption) | exact cj12 (by assumption) | exact cj13 (by assumption) | exact cj14 (by assumption) | exact cj15 (by assumption) | exact cj16 (by assumption) | exact cl1 (by assumption) | exact cl2 (by assumption) | exact cl3 (by assumption) | exact cl4 (by assumption) | exact cl5 (by assumption) | exact cl6 (by assumption) | exact cl7 (by assumption) | exact cl8 (by assumption) | exact cl9 (by assumption) | exact cl10 (by assumption) | exact cl11 (by assumption) | exact cl12 (by assumption) | exact cl13 (by assumption) | exact cl14 (by assumption) | exact cl15 (by assumption) | exact cl16 (by assumption) | exact ct0t0x (by assumption) | exact ct0t1x (by assumption) | exact ct0t2x (by assumption) | exact ct1t0x (by assumption) | exact ct1t1x (by assumption) | exact ct1t2x (by assumption) | exact ct2t0x (by assumption) | exact ct2t1x (by assumption) | exact ct2t2x (by assumption) | exact ct3t0x (by assumption) | exact ct3t1x (by assumption) | exact ct3t2x (by assumption) | exact ct4t0x (by assumption) | exact ct4t1x (by assumption) | exact ct4t2x (by assumption)))
  k_with "ne" => ((refine neN ?_; (try dsimp only); first | with_reducible (first | assumption | exact ngt (by assumption) | exact nlt (by assumption) | exact Ne.symm (by assumption)) | with_reducible (first | exact al0 (by assumption) | exact ar0 (by assumption) | exact al1 (by assumption) | exact ar1 (by assumption) | exact al2 (by assumption) | exact ar2 (by assumption) | exact al3 (by assumption) | exact ar3 (by assumption) | exact al4 (by assumption) | exact ar4 (by assumption) | exact al5 (by assumption) | exact ar5 (by assumption) | exact al6 (by assumption) | exact ar6 (by assumption) | exact al7 (by assumption) | exact ar7 (by assumption) | exact al8 (by assumption) | exact ar8 (by assumption) | exact al9 (by assumption) | exact ar9 (by assumption) | exact al10 (by assumption) | exact ar10 (by assumption) | exact al11 (by assumption) | exact ar11 (by assumption) | exact al12 (by assumption) | exact ar12 (by assumption) | exact al13 (by assumption) | exact ar13 (by assumption) | exact al14 (by assumption) | exact ar14 (by assumption) | exact al15 (by assumption) | exact ar15 (by assumption)) | with_reducible (first | exact at0 (by assumption) (by assumption) | exact au0 (by assumption) (by assumption) | exact at1 (by assumption) (by assumption) | exact au1 (by assumption) (by assumption) | exact at2 (by assumption) (by assumption) | exact au2 (by assumption) (by assumption) | exact at3 (by assumption) (by assumption) | exact au3 (by assumption) (by assumption) | exact at4 (by assumption) (by assumption) | exact au4 (by assumption) (by assumption) | exact at5 (by assumption) (by assumption) | exact au5 (by assumption) (by assumption) | exact at6 (by assumption) (by assumption) | exact au6 (by assumption) (by assumption) | exact at7 (by assumption) (by assumption) | exact au7 (by assumption) (by assumption)) | with_reducible (first | exact av0 (by assumption) | exact avs0 (by assumption) | exact av1 (by assumption) | exact avs1 (by assumption) | exact av2 (by assumption) | exact avs2 (by assumption) | exact av3 (by assumption) | exact avs3 (by assumption) | exact av4 (by assumption) | exact avs4 (by assumption) | exact av5 (by assumption) | exact avs5 (by assumption) | exact aw0 (by assumption) | exact aws0 (by assumption) | exact aw1 (by assumption) | exact aws1 (by assumption) | exact aw2 (by assumption) | exact aws2 (by assumption) | exact aw3 (by assumption) | exact aws3 (by assumption) | exact aw4 (by assumption) | exact aws4 (by assumption) | exact aw5 (by assumption) | exact aws5 (by assumption)) | (refine nlt ?_; k_data) | (refine ngt ?_; k_data) | k_data | (refine Ne.symm ?_; k_data) | (refine ngt1 ?_; k_data) | (refine ngt2 ?_; k_data) | (refine nlt1 ?_; k_data) | (refine nlt2 ?_; k_data) | omega))
  k_with "room" => (first | exact room_le2 (by assumption) (by exact rfl) | exact room_lt2 (by assumption) (by exact rfl) | exact room_le1 (by assumption) (by exact rfl) | exact room_lt1 (by assumption) (by exact rfl) | exact room_le3 (by assumption) (by exact rfl) | exact room_lt3 (by assumption) (by exact rfl) | exact room_ltF (by assumption) (by exact rfl) (by exact rfl))
  k_with "units" => (first | exact unit_le2 (by assumption) (by exact rfl) | exact unit_lt2 (by assumption) (by exact rfl) | exact unit_le1 (by assumption) (by exact rfl) | exact unit_lt1 (by assumption) (by exact rfl) | exact unit_le3 (by assumption) (by exact rfl) | exact unit_lt3 (by assumption) (by exact rfl) | exact unit_ltE (by assumption) (by exact rfl) (by exact rfl) | exact unit_ltF (by assumption) (by exact rfl) (by exact rfl))
  k_with "callWith ref nil nil" => (k_here; k_dflt (refine' callWith_K ?k1 ?k2 ?_; (case k1 => k_asm); (case k2 => k_is); k_whole))
  k_with "eval Name" => (k_here; k_dflt (refine' nameX_L ?F ?v ?_ ?a ?b; (case b => exact rfl); (case F => k_asm); (case a => rfl); (case v => rfl); k_whole))
  k_with "eval Name" => (k_here; k_dflt (refine' nameX_K ?F ?X ?T ?e ?_ ?a ?b; (case b => exact rfl); (case F => k_asm); (case X => k_asm); (case T => k_asm); (case a => rfl); (case e => k_is); k_whole))
  k_with "eval Name" => (k_here; k_dflt (refine' nameX_B ?F ?X ?T ?e ?v ?n ?_ ?a ?b; (case b => exact rfl); (case F => k_asm); (case X => k_asm); (case T => k_asm); (case a => rfl); (case e => k_is); (case v => boot_fast); (case n => decide); k_whole))
  k_with "subscriptTail Name Constant ref int" => (k_here; (with_reducible show wpAny _ _ (subscriptTail _ _ (Value.ref _) (Value.int _ _)) _ _ _); k_dflt (first | (refine' item_tupleT ?t ?a ?b ?c ?d ?_; (case t => first | with_reducible assumption | exact News.isTup (by k_asm) (by k_mem)); (case a => decide); (case b => decide); (case c => rfl); (case d => rfl); k_whole) | (refine' topTup_K ?F ?X ?l ?a ?b ?c ?d ?_; (case F => k_asm); (case X => k_asm); (case l => k_is); (case a => decide); (case b => decide); (case c => rfl); (case d => rfl)) | (refine' topList_K ?F ?X ?l ?a ?b ?d ?_; (case F => k_asm); (case X => k_asm); (case l => k_is); (case a => decide); (case b => decide); (case d => rfl); k_whole)))
  k_with "subscriptTail Name Constant ref int" => (k_here; (with_reducible show wpAny _ _ (subscriptTail _ _ (Value.ref _) (Value.int _ _)) _ _ _); (with_unfolding_all refine' item_litK ?k1 ?k2 ?k3 ?k4 ?_ ?k6; (case k1 => is_list); (case k2 => decide); (case k3 => decide); (case k4 => rfl); (case k6 => with_unfolding_all rfl); k_whole))
  k_with "call builtin:list.pop" => (k_here; k_dflt ((with_reducible show wpAny _ _ (call (Value.builtin _) [Value.ref _]) _ _ _); refine' kl_pop ?F ?N ?e ?U ?z ?_; (case F => k_asm); (case N => k_asm); (case U => k_upd); (case e => rfl); (case z => kl_room)); kl_rest)
  k_with "lt" => with_reducible (first | assumption | exact ll0 (by assumption) | exact ll1 (by assumption) | exact ll2 (by assumption) | exact ll3 (by assumption) | exact ll4 (by assumption) | exact ll5 (by assumption) | exact ll6 (by assumption) | exact ll7 (by assumption) | exact ll8 (by assumption) | exact ll9 (by assumption) | exact ll10 (by assumption) | exact ll11 (by assumption) | exact ll12 (by assumption) | exact ll13 (by assumption) | exact la0 (by assumption) | exact la1 (by assumption) | exact la2 (by assumption) | exact la3 (by assumption) | exact la4 (by assumption) | exact la5 (by assumption) | exact la6 (by assumption) | exact la7 (by assumption))
  k_with "keeplt" => skip
  k_with "ite" => with_reducible (first | refine ite_tt ?_ | refine ite_ff ?_)
  k_with "subscriptTail Attribute Name Name ref int" => (walk_at "last subscriptTail")
  k_with "callWith ref cons nil" => (k_here; k_dflt (refine' callWith_K ?k1 ?k2 ?_; (case k1 => k_asm); (case k2 => k_is); k_whole))
  k_with "call ref" => (k_here; (with_reducible show wpAny _ _ (call (Value.ref 202) _) _ _ _); k_dflt (refine' strval_A ?B ?F ?X ?G ?N ?hx ?T ?hk ?hd ?hu ?_; (case B => k_asm); (case F => k_asm); (case X => k_asm); (case N => k_asm); (case G => exact TreeG.mono (by assumption) (by repeat (first | assumption | exact sub_self | refine sub_tail ?_))); (case hx => assumption); (case T => k_asm); (case hk => first | exact rfl | assumption); (case hd => ktr_room); (case hu => ktr_units); intro t' h' tk' F' N'; (try dsimp only); (try k_fold)))
  k_with "call ref" => (k_here; (with_reducible show wpAny _ _ (call (Value.ref 173) _) _ _ _); k_dflt (refine' write_A ?hx ?B ?F ?X ?N ?T ?hk ?hd ?hu ?_; (case B => k_asm); (case F => k_asm); (case X => k_asm); (case N => k_asm); (case hx => assumption); (case T => k_asm); (case hk => first | exact rfl | assumption); (case hd => ktr_room); (case hu => ktr_units); intro t' h' tk' F' N'; (try dsimp only); (try k_fold)))
  refine wpAny_call ?_
  k_dflt ktr_enter
  repeat' (first | walk1 | (dsimp only; walk1))
  all_goals first | exact ret _ _ _ (by assumption) (news_sub (by assumption) (by repeat (first | exact sub_self | refine sub_tail ?_))) | (exfalso; exact nodec (by assumption))
set_option maxHeartbeats 0 in
theorem astext_str {T0 R : Addr} {led : List (Addr × Obj)} {xs : List Trip} {keep : List (Addr × Obj)} {x : Str} {tx : Tok}
    (B : Below A₀ base outer h₀) (F : Fr h₀ L s.heap m) (X : (KK w.params).In h₀) (G : TreeG w led T0 R xs rowsE keep) (N : News h₀ L s.heap led) 
    (T : Top p loose mean mg mb h₀) (hk : cs.kind = .function) (hd : dp + 40 ≤ 900) (hu : un + 400 ≤ 1000)
    (ret : ∀ t h' tk', Fr h₀ L h' m → News h₀ L h' led → Q (.str x t) { s with heap := h', toks := tk' }) :
    wpAny (model PySem.Challenge.rw_xm0674_01.prog w) (ktrTop dp un gd cn cs L a ccd cl outer) (call (.ref 209) [.str x tx, .ref T0]) Q E s := by
  k_with_none
  k_with "memR" => (first | with_reducible assumption | exact List.Mem.head _ | (refine' List.Mem.tail _ ?_; k_extra "memR"))
  k_with "memD" => (first | exact List.Mem.head _ | assumption | (refine' List.Mem.tail _ ?_; k_extra "memD"))
  k_with "mem" => (first | k_extra "memR" | k_extra "memD")
  k_with "allR" => (first | with_reducible assumption | exact List.forall_mem_nil _ | (refine' List.forall_mem_cons.mpr ⟨?a, ?b⟩; (case a => first | with_reducible assumption | k_ne); (case b => k_extra "allR")))
  k_with "all" => (first | with_reducible assumption | exact List.forall_mem_nil _ | with_reducible (first | exact aa0 (by assumption) | exact aa1 (by assumption) | exact aa2 (by assumption) | exact aa3 (by assumption) | exact aa4 (by assumption) | exact aa5 (by assumption) | exact aa6 (by assumption) | exact aa7 (by assumption) | exact ab0 (by assumption) (by assumption) | exact ab1 (by assumption) (by assumption)) | k_extra "allR" | assumption)
  k_with "cj" => (with_reducible (first | assumption | exact cj0 (by assumption) | exact cj1 (by assumption) | exact cj2 (by assumption) | exact cj3 (by assumption) | exact cj4 (by assumption) | exact cj5 (by assumption) | exact cj6 (by assumption) | exact cj7 (by assumption) | exact cj8 (by assumption) | exact cj9 (by assumption) | exact cj10 (by assumption) | exact cj11 (by assumption) | exact cj12 (by assumption) | exact cj13 (by assumption) | exact cj14 (by assumption) | exact cj15 (by assumption) | exact cj16 (by assumption) | exact cl1 (by assumption) | exact cl2 (by assumption) | exact cl3 (by assumption) | exact cl4 (by assumption) | exact cl5 (by assumption) | exact cl6 (by assumption) | exact cl7 (by assumption) | exact cl8 (by assumption) | exact cl9 (by assumption) | exact cl10 (by assumption) | exact cl11 (by assumption) | exact cl12 (by assumption) | exact cl13 (by assumption) | exact cl14 (by assumption) | exact cl15 (by assumption) | exact cl16 (by assumption) | exact ct0t0x (by assumption) | exact ct0t1x (by assumption) | exact ct0t2x (by assumption) | exact ct1t0x (by assumption) | exact ct1t1x (by assumption) | exact ct1t2x (by assumption) | exact ct2t0x (by assumption) | exact ct2t1x (by assumption) | exact ct2t2x (by assumption) | exact ct3t0x (by assumption) | exact ct3t1x (by assumption) | exact ct3t2x (by assumption) | exact ct4t0x (by assumption) | exact ct4t1x (by assumption) | exact ct4t2x (by assumption)))
  k_with "ne" => ((refine neN ?_; (try dsimp only); first | with_reducible (first | assumption | exact ngt (by assumption) | exact nlt (by assumption) | exact Ne.symm (by assumption)) | with_reducible (first | exact al0 (by assumption) | exact ar0 (by assumption) | exact al1 (by assumption) | exact ar1 (by assumption) | exact al2 (by assumption) | exact ar2 (by assumption) | exact al3 (by assumption) | exact ar3 (by assumption) | exact al4 (by assumption) | exact ar4 (by assumption) | exact al5 (by assumption) | exact ar5 (by assumption) | exact al6 (by assumption) | exact ar6 (by assumption) | exact al7 (by assumption) | exact ar7 (by assumption) | exact al8 (by assumption) | exact ar8 (by assumption) | exact al9 (by assumption) | exact ar9 (by assumption) | exact al10 (by assumption) | exact ar10 (by assumption) | exact al11 (by assumption) | exact ar11 (by assumption) | exact al12 (by assumption) | exact ar12 (by assumption) | exact al13 (by assumption) | exact ar13 (by assumption) | exact al14 (by assumption) | exact ar14 (by assumption) | exact al15 (by assumption) | exact ar15 (by assumption)) | with_reducible (first | exact at0 (by assumption) (by assumption) | exact au0 (by assumption) (by assumption) | exact at1 (by assumption) (by assumption) | exact au1 (by assumption) (by assumption) | exact at2 (by assumption) (by assumption) | exact au2 (by assumption) (by assumption) | exact at3 (by assumption) (by assumption) | exact au3 (by assumption) (by assumption) | exact at4 (by assumption) (by assumption) | exact au4 (by assumption) (by assumption) | exact at5 (by assumption) (by assumption) | exact au5 (by assumption) (by assumption) | exact at6 (by assumption) (by assumption) | exact au6 (by assumption) (by assumption) | exact at7 (by assumption) (by assumption) | exact au7 (by assumption) (by assumption)) | with_reducible (first | exact av0 (by assumption) | exact avs0 (by assumption) | exact av1 (by assumption) | exact avs1 (by assumption) | exact av2 (by assumption) | exact avs2 (by assumption) | exact av3 (by assumption) | exact avs3 (by assumption) | exact av4 (by assumption) | exact avs4 (by assumption) | exact av5 (by assumption) | exact avs5 (by assumption) | exact aw0 (by assumption) | exact aws0 (by assumption) | exact aw1 (by assumption) | exact aws1 (by assumption) | exact aw2 (by assumption) | exact aws2 (by assumption) | exact aw3 (by assumption) | exact aws3 (by assumption) | exact aw4 (by assumption) | exact aws4 (by assumption) | exact aw5 (by assumption) | exact aws5 (by assumption)) | (refine nlt ?_; k_data) | (refine ngt ?_; k_data) | k_data | (refine Ne.symm ?_; k_data) | (refine ngt1 ?_; k_data) | (refine ngt2 ?_; k_data) | (refine nlt1 ?_; k_data) | (refine nlt2 ?_; k_data) | omega))
  k_with "room" => (first | exact room_le2 (by assumption) (by exact rfl) | exact room_lt2 (by assumption) (by exact rfl) | exact room_le1 (by assumption) (by exact rfl) | exact room_lt1 (by assumption) (by exact rfl) | exact room_le3 (by assumption) (by exact rfl) | exact room_lt3 (by assumption) (by exact rfl) | exact room_ltF (by assumption) (by exact rfl) (by exact rfl))
  k_with "units" => (first | exact unit_le2 (by assumption) (by exact rfl) | exact unit_lt2 (by assumption) (by exact rfl) | exact unit_le1 (by assumption) (by exact rfl) | exact unit_lt1 (by assumption) (by exact rfl) | exact unit_le3 (by assumption) (by exact rfl) | exact unit_lt3 (by assumption) (by exact rfl) | exact unit_ltE (by assumption) (by exact rfl) (by exact rfl) | exact unit_ltF (by assumption) (by exact rfl) (by exact rfl))
  k_with "callWith ref nil nil" => (k_here; k_dflt (refine' callWith_K ?k1 ?k2 ?_; (case k1 => k_asm); (case k2 => k_is); k_whole))
  k_with "eval Name" => (k_here; k_dflt (refine' nameX_L ?F ?v ?_ ?a ?b; (case b => exact rfl); (case F => k_asm); (case a => rfl); (case v => rfl); k_whole))
  k_with "eval Name" => (k_here; k_dflt (refine' nameX_K ?F ?X ?T ?e ?_ ?a ?b; (case b => exact rfl); (case F => k_asm); (case X => k_asm); (case T => k_asm); (case a => rfl); (case e => k_is); k_whole))
  k_with "eval Name" => (k_here; k_dflt (refine' nameX_B ?F ?X ?T ?e ?v ?n ?_ ?a ?b; (case b => exact rfl); (case F => k_asm); (case X => k_asm); (case T => k_asm); (case a => rfl); (case e => k_is); (case v => boot_fast); (case n => decide); k_whole))
  k_with "subscriptTail Name Constant ref int" => (k_here; (with_reducible show wpAny _ _ (subscriptTail _ _ (Value.ref _) (Value.int _ _)) _ _ _); k_dflt (first | (refine' item_tupleT ?t ?a ?b ?c ?d ?_; (case t => first | with_reducible assumption | exact News.isTup (by k_asm) (by k_mem)); (case a => decide); (case b => decide); (case c => rfl); (case d => rfl); k_whole) | (refine' topTup_K ?F ?X ?l ?a ?b ?c ?d ?_; (case F => k_asm); (case X => k_asm); (case l => k_is); (case a => decide); (case b => decide); (case c => rfl); (case d => rfl)) | (refine' topList_K ?F ?X ?l ?a ?b ?d ?_; (case F => k_asm); (case X => k_asm); (case l => k_is); (case a => decide); (case b => decide); (case d => rfl); k_whole)))
  k_with "subscriptTail Name Constant ref int" => (k_here; (with_reducible show wpAny _ _ (subscriptTail _ _ (Value.ref _) (Value.int _ _)) _ _ _); (with_unfolding_all refine' item_litK ?k1 ?k2 ?k3 ?k4 ?_ ?k6; (case k1 => is_list); (case k2 => decide); (case k3 => decide); (case k4 => rfl); (case k6 => with_unfolding_all rfl); k_whole))
  k_with "call builtin:list.pop" => (k_here; k_dflt ((with_reducible show wpAny _ _ (call (Value.builtin _) [Value.ref _]) _ _ _); refine' kl_pop ?F ?N ?e ?U ?z ?_; (case F => k_asm); (case N => k_asm); (case U => k_upd); (case e => rfl); (case z => kl_room)); kl_rest)
  k_with "lt" => with_reducible (first | assumption | exact ll0 (by assumption) | exact ll1 (by assumption) | exact ll2 (by assumption) | exact ll3 (by assumption) | exact ll4 (by assumption) | exact ll5 (by assumption) | exact ll6 (by assumption) | exact ll7 (by assumption) | exact ll8 (by assumption) | exact ll9 (by assumption) | exact ll10 (by assumption) | exact ll11 (by assumption) | exact ll12 (by assumption) | exact ll13 (by assumption) | exact la0 (by assumption) | exact la1 (by assumption) | exact la2 (by assumption) | exact la3 (by assumption) | exact la4 (by assumption) | exact la5 (by assumption) | exact la6 (by assumption) | exact la7 (by assumption))
  k_with "keeplt" => skip
  k_with "ite" => with_reducible (first | refine ite_tt ?_ | refine ite_ff ?_)
  k_with "subscriptTail Attribute Name Name ref int" => (walk_at "last subscriptTail")
  k_with "callWith ref cons nil" => (k_here; k_dflt (refine' callWith_K ?k1 ?k2 ?_; (case k1 => k_asm); (case k2 => k_is); k_whole))
  k_with "call ref" => (k_here; (with_reducible show wpAny _ _ (call (Value.ref 202) _) _ _ _); k_dflt (refine' strval_A ?B ?F ?X ?G ?N ?hx ?T ?hk ?hd ?hu ?_; (case B => k_asm); (case F => k_asm); (case X => k_asm); (case N => k_asm); (case G => exact TreeG.mono (by assumption) (by repeat (first | assumption | exact sub_self | refine sub_tail ?_))); (case hx => assumption); (case T => k_asm); (case hk => first | exact rfl | assumption); (case hd => ktr_room); (case hu => ktr_units); intro t' h' tk' F' N'; (try dsimp only); (try k_fold)))
  k_with "call ref" => (k_here; (with_reducible show wpAny _ _ (call (Value.ref 173) _) _ _ _); k_dflt (refine' write_A ?hx ?B ?F ?X ?N ?T ?hk ?hd ?hu ?_; (case B => k_asm); (case F => k_asm); (case X => k_asm); (case N => k_asm); (case hx => assumption); (case T => k_asm); (case hk => first | exact rfl | assumption); (case hd => ktr_room); (case hu => ktr_units); intro t' h' tk' F' N'; (try dsimp only); (try k_fold)))
  refine wpAny_call ?_
  k_dflt ktr_enter
  repeat' (first | walk1 | (dsimp only; walk1))
  all_goals first | exact ret _ _ _ (by assumption) (news_sub (by assumption) (by repeat (first | exact sub_self | refine sub_tail ?_))) | (exfalso; exact nodec (by assumption))
set_option maxHeartbeats 0 in
theorem astext_tt {T0 R : Addr} {led : List (Addr × Obj)} {xs : List Trip} {keep : List (Addr × Obj)} 
    (B : Below A₀ base outer h₀) (F : Fr h₀ L s.heap m) (X : (KK w.params).In h₀) (G : TreeG w led T0 R xs rowsE keep) (N : News h₀ L s.heap led) 
    (T : Top p loose mean mg mb h₀) (hk : cs.kind = .function) (hd : dp + 40 ≤ 900) (hu : un + 400 ≤ 1000)
    (ret : ∀ t h' tk', Fr h₀ L h' m → News h₀ L h' led → Q (.str (Str.ofString "true") t) { s with heap := h', toks := tk' }) :
    wpAny (model PySem.Challenge.rw_xm0674_01.prog w) (ktrTop dp un gd cn cs L a ccd cl outer) (call (.ref 209) [.bool true, .ref T0]) Q E s := by
  k_with_none
  k_with "memR" => (first | with_reducible assumption | exact List.Mem.head _ | (refine' List.Mem.tail _ ?_; k_extra "memR"))
  k_with "memD" => (first | exact List.Mem.head _ | assumption | (refine' List.Mem.tail _ ?_; k_extra "memD"))
  k_with "mem" => (first | k_extra "memR" | k_extra "memD")
  k_with "allR" => (first | with_reducible assumption | exact List.forall_mem_nil _ | (refine' List.forall_mem_cons.mpr ⟨?a, ?b⟩; (case a => first | with_reducible assumption | k_ne); (case b => k_extra "allR")))
  k_with "all" => (first | with_reducible assumption | exact List.forall_mem_nil _ | with_reducible (first | exact aa0 (by assumption) | exact aa1 (by assumption) | exact aa2 (by assumption) | exact aa3 (by assumption) | exact aa4 (by assumption) | exact aa5 (by assumption) | exact aa6 (by assumption) | exact aa7 (by assumption) | exact ab0 (by assumption) (by assumption) | exact ab1 (by assumption) (by assumption)) | k_extra "allR" | assumption)
  k_with "cj" => (with_reducible (first | assumption | exact cj0 (by assumption) | exact cj1 (by assumption) | exact cj2 (by assumption) | exact cj3 (by assumption) | exact cj4 (by assumption) | exact cj5 (by assumption) | exact cj6 (by assumption) | exact cj7 (by assumption) | exact cj8 (by assumption) | exact cj9 (by assumption) | exact cj10 (by assumption) | exact cj11 (by assumption) | exact cj12 (by assumption) | exact cj13 (by assumption) | exact cj14 (by assumption) | exact cj15 (by assumption) | exact cj16 (by assumption) | exact cl1 (by assumption) | exact cl2 (by assumption) | exact cl3 (by assumption) | exact cl4 (by assumption) | exact cl5 (by assumption) | exact cl6 (by assumption) | exact cl7 (by assumption) | exact cl8 (by assumption) | exact cl9 (by assumption) | exact cl10 (by assumption) | exact cl11 (by assumption) | exact cl12 (by assumption) | exact cl13 (by assumption) | exact cl14 (by assumption) | exact cl15 (by assumption) | exact cl16 (by assumption) | exact ct0t0x (by assumption) | exact ct0t1x (by assumption) | exact ct0t2x (by assumption) | exact ct1t0x (by assumption) | exact ct1t1x (by assumption) | exact ct1t2x (by assumption) | exact ct2t0x (by assumption) | exact ct2t1x (by assumption) | exact ct2t2x (by assumption) | exact ct3t0x (by assumption) | exact ct3t1x (by assumption) | exact ct3t2x (by assumption) | exact ct4t0x (by assumption) | exact ct4t1x (by assumption) | exact ct4t2x (by assumption)))
  k_with "ne" => ((refine neN ?_; (try dsimp only); first | with_reducible (first | assumption | exact ngt (by assumption) | exact nlt (by assumption) | exact Ne.symm (by assumption)) | with_reducible (first | exact al0 (by assumption) | exact ar0 (by assumption) | exact al1 (by assumption) | exact ar1 (by assumption) | exact al2 (by assumption) | exact ar2 (by assumption) | exact al3 (by assumption) | exact ar3 (by assumption) | exact al4 (by assumption) | exact ar4 (by assumption) | exact al5 (by assumption) | exact ar5 (by assumption) | exact al6 (by assumption) | exact ar6 (by assumption) | exact al7 (by assumption) | exact ar7 (by assumption) | exact al8 (by assumption) | exact ar8 (by assumption) | exact al9 (by assumption) | exact ar9 (by assumption) | exact al10 (by assumption) | exact ar10 (by assumption) | exact al11 (by assumption) | exact ar11 (by assumption) | exact al12 (by assumption) | exact ar12 (by assumption) | exact al13 (by assumption) | exact ar13 (by assumption) | exact al14 (by assumption) | exact ar14 (by assumption) | exact al15 (by assumption) | exact ar15 (by assumption)) | with_reducible (first | exact at0 (by assumption) (by assumption) | exact au0 (by assumption) (by assumption) | exact at1 (by assumption) (by assumption) | exact au1 (by assumption) (by assumption) | exact at2 (by assumption) (by assumption) | exact au2 (by assumption) (by assumption) | exact at3 (by assumption) (by assumption) | exact au3 (by assumption) (by assumption) | exact at4 (by assumption) (by assumption) | exact au4 (by assumption) (by assumption) | exact at5 (by assumption) (by assumption) | exact au5 (by assumption) (by assumption) | exact at6 (by assumption) (by assumption) | exact au6 (by assumption) (by assumption) | exact at7 (by assumption) (by assumption) | exact au7 (by assumption) (by assumption)) | with_reducible (first | exact av0 (by assumption) | exact avs0 (by assumption) | exact av1 (by assumption) | exact avs1 (by assumption) | exact av2 (by assumption) | exact avs2 (by assumption) | exact av3 (by assumption) | exact avs3 (by assumption) | exact av4 (by assumption) | exact avs4 (by assumption) | exact av5 (by assumption) | exact avs5 (by assumption) | exact aw0 (by assumption) | exact aws0 (by assumption) | exact aw1 (by assumption) | exact aws1 (by assumption) | exact aw2 (by assumption) | exact aws2 (by assumption) | exact aw3 (by assumption) | exact aws3 (by assumption) | exact aw4 (by assumption) | exact aws4 (by assumption) | exact aw5 (by assumption) | exact aws5 (by assumption)) | (refine nlt ?_; k_data) | (refine ngt ?_; k_data) | k_data | (refine Ne.symm ?_; k_data) | (refine ngt1 ?_; k_data) | (refine ngt2 ?_; k_data) | (refine nlt1 ?_; k_data) | (refine nlt2 ?_; k_data) | omega))
  k_with "room" => (first | exact room_le2 (by assumption) (by exact rfl) | exact room_lt2 (by assumption) (by exact rfl) | exact room_le1 (by assumption) (by exact rfl) | exact room_lt1 (by assumption) (by exact rfl) | exact room_le3 (by assumption) (by exact rfl) | exact room_lt3 (by assumption) (by exact rfl) | exact room_ltF (by assumption) (by exact rfl) (by exact rfl))
  k_with "units" => (first | exact unit_le2 (by assumption) (by exact rfl) | exact unit_lt2 (by assumption) (by exact rfl) | exact unit_le1 (by assumption) (by exact rfl) | exact unit_lt1 (by assumption) (by exact rfl) | exact unit_le3 (by assumption) (by exact rfl) | exact unit_lt3 (by assumption) (by exact rfl) | exact unit_ltE (by assumption) (by exact rfl) (by exact rfl) | exact unit_ltF (by assumption) (by exact rfl) (by exact rfl))
  k_with "callWith ref nil nil" => (k_here; k_dflt (refine' callWith_K ?k1 ?k2 ?_; (case k1 => k_asm); (case k2 => k_is); k_whole))
  k_with "eval Name" => (k_here; k_dflt (refine' nameX_L ?F ?v ?_ ?a ?b; (case b => exact rfl); (case F => k_asm); (case a => rfl); (case v => rfl); k_whole))
  k_with "eval Name" => (k_here; k_dflt (refine' nameX_K ?F ?X ?T ?e ?_ ?a ?b; (case b => exact rfl); (case F => k_asm); (case X => k_asm); (case T => k_asm); (case a => rfl); (case e => k_is); k_whole))
  k_with "eval Name" => (k_here; k_dflt (refine' nameX_B ?F ?X ?T ?e ?v ?n ?_ ?a ?b; (case b => exact rfl); (case F => k_asm); (case X => k_asm); (case T => k_asm); (case a => rfl); (case e => k_is); (case v => boot_fast); (case n => decide); k_whole))
  k_with "subscriptTail Name Constant ref int" => (k_here; (with_reducible show wpAny _ _ (subscriptTail _ _ (Value.ref _) (Value.int _ _)) _ _ _); k_dflt (first | (refine' item_tupleT ?t ?a ?b ?c ?d ?_; (case t => first | with_reducible assumption | exact News.isTup (by k_asm) (by k_mem)); (case a => decide); (case b => decide); (case c => rfl); (case d => rfl); k_whole) | (refine' topTup_K ?F ?X ?l ?a ?b ?c ?d ?_; (case F => k_asm); (case X => k_asm); (case l => k_is); (case a => decide); (case b => decide); (case c => rfl); (case d => rfl)) | (refine' topList_K ?F ?X ?l ?a ?b ?d ?_; (case F => k_asm); (case X => k_asm); (case l => k_is); (case a => decide); (case b => decide); (case d => rfl); k_whole)))
  k_with "subscriptTail Name Constant ref int" => (k_here; (with_reducible show wpAny _ _ (subscriptTail _ _ (Value.ref _) (Value.int _ _)) _ _ _); (with_unfolding_all refine' item_litK ?k1 ?k2 ?k3 ?k4 ?_ ?k6; (case k1 => is_list); (case k2 => decide); (case k3 => decide); (case k4 => rfl); (case k6 => with_unfolding_all rfl); k_whole))
  k_with "call builtin:list.pop" => (k_here; k_dflt ((with_reducible show wpAny _ _ (call (Value.builtin _) [Value.ref _]) _ _ _); refine' kl_pop ?F ?N ?e ?U ?z ?_; (case F => k_asm); (case N => k_asm); (case U => k_upd); (case e => rfl); (case z => kl_room)); kl_rest)
  k_with "lt" => with_reducible (first | assumption | exact ll0 (by assumption) | exact ll1 (by assumption) | exact ll2 (by assumption) | exact ll3 (by assumption) | exact ll4 (by assumption) | exact ll5 (by assumption) | exact ll6 (by assumption) | exact ll7 (by assumption) | exact ll8 (by assumption) | exact ll9 (by assumption) | exact ll10 (by assumption) | exact ll11 (by assumption) | exact ll12 (by assumption) | exact ll13 (by assumption) | exact la0 (by assumption) | exact la1 (by assumption) | exact la2 (by assumption) | exact la3 (by assumption) | exact la4 (by assumption) | exact la5 (by assumption) | exact la6 (by assumption) | exact la7 (by assumption))
  k_with "keeplt" => skip
  k_with "ite" => with_reducible (first | refine ite_tt ?_ | refine ite_ff ?_)
  k_with "subscriptTail Attribute Name Name ref int" => (walk_at "last subscriptTail")
  k_with "callWith ref cons nil" => (k_here; k_dflt (refine' callWith_K ?k1 ?k2 ?_; (case k1 => k_asm); (case k2 => k_is); k_whole))
  k_with "call ref" => (k_here; (with_reducible show wpAny _ _ (call (Value.ref 202) _) _ _ _); k_dflt (refine' strval_A ?B ?F ?X ?G ?N ?hx ?T ?hk ?hd ?hu ?_; (case B => k_asm); (case F => k_asm); (case X => k_asm); (case N => k_asm); (case G => exact TreeG.mono (by assumption) (by repeat (first | assumption | exact sub_self | refine sub_tail ?_))); (case hx => assumption); (case T => k_asm); (case hk => first | exact rfl | assumption); (case hd => ktr_room); (case hu => ktr_units); intro t' h' tk' F' N'; (try dsimp only); (try k_fold)))
  k_with "call ref" => (k_here; (with_reducible show wpAny _ _ (call (Value.ref 173) _) _ _ _); k_dflt (refine' write_A ?hx ?B ?F ?X ?N ?T ?hk ?hd ?hu ?_; (case B => k_asm); (case F => k_asm); (case X => k_asm); (case N => k_asm); (case hx => assumption); (case T => k_asm); (case hk => first | exact rfl | assumption); (case hd => ktr_room); (case hu => ktr_units); intro t' h' tk' F' N'; (try dsimp only); (try k_fold)))
  refine wpAny_call ?_
  k_dflt ktr_enter
  repeat' (first | walk1 | (dsimp only; walk1))
  all_goals first | exact ret _ _ _ (by assumption) (news_sub (by assumption) (by repeat (first | exact sub_self | refine sub_tail ?_))) | (exfalso; exact nodec (by assumption))
set_option maxHeartbeats 0 in
theorem astext_ff {T0 R : Addr} {led : List (Addr × Obj)} {xs : List Trip} {keep : List (Addr × Obj)} 
    (B : Below A₀ base outer h₀) (F : Fr h₀ L s.heap m) (X : (KK w.params).In h₀) (G : TreeG w led T0 R xs rowsE keep) (N : News h₀ L s.heap led) 
    (T : Top p loose mean mg mb h₀) (hk : cs.kind = .function) (hd : dp + 40 ≤ 900) (hu : un + 400 ≤ 1000)
    (ret : ∀ t h' tk', Fr h₀ L h' m → News h₀ L h' led → Q (.str (Str.ofString "false") t) { s with heap := h', toks := tk' }) :
    wpAny (model PySem.Challenge.rw_xm0674_01.prog w) (ktrTop dp un gd cn cs L a ccd cl outer) (call (.ref 209) [.bool false, .ref T0]) Q E s := by
  k_with_none
  k_with "memR" => (first | with_reducible assumption | exact List.Mem.head _ | (refine' List.Mem.tail _ ?_; k_extra "memR"))
  k_with "memD" => (first | exact List.Mem.head _ | assumption | (refine' List.Mem.tail _ ?_; k_extra "memD"))
  k_with "mem" => (first | k_extra "memR" | k_extra "memD")
  k_with "allR" => (first | with_reducible assumption | exact List.forall_mem_nil _ | (refine' List.forall_mem_cons.mpr ⟨?a, ?b⟩; (case a => first | with_reducible assumption | k_ne); (case b => k_extra "allR")))
  k_with "all" => (first | with_reducible assumption | exact List.forall_mem_nil _ | with_reducible (first | exact aa0 (by assumption) | exact aa1 (by assumption) | exact aa2 (by assumption) | exact aa3 (by assumption) | exact aa4 (by assumption) | exact aa5 (by assumption) | exact aa6 (by assumption) | exact aa7 (by assumption) | exact ab0 (by assumption) (by assumption) | exact ab1 (by assumption) (by assumption)) | k_extra "allR" | assumption)
  k_with "cj" => (with_reducible (first | assumption | exact cj0 (by assumption) | exact cj1 (by assumption) | exact cj2 (by assumption) | exact cj3 (by assumption) | exact cj4 (by assumption) | exact cj5 (by assumption) | exact cj6 (by assumption) | exact cj7 (by assumption) | exact cj8 (by assumption) | exact cj9 (by assumption) | exact cj10 (by assumption) | exact cj11 (by assumption) | exact cj12 (by assumption) | exact cj13 (by assumption) | exact cj14 (by assumption) | exact cj15 (by assumption) | exact cj16 (by assumption) | exact cl1 (by assumption) | exact cl2 (by assumption) | exact cl3 (by assumption) | exact cl4 (by assumption) | exact cl5 (by assumption) | exact cl6 (by assumption) | exact cl7 (by assumption) | exact cl8 (by assumption) | exact cl9 (by assumption) | exact cl10 (by assumption) | exact cl11 (by assumption) | exact cl12 (by assumption) | exact cl13 (by assumption) | exact cl14 (by assumption) | exact cl15 (by assumption) | exact cl16 (by assumption) | exact ct0t0x (by assumption) | exact ct0t1x (by assumption) | exact ct0t2x (by assumption) | exact ct1t0x (by assumption) | exact ct1t1x (by assumption) | exact ct1t2x (by assumption) | exact ct2t0x (by assumption) | exact ct2t1x (by assumption) | exact ct2t2x (by assumption) | exact ct3t0x (by assumption) | exact ct3t1x (by assumption) | exact ct3t2x (by assumption) | exact ct4t0x (by assumption) | exact ct4t1x (by assumption) | exact ct4t2x (by assumption)))
  k_with "ne" => ((refine neN ?_; (try dsimp only); first | with_reducible (first | assumption | exact ngt (by assumption) | exact nlt (by assumption) | exact Ne.symm (by assumption)) | with_reducible (first | exact al0 (by assumption) | exact ar0 (by assumption) | exact al1 (by assumption) | exact ar1 (by assumption) | exact al2 (by assumption) | exact ar2 (by assumption) | exact al3 (by assumption) | exact ar3 (by assumption) | exact al4 (by assumption) | exact ar4 (by assumption) | exact al5 (by assumption) | exact ar5 (by assumption) | exact al6 (by assumption) | exact ar6 (by assumption) | exact al7 (by assumption) | exact ar7 (by assumption) | exact al8 (by assumption) | exact ar8 (by assumption) | exact al9 (by assumption) | exact ar9 (by assumption) | exact al10 (by assumption) | exact ar10 (by assumption) | exact al11 (by assumption) | exact ar11 (by assumption) | exact al12 (by assumption) | exact ar12 (by assumption) | exact al13 (by assumption) | exact ar13 (by assumption) | exact al14 (by assumption) | exact ar14 (by assumption) | exact al15 (by assumption) | exact ar15 (by assumption)) | with_reducible (first | exact at0 (by assumption) (by assumption) | exact au0 (by assumption) (by assumption) | exact at1 (by assumption) (by assumption) | exact au1 (by assumption) (by assumption) | exact at2 (by assumption) (by assumption) | exact au2 (by assumption) (by assumption) | exact at3 (by assumption) (by assumption) | exact au3 (by assumption) (by assumption) | exact at4 (by assumption) (by assumption) | exact au4 (by assumption) (by assumption) | exact at5 (by assumption) (by assumption) | exact au5 (by assumption) (by assumption) | exact at6 (by assumption) (by assumption) | exact au6 (by assumption) (by assumption) | exact at7 (by assumption) (by assumption) | exact au7 (by assumption) (by assumption)) | with_reducible (first | exact av0 (by assumption) | exact avs0 (by assumption) | exact av1 (by assumption) | exact avs1 (by assumption) | exact av2 (by assumption) | exact avs2 (by assumption) | exact av3 (by assumption) | exact avs3 (by assumption) | exact av4 (by assumption) | exact avs4 (by assumption) | exact av5 (by assumption) | exact avs5 (by assumption) | exact aw0 (by assumption) | exact aws0 (by assumption) | exact aw1 (by assumption) | exact aws1 (by assumption) | exact aw2 (by assumption) | exact aws2 (by assumption) | exact aw3 (by assumption) | exact aws3 (by assumption) | exact aw4 (by assumption) | exact aws4 (by assumption) | exact aw5 (by assumption) | exact aws5 (by assumption)) | (refine nlt ?_; k_data) | (refine ngt ?_; k_data) | k_data | (refine Ne.symm ?_; k_data) | (refine ngt1 ?_; k_data) | (refine ngt2 ?_; k_data) | (refine nlt1 ?_; k_data) | (refine nlt2 ?_; k_data) | omega))
  k_with "room" => (first | exact room_le2 (by assumption) (by exact rfl) | exact room_lt2 (by assumption) (by exact rfl) | exact room_le1 (by assumption) (by exact rfl) | exact room_lt1 (by assumption) (by exact rfl) | exact room_le3 (by assumption) (by exact rfl) | exact room_lt3 (by assumption) (by exact rfl) | exact room_ltF (by assumption) (by exact rfl) (by exact rfl))
  k_with "units" => (first | exact unit_le2 (by assumption) (by exact rfl) | exact unit_lt2 (by assumption) (by exact rfl) | exact unit_le1 (by assumption) (by exact rfl) | exact unit_lt1 (by assumption) (by exact rfl) | exact unit_le3 (by assumption) (by exact rfl) | exact unit_lt3 (by assumption) (by exact rfl) | exact unit_ltE (by assumption) (by exact rfl) (by exact rfl) | exact unit_ltF (by assumption) (by exact rfl) (by exact rfl))
  k_with "callWith ref nil nil" => (k_here; k_dflt (refine' callWith_K ?k1 ?k2 ?_; (case k1 => k_asm); (case k2 => k_is); k_whole))
  k_with "eval Name" => (k_here; k_dflt (refine' nameX_L ?F ?v ?_ ?a ?b; (case b => exact rfl); (case F => k_asm); (case a => rfl); (case v => rfl); k_whole))
  k_with "eval Name" => (k_here; k_dflt (refine' nameX_K ?F ?X ?T ?e ?_ ?a ?b; (case b => exact rfl); (case F => k_asm); (case X => k_asm); (case T => k_asm); (case a => rfl); (case e => k_is); k_whole))
  k_with "eval Name" => (k_here; k_dflt (refine' nameX_B ?F ?X ?T ?e ?v ?n ?_ ?a ?b; (case b => exact rfl); (case F => k_asm); (case X => k_asm); (case T => k_asm); (case a => rfl); (case e => k_is); (case v => boot_fast); (case n => decide); k_whole))
  k_with "subscriptTail Name Constant ref int" => (k_here; (with_reducible show wpAny _ _ (subscriptTail _ _ (Value.ref _) (Value.int _ _)) _ _ _); k_dflt (first | (refine' item_tupleT ?t ?a ?b ?c ?d ?_; (case t => first | with_reducible assumption | exact News.isTup (by k_asm) (by k_mem)); (case a => decide); (case b => decide); (case c => rfl); (case d => rfl); k_whole) | (refine' topTup_K ?F ?X ?l ?a ?b ?c ?d ?_; (case F => k_asm); (case X => k_asm); (case l => k_is); (case a => decide); (case b => decide); (case c => rfl); (case d => rfl)) | (refine' topList_K ?F ?X ?l ?a ?b ?d ?_; (case F => k_asm); (case X => k_asm); (case l => k_is); (case a => decide); (case b => decide); (case d => rfl); k_whole)))
  k_with "subscriptTail Name Constant ref int" => (k_here; (with_reducible show wpAny _ _ (subscriptTail _ _ (Value.ref _) (Value.int _ _)) _ _ _); (with_unfolding_all refine' item_litK ?k1 ?k2 ?k3 ?k4 ?_ ?k6; (case k1 => is_list); (case k2 => decide); (case k3 => decide); (case k4 => rfl); (case k6 => with_unfolding_all rfl); k_whole))
  k_with "call builtin:list.pop" => (k_here; k_dflt ((with_reducible show wpAny _ _ (call (Value.builtin _) [Value.ref _]) _ _ _); refine' kl_pop ?F ?N ?e ?U ?z ?_; (case F => k_asm); (case N => k_asm); (case U => k_upd); (case e => rfl); (case z => kl_room)); kl_rest)
  k_with "lt" => with_reducible (first | assumption | exact ll0 (by assumption) | exact ll1 (by assumption) | exact ll2 (by assumption) | exact ll3 (by assumption) | exact ll4 (by assumption) | exact ll5 (by assumption) | exact ll6 (by assumption) | exact ll7 (by assumption) | exact ll8 (by assumption) | exact ll9 (by assumption) | exact ll10 (by assumption) | exact ll11 (by assumption) | exact ll12 (by assumption) | exact ll13 (by assumption) | exact la0 (by assumption) | exact la1 (by assumption) | exact la2 (by assumption) | exact la3 (by assumption) | exact la4 (by assumption) | exact la5 (by assumption) | exact la6 (by assumption) | exact la7 (by assumption))
  k_with "keeplt" => skip
  k_with "ite" => with_reducible (first | refine ite_tt ?_ | refine ite_ff ?_)
  k_with "subscriptTail Attribute Name Name ref int" => (walk_at "last subscriptTail")
  k_with "callWith ref cons nil" => (k_here; k_dflt (refine' callWith_K ?k1 ?k2 ?_; (case k1 => k_asm); (case k2 => k_is); k_whole))
  k_with "call ref" => (k_here; (with_reducible show wpAny _ _ (call (Value.ref 202) _) _ _ _); k_dflt (refine' strval_A ?B ?F ?X ?G ?N ?hx ?T ?hk ?hd ?hu ?_; (case B => k_asm); (case F => k_asm); (case X => k_asm); (case N => k_asm); (case G => exact TreeG.mono (by assumption) (by repeat (first | assumption | exact sub_self | refine sub_tail ?_))); (case hx => assumption); (case T => k_asm); (case hk => first | exact rfl | assumption); (case hd => ktr_room); (case hu => ktr_units); intro t' h' tk' F' N'; (try dsimp only); (try k_fold)))
  k_with "call ref" => (k_here; (with_reducible show wpAny _ _ (call (Value.ref 173) _) _ _ _); k_dflt (refine' write_A ?hx ?B ?F ?X ?N ?T ?hk ?hd ?hu ?_; (case B => k_asm); (case F => k_asm); (case X => k_asm); (case N => k_asm); (case hx => assumption); (case T => k_asm); (case hk => first | exact rfl | assumption); (case hd => ktr_room); (case hu => ktr_units); intro t' h' tk' F' N'; (try dsimp only); (try k_fold)))
  refine wpAny_call ?_
  k_dflt ktr_enter
  repeat' (first | walk1 | (dsimp only; walk1))
  all_goals first | exact ret _ _ _ (by assumption) (news_sub (by assumption) (by repeat (first | exact sub_self | refine sub_tail ?_))) | (exfalso; exact nodec (by assumption))
set_option maxHeartbeats 0 in
theorem astext_num {T0 R : Addr} {led : List (Addr × Obj)} {xs : List Trip} {keep : List (Addr × Obj)} {tA : Addr} {i j : Int} {ti tj : Tok} {x : Str}
    (B : Below A₀ base outer h₀) (F : Fr h₀ L s.heap m) (X : (KK w.params).In h₀) (G : TreeG w led T0 R xs rowsE keep) (N : News h₀ L s.heap ((tA, tupO #[.int i ti, .int j tj]) :: led)) (hx : (i, j, x) ∈ numTab)
    (T : Top p loose mean mg mb h₀) (hk : cs.kind = .function) (hd : dp + 40 ≤ 900) (hu : un + 400 ≤ 1000)
    (ret : ∀ t h' tk', Fr h₀ L h' m → News h₀ L h' led → Q (.str x t) { s with heap := h', toks := tk' }) :
    wpAny (model PySem.Challenge.rw_xm0674_01.prog w) (ktrTop dp un gd cn cs L a ccd cl outer) (call (.ref 209) [.ref tA, .ref T0]) Q E s := by
  k_with_none
  k_with "memR" => (first | with_reducible assumption | exact List.Mem.head _ | (refine' List.Mem.tail _ ?_; k_extra "memR"))
  k_with "memD" => (first | exact List.Mem.head _ | assumption | (refine' List.Mem.tail _ ?_; k_extra "memD"))
  k_with "mem" => (first | k_extra "memR" | k_extra "memD")
  k_with "allR" => (first | with_reducible assumption | exact List.forall_mem_nil _ | (refine' List.forall_mem_cons.mpr ⟨?a, ?b⟩; (case a => first | with_reducible assumption | k_ne); (case b => k_extra "allR")))
  k_with "all" => (first | with_reducible assumption | exact List.forall_mem_nil _ | with_reducible (first | exact aa0 (by assumption) | exact aa1 (by assumption) | exact aa2 (by assumption) | exact aa3 (by assumption) | exact aa4 (by assumption) | exact aa5 (by assumption) | exact aa6 (by assumption) | exact aa7 (by assumption) | exact ab0 (by assumption) (by assumption) | exact ab1 (by assumption) (by assumption)) | k_extra "allR" | assumption)
  k_with "cj" => (with_reducible (first | assumption | exact cj0 (by assumption) | exact cj1 (by assumption) | exact cj2 (by assumption) | exact cj3 (by assumption) | exact cj4 (by assumption) | exact cj5 (by assumption) | exact cj6 (by assumption) | exact cj7 (by assumption) | exact cj8 (by assumption) | exact cj9 (by assumption) | exact cj10 (by assumption) | exact cj11 (by assumption) | exact cj12 (by assumption) | exact cj13 (by assumption) | exact cj14 (by assumption) | exact cj15 (by assumption) | exact cj16 (by assumption) | exact cl1 (by assumption) | exact cl2 (by assumption) | exact cl3 (by assumption) | exact cl4 (by assumption) | exact cl5 (by assumption) | exact cl6 (by assumption) | exact cl7 (by assumption) | exact cl8 (by assumption) | exact cl9 (by assumption) | exact cl10 (by assumption) | exact cl11 (by assumption) | exact cl12 (by assumption) | exact cl13 (by assumption) | exact cl14 (by assumption) | exact cl15 (by assumption) | exact cl16 (by assumption) | exact ct0t0x (by assumption) | exact ct0t1x (by assumption) | exact ct0t2x (by assumption) | exact ct1t0x (by assumption) | exact ct1t1x (by assumption) | exact ct1t2x (by assumption) | exact ct2t0x (by assumption) | exact ct2t1x (by assumption) | exact ct2t2x (by assumption) | exact ct3t0x (by assumption) | exact ct3t1x (by assumption) | exact ct3t2x (by assumption) | exact ct4t0x (by assumption) | exact ct4t1x (by assumption) | exact ct4t2x (by assumption)))
  k_with "ne" => ((refine neN ?_; (try dsimp only); first | with_reducible (first | assumption | exact ngt (by assumption) | exact nlt (by assumption) | exact Ne.symm (by assumption)) | with_reducible (first | exact al0 (by assumption) | exact ar0 (by assumption) | exact al1 (by assumption) | exact ar1 (by assumption) | exact al2 (by assumption) | exact ar2 (by assumption) | exact al3 (by assumption) | exact ar3 (by assumption) | exact al4 (by assumption) | exact ar4 (by assumption) | exact al5 (by assumption) | exact ar5 (by assumption) | exact al6 (by assumption) | exact ar6 (by assumption) | exact al7 (by assumption) | exact ar7 (by assumption) | exact al8 (by assumption) | exact ar8 (by assumption) | exact al9 (by assumption) | exact ar9 (by assumption) | exact al10 (by assumption) | exact ar10 (by assumption) | exact al11 (by assumption) | exact ar11 (by assumption) | exact al12 (by assumption) | exact ar12 (by assumption) | exact al13 (by assumption) | exact ar13 (by assumption) | exact al14 (by assumption) | exact ar14 (by assumption) | exact al15 (by assumption) | exact ar15 (by assumption)) | with_reducible (first | exact at0 (by assumption) (by assumption) | exact au0 (by assumption) (by assumption) | exact at1 (by assumption) (by assumption) | exact au1 (by assumption) (by assumption) | exact at2 (by assumption) (by assumption) | exact au2 (by assumption) (by assumption) | exact at3 (by assumption) (by assumption) | exact au3 (by assumption) (by assumption) | exact at4 (by assumption) (by assumption) | exact au4 (by assumption) (by assumption) | exact at5 (by assumption) (by assumption) | exact au5 (by assumption) (by assumption) | exact at6 (by assumption) (by assumption) | exact au6 (by assumption) (by assumption) | exact at7 (by assumption) (by assumption) | exact au7 (by assumption) (by assumption)) | with_reducible (first | exact av0 (by assumption) | exact avs0 (by assumption) | exact av1 (by assumption) | exact avs1 (by assumption) | exact av2 (by assumption) | exact avs2 (by assumption) | exact av3 (by assumption) | exact avs3 (by assumption) | exact av4 (by assumption) | exact avs4 (by assumption) | exact av5 (by assumption) | exact avs5 (by assumption) | exact aw0 (by assumption) | exact aws0 (by assumption) | exact aw1 (by assumption) | exact aws1 (by assumption) | exact aw2 (by assumption) | exact aws2 (by assumption) | exact aw3 (by assumption) | exact aws3 (by assumption) | exact aw4 (by assumption) | exact aws4 (by assumption) | exact aw5 (by assumption) | exact aws5 (by assumption)) | (refine nlt ?_; k_data) | (refine ngt ?_; k_data) | k_data | (refine Ne.symm ?_; k_data) | (refine ngt1 ?_; k_data) | (refine ngt2 ?_; k_data) | (refine nlt1 ?_; k_data) | (refine nlt2 ?_; k_data) | omega))
  k_with "room" => (first | exact room_le2 (by assumption) (by exact rfl) | exact room_lt2 (by assumption) (by exact rfl) | exact room_le1 (by assumption) (by exact rfl) | exact room_lt1 (by assumption) (by exact rfl) | exact room_le3 (by assumption) (by exact rfl) | exact room_lt3 (by assumption) (by exact rfl) | exact room_ltF (by assumption) (by exact rfl) (by exact rfl))
  k_with "units" => (first | exact unit_le2 (by assumption) (by exact rfl) | exact unit_lt2 (by assumption) (by exact rfl) | exact unit_le1 (by assumption) (by exact rfl) | exact unit_lt1 (by assumption) (by exact rfl) | exact unit_le3 (by assumption) (by exact rfl) | exact unit_lt3 (by assumption) (by exact rfl) | exact unit_ltE (by assumption) (by exact rfl) (by exact rfl) | exact unit_ltF (by assumption) (by exact rfl) (by exact rfl))
  k_with "callWith ref nil nil" => (k_here; k_dflt (refine' callWith_K ?k1 ?k2 ?_; (case k1 => k_asm); (case k2 => k_is); k_whole))
  k_with "eval Name" => (k_here; k_dflt (refine' nameX_L ?F ?v ?_ ?a ?b; (case b => exact rfl); (case F => k_asm); (case a => rfl); (case v => rfl); k_whole))
  k_with "eval Name" => (k_here; k_dflt (refine' nameX_K ?F ?X ?T ?e ?_ ?a ?b; (case b => exact rfl); (case F => k_asm); (case X => k_asm); (case T => k_asm); (case a => rfl); (case e => k_is); k_whole))
  k_with "eval Name" => (k_here; k_dflt (refine' nameX_B ?F ?X ?T ?e ?v ?n ?_ ?a ?b; (case b => exact rfl); (case F => k_asm); (case X => k_asm); (case T => k_asm); (case a => rfl); (case e => k_is); (case v => boot_fast); (case n => decide); k_whole))
  k_with "subscriptTail Name Constant ref int" => (k_here; (with_reducible show wpAny _ _ (subscriptTail _ _ (Value.ref _) (Value.int _ _)) _ _ _); k_dflt (first | (refine' item_tupleT ?t ?a ?b ?c ?d ?_; (case t => first | with_reducible assumption | exact News.isTup (by k_asm) (by k_mem)); (case a => decide); (case b => decide); (case c => rfl); (case d => rfl); k_whole) | (refine' topTup_K ?F ?X ?l ?a ?b ?c ?d ?_; (case F => k_asm); (case X => k_asm); (case l => k_is); (case a => decide); (case b => decide); (case c => rfl); (case d => rfl)) | (refine' topList_K ?F ?X ?l ?a ?b ?d ?_; (case F => k_asm); (case X => k_asm); (case l => k_is); (case a => decide); (case b => decide); (case d => rfl); k_whole)))
  k_with "subscriptTail Name Constant ref int" => (k_here; (with_reducible show wpAny _ _ (subscriptTail _ _ (Value.ref _) (Value.int _ _)) _ _ _); (with_unfolding_all refine' item_litK ?k1 ?k2 ?k3 ?k4 ?_ ?k6; (case k1 => is_list); (case k2 => decide); (case k3 => decide); (case k4 => rfl); (case k6 => with_unfolding_all rfl); k_whole))
  k_with "call builtin:list.pop" => (k_here; k_dflt ((with_reducible show wpAny _ _ (call (Value.builtin _) [Value.ref _]) _ _ _); refine' kl_pop ?F ?N ?e ?U ?z ?_; (case F => k_asm); (case N => k_asm); (case U => k_upd); (case e => rfl); (case z => kl_room)); kl_rest)
  k_with "lt" => with_reducible (first | assumption | exact ll0 (by assumption) | exact ll1 (by assumption) | exact ll2 (by assumption) | exact ll3 (by assumption) | exact ll4 (by assumption) | exact ll5 (by assumption) | exact ll6 (by assumption) | exact ll7 (by assumption) | exact ll8 (by assumption) | exact ll9 (by assumption) | exact ll10 (by assumption) | exact ll11 (by assumption) | exact ll12 (by assumption) | exact ll13 (by assumption) | exact la0 (by assumption) | exact la1 (by assumption) | exact la2 (by assumption) | exact la3 (by assumption) | exact la4 (by assumption) | exact la5 (by assumption) | exact la6 (by assumption) | exact la7 (by assumption))
  k_with "keeplt" => skip
  k_with "ite" => with_reducible (first | refine ite_tt ?_ | refine ite_ff ?_)
  k_with "subscriptTail Attribute Name Name ref int" => (walk_at "last subscriptTail")
  k_with "callWith ref cons nil" => (k_here; k_dflt (refine' callWith_K ?k1 ?k2 ?_; (case k1 => k_asm); (case k2 => k_is); k_whole))
  k_with "call ref" => (k_here; (with_reducible show wpAny _ _ (call (Value.ref 202) _) _ _ _); k_dflt (refine' strval_A ?B ?F ?X ?G ?N ?hx ?T ?hk ?hd ?hu ?_; (case B => k_asm); (case F => k_asm); (case X => k_asm); (case N => k_asm); (case G => exact TreeG.mono (by assumption) (by repeat (first | assumption | exact sub_self | refine sub_tail ?_))); (case hx => assumption); (case T => k_asm); (case hk => first | exact rfl | assumption); (case hd => ktr_room); (case hu => ktr_units); intro t' h' tk' F' N'; (try dsimp only); (try k_fold)))
  k_with "call ref" => (k_here; (with_reducible show wpAny _ _ (call (Value.ref 173) _) _ _ _); k_dflt (refine' write_A ?hx ?B ?F ?X ?N ?T ?hk ?hd ?hu ?_; (case B => k_asm); (case F => k_asm); (case X => k_asm); (case N => k_asm); (case hx => assumption); (case T => k_asm); (case hk => first | exact rfl | assumption); (case hd => ktr_room); (case hu => ktr_units); intro t' h' tk' F' N'; (try dsimp only); (try k_fold)))
  refine wpAny_call ?_
  k_dflt ktr_enter
  repeat' (first | walk1 | (dsimp only; walk1))
  all_goals exact ret _ _ _ (by assumption) (news_sub (by assumption) (by repeat (first | exact sub_self | refine sub_tail ?_)))
/-- the text of a told value -/
theorem astext_A {T0 R : Addr} {led : List (Addr × Obj)} {xs : List Trip} {keep : List (Addr × Obj)} {v : Value} {x : Str}
    (B : Below A₀ base outer h₀) (F : Fr h₀ L s.heap m) (X : (KK w.params).In h₀) (G : TreeG w led T0 R xs rowsE keep) (N : News h₀ L s.heap led) (hv : Tells led v x)
    (T : Top p loose mean mg mb h₀) (hk : cs.kind = .function) (hd : dp + 40 ≤ 900) (hu : un + 400 ≤ 1000)
    (ret : ∀ t h' tk', Fr h₀ L h' m → News h₀ L h' led → Q (.str x t) { s with heap := h', toks := tk' }) :
    wpAny (model PySem.Challenge.rw_xm0674_01.prog w) (ktrTop dp un gd cn cs L a ccd cl outer) (call (.ref 209) [v, .ref T0]) Q E s := by
  cases hv with
  | num a b => exact astext_num B F X G (news_more a N N) b T hk hd hu ret
  | tt => exact astext_tt B F X G N T hk hd hu ret
  | ff => exact astext_ff B F X G N T hk hd hu ret
  | str a => exact astext_str B F X G N T hk hd hu ret
  | none a => exact astext_none B F X G (news_more a N N) T hk hd hu ret
  | one a b => exact astext_one B F X G (news_more a N N) b T hk hd hu ret
  | two a b => exact astext_two B F X G (news_more a N N) b T hk hd hu ret
end
end

section -- V1
open PySem PySem.W PyProof.Rows PySem.Calls
section
variable {w : World} {p : Program} {loose : List Str} {mean : ExcName → Option Value} {mg mb : Str → Option Value}
    {dp un : Nat} {gd : Option (List Code)} {cn : Str} {cs : Scope} {a : Addr} {ccd : Value} {cl : List (Str × Addr)} {outer : List Env} {A₀ : Around} {base h₀ : Heap} {L : Addr} {m : Str → Option Value} {s : Shared}
    {Q E : Value → Shared → Prop}
set_option maxHeartbeats 0 in
theorem eval_lit {led : List (Addr × Obj)} {b db X0 : Addr} {x : Str} {tx kt : Tok}
    (B : Below A₀ base outer h₀) (F : Fr h₀ L s.heap m) (X : (KK w.params).In h₀) (N : News h₀ L s.heap ((b, instObj 719 db) :: (db, dictOf [ent w (Str.ofString "value") kt (.str x tx)] 1) :: led))
    (T : Top p loose mean mg mb h₀) (hk : cs.kind = .function) (hd : dp + 20 ≤ 900) (hu : un + 200 ≤ 1000)
    (ret : ∀ h' tk', Fr h₀ L h' m → News h₀ L h' led → Q (.str x tx) { s with heap := h', toks := tk' }) :
    wpAny (model PySem.Challenge.rw_xm0674_01.prog w) (ktrTop dp un gd cn cs L a ccd cl outer) (call (.ref 979) [.ref b, .ref X0]) Q E s := by
  k_with_none
  k_with "memR" => (first | with_reducible assumption | exact List.Mem.head _ | (refine' List.Mem.tail _ ?_; k_extra "memR"))
  k_with "memD" => (first | exact List.Mem.head _ | assumption | (refine' List.Mem.tail _ ?_; k_extra "memD"))
  k_with "mem" => (first | k_extra "memR" | k_extra "memD")
  k_with "allR" => (first | assumption | exact List.forall_mem_nil _ | (refine' List.forall_mem_cons.mpr ⟨?a, ?b⟩; (case a => first | with_reducible assumption | k_ne); (case b => k_extra "allR")))
  k_with "all" => (k_extra "allR")
  k_with "cj" => (with_reducible (first | assumption | exact cj0 (by assumption) | exact cj1 (by assumption) | exact cj2 (by assumption) | exact cj3 (by assumption) | exact cj4 (by assumption) | exact cj5 (by assumption) | exact cj6 (by assumption) | exact cj7 (by assumption) | exact cj8 (by assumption) | exact cj9 (by assumption) | exact cj10 (by assumption) | exact cj11 (by assumption) | exact cj12 (by assumption) | exact cj13 (by assumption) | exact cj14 (by assumption) | exact cj15 (by assumption) | exact cj16 (by assumption) | exact cl1 (by assumption) | exact cl2 (by assumption) | exact cl3 (by assumption) | exact cl4 (by assumption) | exact cl5 (by assumption) | exact cl6 (by assumption) | exact cl7 (by assumption) | exact cl8 (by assumption) | exact cl9 (by assumption) | exact cl10 (by assumption) | exact cl11 (by assumption) | exact cl12 (by assumption) | exact cl13 (by assumption) | exact cl14 (by assumption) | exact cl15 (by assumption) | exact cl16 (by assumption) | exact ct0t0x (by assumption) | exact ct0t1x (by assumption) | exact ct0t2x (by assumption) | exact ct1t0x (by assumption) | exact ct1t1x (by assumption) | exact ct1t2x (by assumption) | exact ct2t0x (by assumption) | exact ct2t1x (by assumption) | exact ct2t2x (by assumption) | exact ct3t0x (by assumption) | exact ct3t1x (by assumption) | exact ct3t2x (by assumption) | exact ct4t0x (by assumption) | exact ct4t1x (by assumption) | exact ct4t2x (by assumption)))
  k_with "ne" => ((refine neN ?_; (try dsimp only); first | with_reducible (first | assumption | exact ngt (by assumption) | exact nlt (by assumption) | exact Ne.symm (by assumption)) | (refine ngt ?_; k_data) | (refine nlt ?_; k_data) | k_data | (refine Ne.symm ?_; k_data) | (refine ngt1 ?_; k_data) | (refine ngt2 ?_; k_data) | (refine nlt1 ?_; k_data) | (refine nlt2 ?_; k_data) | omega))
  k_with "room" => (first | exact room_le2 (by assumption) (by exact rfl) | exact room_lt2 (by assumption) (by exact rfl) | exact room_le1 (by assumption) (by exact rfl) | exact room_lt1 (by assumption) (by exact rfl) | exact room_le3 (by assumption) (by exact rfl) | exact room_lt3 (by assumption) (by exact rfl) | exact room_ltF (by assumption) (by exact rfl) (by exact rfl))
  k_with "units" => (first | exact unit_le2 (by assumption) (by exact rfl) | exact unit_lt2 (by assumption) (by exact rfl) | exact unit_le1 (by assumption) (by exact rfl) | exact unit_lt1 (by assumption) (by exact rfl) | exact unit_le3 (by assumption) (by exact rfl) | exact unit_lt3 (by assumption) (by exact rfl) | exact unit_ltE (by assumption) (by exact rfl) (by exact rfl) | exact unit_ltF (by assumption) (by exact rfl) (by exact rfl))
  k_with "callWith ref nil nil" => (k_here; k_dflt (refine' callWith_K ?k1 ?k2 ?_; (case k1 => k_asm); (case k2 => k_is); k_whole))
  k_with "eval Name" => (k_here; k_dflt (refine' nameX_L ?F ?v ?_ ?a ?b; (case b => exact rfl); (case F => k_asm); (case a => rfl); (case v => rfl); k_whole))
  k_with "eval Name" => (k_here; k_dflt (refine' nameX_K ?F ?X ?T ?e ?_ ?a ?b; (case b => exact rfl); (case F => k_asm); (case X => k_asm); (case T => k_asm); (case a => rfl); (case e => k_is); k_whole))
  k_with "eval Name" => (k_here; k_dflt (refine' nameX_B ?F ?X ?T ?e ?v ?n ?_ ?a ?b; (case b => exact rfl); (case F => k_asm); (case X => k_asm); (case T => k_asm); (case a => rfl); (case e => k_is); (case v => boot_fast); (case n => decide); k_whole))
  k_with "subscriptTail Name Constant ref int" => (k_here; (with_reducible show wpAny _ _ (subscriptTail _ _ (Value.ref _) (Value.int _ _)) _ _ _); k_dflt (first | (refine' item_tupleT ?t ?a ?b ?c ?d ?_; (case t => first | with_reducible assumption | exact News.isTup (by k_asm) (by k_mem)); (case a => decide); (case b => decide); (case c => rfl); (case d => rfl); k_whole) | (refine' topTup_K ?F ?X ?l ?a ?b ?c ?d ?_; (case F => k_asm); (case X => k_asm); (case l => k_is); (case a => decide); (case b => decide); (case c => rfl); (case d => rfl)) | (refine' topList_K ?F ?X ?l ?a ?b ?d ?_; (case F => k_asm); (case X => k_asm); (case l => k_is); (case a => decide); (case b => decide); (case d => rfl); k_whole)))
  k_with "subscriptTail Name Constant ref int" => (k_here; (with_reducible show wpAny _ _ (subscriptTail _ _ (Value.ref _) (Value.int _ _)) _ _ _); (with_unfolding_all refine' item_litK ?k1 ?k2 ?k3 ?k4 ?_ ?k6; (case k1 => is_list); (case k2 => decide); (case k3 => decide); (case k4 => rfl); (case k6 => with_unfolding_all rfl); k_whole))
  k_with "call builtin:list.pop" => (k_here; k_dflt ((with_reducible show wpAny _ _ (call (Value.builtin _) [Value.ref _]) _ _ _); refine' kl_pop ?F ?N ?e ?U ?z ?_; (case F => k_asm); (case N => k_asm); (case U => k_upd); (case e => rfl); (case z => kl_room)); kl_rest)
  k_with "lt" => with_reducible (first | assumption | exact ll0 (by assumption) | exact ll1 (by assumption) | exact ll2 (by assumption) | exact ll3 (by assumption) | exact ll4 (by assumption) | exact ll5 (by assumption) | exact ll6 (by assumption) | exact ll7 (by assumption) | exact ll8 (by assumption) | exact ll9 (by assumption) | exact ll10 (by assumption) | exact ll11 (by assumption) | exact ll12 (by assumption) | exact ll13 (by assumption) | exact la0 (by assumption) | exact la1 (by assumption) | exact la2 (by assumption) | exact la3 (by assumption) | exact la4 (by assumption) | exact la5 (by assumption) | exact la6 (by assumption) | exact la7 (by assumption))
  k_with "ite" => with_reducible (first | refine ite_tt ?_ | refine ite_ff ?_)
  k_with "subscriptTail Attribute Name Name ref int" => (walk_at "last subscriptTail")
  k_with "callWith ref cons nil" => (k_here; k_dflt (refine' callWith_K ?k1 ?k2 ?_; (case k1 => k_asm); (case k2 => k_is); k_whole))
  refine wpAny_call ?_
  k_dflt ktr_enter
  repeat' (first | walk1 | (dsimp only; walk1))
  all_goals exact ret _ _ (by assumption) (news_sub (by assumption) (by repeat (first | exact sub_self | refine sub_tail ?_)))
set_option maxHeartbeats 0 in
theorem eval_num {led : List (Addr × Obj)} {b db X0 : Addr} {t : Addr} {kt : Tok}
    (B : Below A₀ base outer h₀) (F : Fr h₀ L s.heap m) (X : (KK w.params).In h₀) (N : News h₀ L s.heap ((b, instObj 747 db) :: (db, dictOf [ent w (Str.ofString "value") kt (.ref t)] 1) :: led))
    (T : Top p loose mean mg mb h₀) (hk : cs.kind = .function) (hd : dp + 20 ≤ 900) (hu : un + 200 ≤ 1000)
    (ret : ∀ h' tk', Fr h₀ L h' m → News h₀ L h' led → Q (.ref t) { s with heap := h', toks := tk' }) :
    wpAny (model PySem.Challenge.rw_xm0674_01.prog w) (ktrTop dp un gd cn cs L a ccd cl outer) (call (.ref 979) [.ref b, .ref X0]) Q E s := by
  k_with_none
  k_with "memR" => (first | with_reducible assumption | exact List.Mem.head _ | (refine' List.Mem.tail _ ?_; k_extra "memR"))
  k_with "memD" => (first | exact List.Mem.head _ | assumption | (refine' List.Mem.tail _ ?_; k_extra "memD"))
  k_with "mem" => (first | k_extra "memR" | k_extra "memD")
  k_with "allR" => (first | assumption | exact List.forall_mem_nil _ | (refine' List.forall_mem_cons.mpr ⟨?a, ?b⟩; (case a => first | with_reducible assumption | k_ne); (case b => k_extra "allR")))
  k_with "all" => (k_extra "allR")
  k_with "cj" => (with_reducible (first | assumption | exact cj0 (by assumption) | exact cj1 (by assumption) | exact cj2 (by assumption) | exact cj3 (by assumption) | exact cj4 (by assumption) | exact cj5 (by assumption) | exact cj6 (by assumption) | exact cj7 (by assumption) | exact cj8 (by assumption) | exact cj9 (by assumption) | exact cj10 (by assumption) | exact cj11 (by assumption) | exact cj12 (by assumption) | exact cj13 (by assumption) | exact cj14 (by assumption) | exact cj15 (by assumption) | exact cj16 (by assumption) | exact cl1 (by assumption) | exact cl2 (by assumption) | exact cl3 (by assumption) | exact cl4 (by assumption) | exact cl5 (by assumption) | exact cl6 (by assumption) | exact cl7 (by assumption) | exact cl8 (by assumption) | exact cl9 (by assumption) | exact cl10 (by assumption) | exact cl11 (by assumption) | exact cl12 (by assumption) | exact cl13 (by assumption) | exact cl14 (by assumption) | exact cl15 (by assumption) | exact cl16 (by assumption) | exact ct0t0x (by assumption) | exact ct0t1x (by assumption) | exact ct0t2x (by assumption) | exact ct1t0x (by assumption) | exact ct1t1x (by assumption) | exact ct1t2x (by assumption) | exact ct2t0x (by assumption) | exact ct2t1x (by assumption) | exact ct2t2x (by assumption) | exact ct3t0x (by assumption) | exact ct3t1x (by assumption) | exact ct3t2x (by assumption) | exact ct4t0x (by assumption) | exact ct4t1x (by assumption) | exact ct4t2x (by assumption)))
  k_with "ne" => ((refine neN ?_; (try dsimp only); first | with_reducible (first | assumption | exact ngt (by assumption) | exact nlt (by assumption) | exact Ne.symm (by assumption)) | (refine ngt ?_; k_data) | (refine nlt ?_; k_data) | k_data | (refine Ne.symm ?_; k_data) | (refine ngt1 ?_; k_data) | (refine ngt2 ?_; k_data) | (refine nlt1 ?_; k_data) | (refine nlt2 ?_; k_data) | omega))
  k_with "room" => (first | exact room_le2 (by assumption) (by exact rfl) | exact room_lt2 (by assumption) (by exact rfl) | exact room_le1 (by assumption) (by exact rfl) | exact room_lt1 (by assumption) (by exact rfl) | exact room_le3 (by assumption) (by exact rfl) | exact room_lt3 (by assumption) (by exact rfl) | exact room_ltF (by assumption) (by exact rfl) (by exact rfl))
  k_with "units" => (first | exact unit_le2 (by assumption) (by exact rfl) | exact unit_lt2 (by assumption) (by exact rfl) | exact unit_le1 (by assumption) (by exact rfl) | exact unit_lt1 (by assumption) (by exact rfl) | exact unit_le3 (by assumption) (by exact rfl) | exact unit_lt3 (by assumption) (by exact rfl) | exact unit_ltE (by assumption) (by exact rfl) (by exact rfl) | exact unit_ltF (by assumption) (by exact rfl) (by exact rfl))
  k_with "callWith ref nil nil" => (k_here; k_dflt (refine' callWith_K ?k1 ?k2 ?_; (case k1 => k_asm); (case k2 => k_is); k_whole))
  k_with "eval Name" => (k_here; k_dflt (refine' nameX_L ?F ?v ?_ ?a ?b; (case b => exact rfl); (case F => k_asm); (case a => rfl); (case v => rfl); k_whole))
  k_with "eval Name" => (k_here; k_dflt (refine' nameX_K ?F ?X ?T ?e ?_ ?a ?b; (case b => exact rfl); (case F => k_asm); (case X => k_asm); (case T => k_asm); (case a => rfl); (case e => k_is); k_whole))
  k_with "eval Name" => (k_here; k_dflt (refine' nameX_B ?F ?X ?T ?e ?v ?n ?_ ?a ?b; (case b => exact rfl); (case F => k_asm); (case X => k_asm); (case T => k_asm); (case a => rfl); (case e => k_is); (case v => boot_fast); (case n => decide); k_whole))
  k_with "subscriptTail Name Constant ref int" => (k_here; (with_reducible show wpAny _ _ (subscriptTail _ _ (Value.ref _) (Value.int _ _)) _ _ _); k_dflt (first | (refine' item_tupleT ?t ?a ?b ?c ?d ?_; (case t => first | with_reducible assumption | exact News.isTup (by k_asm) (by k_mem)); (case a => decide); (case b => decide); (case c => rfl); (case d => rfl); k_whole) | (refine' topTup_K ?F ?X ?l ?a ?b ?c ?d ?_; (case F => k_asm); (case X => k_asm); (case l => k_is); (case a => decide); (case b => decide); (case c => rfl); (case d => rfl)) | (refine' topList_K ?F ?X ?l ?a ?b ?d ?_; (case F => k_asm); (case X => k_asm); (case l => k_is); (case a => decide); (case b => decide); (case d => rfl); k_whole)))
  k_with "subscriptTail Name Constant ref int" => (k_here; (with_reducible show wpAny _ _ (subscriptTail _ _ (Value.ref _) (Value.int _ _)) _ _ _); (with_unfolding_all refine' item_litK ?k1 ?k2 ?k3 ?k4 ?_ ?k6; (case k1 => is_list); (case k2 => decide); (case k3 => decide); (case k4 => rfl); (case k6 => with_unfolding_all rfl); k_whole))
  k_with "call builtin:list.pop" => (k_here; k_dflt ((with_reducible show wpAny _ _ (call (Value.builtin _) [Value.ref _]) _ _ _); refine' kl_pop ?F ?N ?e ?U ?z ?_; (case F => k_asm); (case N => k_asm); (case U => k_upd); (case e => rfl); (case z => kl_room)); kl_rest)
  k_with "lt" => with_reducible (first | assumption | exact ll0 (by assumption) | exact ll1 (by assumption) | exact ll2 (by assumption) | exact ll3 (by assumption) | exact ll4 (by assumption) | exact ll5 (by assumption) | exact ll6 (by assumption) | exact ll7 (by assumption) | exact ll8 (by assumption) | exact ll9 (by assumption) | exact ll10 (by assumption) | exact ll11 (by assumption) | exact ll12 (by assumption) | exact ll13 (by assumption) | exact la0 (by assumption) | exact la1 (by assumption) | exact la2 (by assumption) | exact la3 (by assumption) | exact la4 (by assumption) | exact la5 (by assumption) | exact la6 (by assumption) | exact la7 (by assumption))
  k_with "ite" => with_reducible (first | refine ite_tt ?_ | refine ite_ff ?_)
  k_with "subscriptTail Attribute Name Name ref int" => (walk_at "last subscriptTail")
  k_with "callWith ref cons nil" => (k_here; k_dflt (refine' callWith_K ?k1 ?k2 ?_; (case k1 => k_asm); (case k2 => k_is); k_whole))
  refine wpAny_call ?_
  k_dflt ktr_enter
  repeat' (first | walk1 | (dsimp only; walk1))
  all_goals exact ret _ _ (by assumption) (news_sub (by assumption) (by repeat (first | exact sub_self | refine sub_tail ?_)))
end
end

section -- V2
open PySem PySem.W PyProof.Rows PySem.Calls PySem.Spec
noncomputable abbrev ctxD (w : World) (tr nd po sz : Value) (V : Addr) (nm ca cu ids : Value) (k0 k1 k2 k3 k4 k5 k6 k7 k8 : Tok) : Obj :=
  dictOf [ent w (Str.ofString "tree") k0 tr, ent w (Str.ofString "node") k1 nd, ent w (Str.ofString "position") k2 po, ent w (Str.ofString "size") k3 sz, ent w (Str.ofString "variables") k4 (.ref V), ent w (Str.ofString "names") k5 nm, ent w (Str.ofString "calls") k6 ca, ent w (Str.ofString "current") k7 cu, ent w (Str.ofString "ids") k8 ids] 9
section
variable {w : World} {p : Program} {loose : List Str} {mean : ExcName → Option Value} {mg mb : Str → Option Value}
    {dp un : Nat} {gd : Option (List Code)} {cn : Str} {cs : Scope} {a : Addr} {ccd : Value} {cl : List (Str × Addr)} {outer : List Env} {A₀ : Around} {base h₀ : Heap} {L : Addr} {m : Str → Option Value} {s : Shared}
    {Q E : Value → Shared → Prop}
set_option maxHeartbeats 0 in
theorem eval_var {led : List (Addr × Obj)} {b db X0 dX V : Addr} {nm : Str} {tn kt k0 k1 k2 k3 k4 k5 k6 k7 k8 : Tok} {tr nd po sz nms ca cu ids v : Value} {oV : Obj} {kvs : List (Str × Value)}
    (B : Below A₀ base outer h₀) (F : Fr h₀ L s.heap m) (X : (KK w.params).In h₀) (N : News h₀ L s.heap ((b, instObj 775 db) :: (db, dictOf [ent w (Str.ofString "name") kt (.str nm tn)] 1) :: (X0, instObj 1039 dX) :: (dX, ctxD w tr nd po sz V nms ca cu ids k0 k1 k2 k3 k4 k5 k6 k7 k8) :: (V, oV) :: led))
    (hV : oV.IsDictOf (PySem.strKind PySem.Challenge.rw_xm0674_01.prog w) kvs) (hlo : (V == sysModules) = false) (hnl : nm.length ≤ 20) (hnr : Txt.rpartition nm (Str.ofString ":") = (Str.ofString "", Str.ofString "", nm)) (hb : (valueAt kvs nm).isSome = true) (hv : valueAt kvs nm = some v)
    (T : Top p loose mean mg mb h₀) (hk : cs.kind = .function) (hd : dp + 20 ≤ 900) (hu : un + 200 ≤ 1000)
    (ret : ∀ h' tk', Fr h₀ L h' m → News h₀ L h' led → Q v { s with heap := h', toks := tk' }) :
    wpAny (model PySem.Challenge.rw_xm0674_01.prog w) (ktrTop dp un gd cn cs L a ccd cl outer) (call (.ref 979) [.ref b, .ref X0]) Q E s := by
  k_with_none
  k_with "memR" => (first | with_reducible assumption | exact List.Mem.head _ | (refine' List.Mem.tail _ ?_; k_extra "memR"))
  k_with "memD" => (first | exact List.Mem.head _ | assumption | (refine' List.Mem.tail _ ?_; k_extra "memD"))
  k_with "mem" => (first | k_extra "memR" | k_extra "memD")
  k_with "allR" => (first | assumption | exact List.forall_mem_nil _ | (refine' List.forall_mem_cons.mpr ⟨?a, ?b⟩; (case a => first | with_reducible assumption | k_ne); (case b => k_extra "allR")))
  k_with "all" => (k_extra "allR")
  k_with "cj" => (with_reducible (first | assumption | exact cj0 (by assumption) | exact cj1 (by assumption) | exact cj2 (by assumption) | exact cj3 (by assumption) | exact cj4 (by assumption) | exact cj5 (by assumption) | exact cj6 (by assumption) | exact cj7 (by assumption) | exact cj8 (by assumption) | exact cj9 (by assumption) | exact cj10 (by assumption) | exact cj11 (by assumption) | exact cj12 (by assumption) | exact cj13 (by assumption) | exact cj14 (by assumption) | exact cj15 (by assumption) | exact cj16 (by assumption) | exact cl1 (by assumption) | exact cl2 (by assumption) | exact cl3 (by assumption) | exact cl4 (by assumption) | exact cl5 (by assumption) | exact cl6 (by assumption) | exact cl7 (by assumption) | exact cl8 (by assumption) | exact cl9 (by assumption) | exact cl10 (by assumption) | exact cl11 (by assumption) | exact cl12 (by assumption) | exact cl13 (by assumption) | exact cl14 (by assumption) | exact cl15 (by assumption) | exact cl16 (by assumption) | exact ct0t0x (by assumption) | exact ct0t1x (by assumption) | exact ct0t2x (by assumption) | exact ct1t0x (by assumption) | exact ct1t1x (by assumption) | exact ct1t2x (by assumption) | exact ct2t0x (by assumption) | exact ct2t1x (by assumption) | exact ct2t2x (by assumption) | exact ct3t0x (by assumption) | exact ct3t1x (by assumption) | exact ct3t2x (by assumption) | exact ct4t0x (by assumption) | exact ct4t1x (by assumption) | exact ct4t2x (by assumption)))
  k_with "ne" => ((refine neN ?_; (try dsimp only); first | with_reducible (first | assumption | exact ngt (by assumption) | exact nlt (by assumption) | exact Ne.symm (by assumption)) | (refine ngt ?_; k_data) | (refine nlt ?_; k_data) | k_data | (refine Ne.symm ?_; k_data) | (refine ngt1 ?_; k_data) | (refine ngt2 ?_; k_data) | (refine nlt1 ?_; k_data) | (refine nlt2 ?_; k_data) | omega))
  k_with "room" => (first | exact room_le2 (by assumption) (by exact rfl) | exact room_lt2 (by assumption) (by exact rfl) | exact room_le1 (by assumption) (by exact rfl) | exact room_lt1 (by assumption) (by exact rfl) | exact room_le3 (by assumption) (by exact rfl) | exact room_lt3 (by assumption) (by exact rfl) | exact room_ltF (by assumption) (by exact rfl) (by exact rfl))
  k_with "units" => (first | exact unit_le2 (by assumption) (by exact rfl) | exact unit_lt2 (by assumption) (by exact rfl) | exact unit_le1 (by assumption) (by exact rfl) | exact unit_lt1 (by assumption) (by exact rfl) | exact unit_le3 (by assumption) (by exact rfl) | exact unit_lt3 (by assumption) (by exact rfl) | exact unit_ltE (by assumption) (by exact rfl) (by exact rfl) | exact unit_ltF (by assumption) (by exact rfl) (by exact rfl))
  k_with "callWith ref nil nil" => (k_here; k_dflt (refine' callWith_K ?k1 ?k2 ?_; (case k1 => k_asm); (case k2 => k_is); k_whole))
  k_with "eval Name" => (k_here; k_dflt (refine' nameX_L ?F ?v ?_ ?a ?b; (case b => exact rfl); (case F => k_asm); (case a => rfl); (case v => rfl); k_whole))
  k_with "eval Name" => (k_here; k_dflt (refine' nameX_K ?F ?X ?T ?e ?_ ?a ?b; (case b => exact rfl); (case F => k_asm); (case X => k_asm); (case T => k_asm); (case a => rfl); (case e => k_is); k_whole))
  k_with "eval Name" => (k_here; k_dflt (refine' nameX_B ?F ?X ?T ?e ?v ?n ?_ ?a ?b; (case b => exact rfl); (case F => k_asm); (case X => k_asm); (case T => k_asm); (case a => rfl); (case e => k_is); (case v => boot_fast); (case n => decide); k_whole))
  k_with "subscriptTail Name Constant ref int" => (k_here; (with_reducible show wpAny _ _ (subscriptTail _ _ (Value.ref _) (Value.int _ _)) _ _ _); k_dflt (first | (refine' item_tupleT ?t ?a ?b ?c ?d ?_; (case t => first | with_reducible assumption | exact News.isTup (by k_asm) (by k_mem)); (case a => decide); (case b => decide); (case c => rfl); (case d => rfl); k_whole) | (refine' topTup_K ?F ?X ?l ?a ?b ?c ?d ?_; (case F => k_asm); (case X => k_asm); (case l => k_is); (case a => decide); (case b => decide); (case c => rfl); (case d => rfl)) | (refine' topList_K ?F ?X ?l ?a ?b ?d ?_; (case F => k_asm); (case X => k_asm); (case l => k_is); (case a => decide); (case b => decide); (case d => rfl); k_whole)))
  k_with "subscriptTail Name Constant ref int" => (k_here; (with_reducible show wpAny _ _ (subscriptTail _ _ (Value.ref _) (Value.int _ _)) _ _ _); (with_unfolding_all refine' item_litK ?k1 ?k2 ?k3 ?k4 ?_ ?k6; (case k1 => is_list); (case k2 => decide); (case k3 => decide); (case k4 => rfl); (case k6 => with_unfolding_all rfl); k_whole))
  k_with "call builtin:list.pop" => (k_here; k_dflt ((with_reducible show wpAny _ _ (call (Value.builtin _) [Value.ref _]) _ _ _); refine' kl_pop ?F ?N ?e ?U ?z ?_; (case F => k_asm); (case N => k_asm); (case U => k_upd); (case e => rfl); (case z => kl_room)); kl_rest)
  k_with "lt" => with_reducible (first | assumption | exact ll0 (by assumption) | exact ll1 (by assumption) | exact ll2 (by assumption) | exact ll3 (by assumption) | exact ll4 (by assumption) | exact ll5 (by assumption) | exact ll6 (by assumption) | exact ll7 (by assumption) | exact ll8 (by assumption) | exact ll9 (by assumption) | exact ll10 (by assumption) | exact ll11 (by assumption) | exact ll12 (by assumption) | exact ll13 (by assumption) | exact la0 (by assumption) | exact la1 (by assumption) | exact la2 (by assumption) | exact la3 (by assumption) | exact la4 (by assumption) | exact la5 (by assumption) | exact la6 (by assumption) | exact la7 (by assumption))
  k_with "ite" => with_reducible (first | refine ite_tt ?_ | refine ite_ff ?_)
  k_with "subscriptTail Attribute Name Name ref int" => (walk_at "last subscriptTail")
  k_with "callWith ref cons nil" => (k_here; k_dflt (refine' callWith_K ?k1 ?k2 ?_; (case k1 => k_asm); (case k2 => k_is); k_whole))
  k_with "call builtin:str.rpartition" => (k_here; (with_reducible rename Txt.rpartition _ _ = _ => hr'); (with_reducible rename Str.length _ ≤ 20 => hl'); k_dflt (refine KXpa.rpartition (by k_asm) (by k_asm) (by decide) (by rw [hr']) (by rw [hr']) (by rw [hr']) (by rw [PySem.sizeLine_eq]; omega) ?_); intro D' _ _ _ _ _ F' N' l1; (try k_lt l1); (dsimp only at N'))
  k_with "compareOp NotIn str ref" => (k_here; k_dflt (refine kdg_notin (knd := PySem.strKind _ _) (by k_asm) (by k_mem) (by assumption) (by assumption) (strKind_is _ _ _ _) true (by assumption) ?_); (try dsimp only [Bool.not_true, Bool.not_false]))
  k_with "getItem ref str" => (k_here; k_dflt (refine kdt_getItem (knd := PySem.strKind _ _) (by k_asm) (by k_mem) (by assumption) (strKind_is _ _ _ _) (by assumption) ?_))
  refine wpAny_call ?_
  k_dflt ktr_enter
  repeat' (first | walk1 | (dsimp only; walk1))
  all_goals exact ret _ _ (by assumption) (news_sub (by assumption) (by repeat (first | exact sub_self | refine sub_tail ?_)))
end
end

section -- V4
open PySem PySem.W PyProof.Rows PySem.Calls PySem.Spec
noncomputable def NameOk (nm : Str) : Prop := nm.length ≤ 20 ∧ Txt.rpartition nm (Str.ofString ":") = (Str.ofString "", Str.ofString "", nm)
inductive ExprTells (w : World) (led : List (Addr × Obj)) (kvs : List (Str × Value)) : Addr → Str → Prop where
  | lit {b db : Addr} {kt tx : Tok} {x : Str} : (b, instObj 719 db) ∈ led → (db, dictOf [ent w (Str.ofString "value") kt (.str x tx)] 1) ∈ led → x.length ≤ 8 → ExprTells w led kvs b x
  | num {b db t : Addr} {kt : Tok} {x : Str} : (b, instObj 747 db) ∈ led → (db, dictOf [ent w (Str.ofString "value") kt (.ref t)] 1) ∈ led → Tells led (.ref t) x → ExprTells w led kvs b x
  | var {b db : Addr} {nm : Str} {kt tn : Tok} {v : Value} {x : Str} : (b, instObj 775 db) ∈ led → (db, dictOf [ent w (Str.ofString "name") kt (.str nm tn)] 1) ∈ led → NameOk nm → valueAt kvs nm = some v → Tells led v x → ExprTells w led kvs b x
inductive PartTells (w : World) (led : List (Addr × Obj)) (kvs : List (Str × Value)) : Value → Str → Prop where
  | text {a : Addr} {u tx : Tok} {x : Str} : (a, tupO #[.str (Str.ofString "text") u, .str x tx]) ∈ led → x.length ≤ 8 → PartTells w led kvs (.ref a) x
  | path {a b : Addr} {u : Tok} {x : Str} : (a, tupO #[.str (Str.ofString "path") u, .ref b]) ∈ led → ExprTells w led kvs b x → PartTells w led kvs (.ref a) x
theorem ExprTells.len {w : World} {led : List (Addr × Obj)} {kvs : List (Str × Value)} {b : Addr} {x : Str} (h : ExprTells w led kvs b x) : x.length ≤ 17 := by
  cases h with
  | lit _ _ c => omega
  | num _ _ c => exact c.len
  | var _ _ _ _ c => exact c.len
theorem PartTells.len {w : World} {led : List (Addr × Obj)} {kvs : List (Str × Value)} {v : Value} {x : Str} (h : PartTells w led kvs v x) : x.length ≤ 17 := by
  cases h with
  | text _ c => omega
  | path _ c => exact c.len
section
variable {w : World} {p : Program} {loose : List Str} {mean : ExcName → Option Value} {mg mb : Str → Option Value}
    {dp un : Nat} {gd : Option (List Code)} {cn : Str} {cs : Scope} {a : Addr} {ccd : Value} {cl : List (Str × Addr)} {outer : List Env} {A₀ : Around} {base h₀ : Heap} {L : Addr} {m : Str → Option Value} {s : Shared}
    {Q E : Value → Shared → Prop}
/-- evaluate, of an expression that tells -/
theorem eval_A {led : List (Addr × Obj)} {b X0 dX V : Addr} {x : Str} {k0 k1 k2 k3 k4 k5 k6 k7 k8 : Tok} {tr nd po sz nms ca cu ids : Value} {oV : Obj} {kvs : List (Str × Value)}
    (B : Below A₀ base outer h₀) (F : Fr h₀ L s.heap m) (X : (KK w.params).In h₀) (N : News h₀ L s.heap led) (hX0 : (X0, instObj 1039 dX) ∈ led) (hdX : (dX, ctxD w tr nd po sz V nms ca cu ids k0 k1 k2 k3 k4 k5 k6 k7 k8) ∈ led) (hVm : (V, oV) ∈ led)
    (hV : oV.IsDictOf (PySem.strKind PySem.Challenge.rw_xm0674_01.prog w) kvs) (hlo : (V == sysModules) = false) (hx : ExprTells w led kvs b x)
    (T : Top p loose mean mg mb h₀) (hk : cs.kind = .function) (hd : dp + 20 ≤ 900) (hu : un + 200 ≤ 1000)
    (ret : ∀ v h' tk', Tells led v x → Fr h₀ L h' m → News h₀ L h' led → Q v { s with heap := h', toks := tk' }) :
    wpAny (model PySem.Challenge.rw_xm0674_01.prog w) (ktrTop dp un gd cn cs L a ccd cl outer) (call (.ref 979) [.ref b, .ref X0]) Q E s := by
  cases hx with
  | lit h1 h2 h3 => exact eval_lit B F X (news_more h1 N (news_more h2 N N)) T hk hd hu fun h' tk' => ret _ h' tk' (.str h3)
  | num h1 h2 h3 => exact eval_num B F X (news_more h1 N (news_more h2 N N)) T hk hd hu fun h' tk' => ret _ h' tk' h3
  | var h1 h2 h3 h4 h5 => exact eval_var B F X (news_more h1 N (news_more h2 N (news_more hX0 N (news_more hdX N (news_more hVm N N))))) hV hlo h3.1 h3.2 (by rw [h4]; rfl) h4 T hk hd hu fun h' tk' => ret _ h' tk' h5
end
inductive PartsV (R : Value → Str → Prop) : List Value → List Str → Prop where
  | nil : PartsV R [] []
  | cons {v : Value} {x : Str} {vs : List Value} {xs : List Str} : R v x → PartsV R vs xs → PartsV R (v :: vs) (x :: xs)
noncomputable abbrev kindS : Str := Str.ofString "kind"
noncomputable abbrev toldS : Str := Str.ofString "told"
noncomputable abbrev mKT (u m0 : Str → Option Value) : Str → Option Value := fun z => if [kindS, toldS].contains z then u z else m0 z
section
variable {prog : Program} {w : World} {A : Around} {E : Value → Shared → Prop} {h₀ : Heap} {env : Env} {target : Expr} {body : List Stmt} {Q : Flow → Shared → Prop} {s : Shared} {keep : List (Addr × Obj)} {I FD : Addr} {news0 : List (Addr × Obj)} {m0 : Str → Option Value} {R : Value → Str → Prop} {rest : List Value}
theorem mKT_self (m0 : Str → Option Value) : mKT m0 m0 = m0 := by funext z; simp
theorem parts_rest (sub : ∀ o, SubL keep ((FD, o) :: news0))
    (turn : ∀ v x u vs xs n it h tk, R v x → StrsV vs xs → vs.length ≤ 6 → it.cls = .type "list_iterator" → Fr h₀ env.locals h (mKT u m0) → News h₀ env.locals h ((I, it) :: (FD, listOf (List.toArray vs) n) :: news0) →
      wpAny (model prog w) A (assign target env v) (fun _ s₂ => wpAny (model prog w) A (execs body env) (UnrPostW h₀ env.locals { s with heap := h, toks := tk } [(I, it)]
        (fun m' n' => (∃ u', m' = mKT u' m0) ∧ ∃ t, n' = (FD, listOf (List.toArray (vs ++ [.str x t])) (n + 1)) :: news0) Q) E s₂) E { s with heap := h, toks := tk })
    {good : List Value} {xs : List Str} (hg : PartsV R good xs) : ∀ {u : Str → Option Value} {vs : List Value} {done : List Str} {n : Nat}, StrsV vs done → vs.length + good.length ≤ 6 →
    (∀ u vs' n', StrsV vs' (done ++ xs) → vs'.length ≤ 6 → ItemsRest prog w A E h₀ env target body Q s [(I, "list_iterator")] keep (rest.map .val) (mKT u m0) ((FD, listOf (List.toArray vs') n') :: news0)) →
    ItemsRest prog w A E h₀ env target body Q s [(I, "list_iterator")] keep ((good ++ rest).map .val) (mKT u m0) ((FD, listOf (List.toArray vs) n) :: news0) := by
  induction hg with
  | nil =>
    intro u vs done n hv hl fin
    exact fin u vs n (by simpa using hv) (by simpa using hl)
  | @cons v x good xs hvx _ ih =>
    intro u vs done n hv hl fin
    simp only [List.length_cons] at hl
    refine ItemsRest.val fun h tk F => AllObj.cons fun it hc => AllObj.nil fun N => ?_
    refine wpAny_mono (turn v x u vs done n it h tk hvx hv (by omega) hc F N) (fun _ s₂ hq => wpAny_mono hq (fun f s₃ hp => ?_) fun _ _ e => e) fun _ _ e => e
    have fin' : UnrEndW h₀ env.locals { s with heap := h, toks := tk } [(I, it)] (fun m' n' => (∃ u', m' = mKT u' m0) ∧ ∃ t, n' = (FD, listOf (List.toArray (vs ++ [.str x t])) (n + 1)) :: news0) s₃ →
        UnrEndW h₀ env.locals { s with heap := h, toks := tk } [(I, it)] (fun m' n' => SubL keep n' ∧ ItemsRest prog w A E h₀ env target body Q s [(I, "list_iterator")] keep ((good ++ rest).map .val) m' n') s₃ := by
      rintro ⟨h', tk', m', n', e, F', N', off', ⟨u', rfl⟩, t, rfl⟩
      refine ⟨h', tk', _, _, e, F', N', off', sub _, ih (hv.app x t) (by simp; omega) ?_⟩
      rw [List.append_assoc]
      exact fin
    cases f with
    | ret v => exact hp
    | brk => exact hp
    | next => exact fin' hp
    | cont => exact fin' hp
theorem parts_all {ps : List Value} {xs : List Str} {n : Nat} (hg : PartsV R ps xs) (hl : ps.length ≤ 6) (sub : ∀ o, SubL keep ((FD, o) :: news0))
    (turn : ∀ v x u vs xs n it h tk, R v x → StrsV vs xs → vs.length ≤ 6 → it.cls = .type "list_iterator" → Fr h₀ env.locals h (mKT u m0) → News h₀ env.locals h ((I, it) :: (FD, listOf (List.toArray vs) n) :: news0) →
      wpAny (model prog w) A (assign target env v) (fun _ s₂ => wpAny (model prog w) A (execs body env) (UnrPostW h₀ env.locals { s with heap := h, toks := tk } [(I, it)]
        (fun m' n' => (∃ u', m' = mKT u' m0) ∧ ∃ t, n' = (FD, listOf (List.toArray (vs ++ [.str x t])) (n + 1)) :: news0) Q) E s₂) E { s with heap := h, toks := tk })
    (fin : ∀ u vs n h tk, StrsV vs xs → vs.length ≤ 6 → Fr h₀ env.locals h (mKT u m0) → News h₀ env.locals h ((FD, listOf (List.toArray vs) n) :: news0) → Q .next { s with heap := h, toks := tk }) :
    ItemsRest prog w A E h₀ env target body Q s [(I, "list_iterator")] keep (ps.map .val) m0 ((FD, listOf #[] n) :: news0) := by
  have h := parts_rest (rest := []) sub turn hg (u := m0) (vs := []) (done := []) (n := n) .nil (by simpa using hl) fun u vs n' hv hl => ItemsRest.zero fun h tk F N => fin u vs n' h tk (by simpa using hv) hl F N
  rw [mKT_self, List.append_nil] at h
  exact h
end
end

section -- V5
open PySem PySem.W PyProof.Rows PySem.Calls PySem.Spec
theorem ExprTells.mono {w : World} {led led' : List (Addr × Obj)} {kvs : List (Str × Value)} {b : Addr} {x : Str} (h : ExprTells w led kvs b x) (s : ∀ q ∈ led, q ∈ led') : ExprTells w led' kvs b x := by
  cases h with
  | lit h1 h2 h3 => exact .lit (s _ h1) (s _ h2) h3
  | num h1 h2 h3 => exact .num (s _ h1) (s _ h2) (h3.mono s)
  | var h1 h2 h3 h4 h5 => exact .var (s _ h1) (s _ h2) h3 h4 (h5.mono s)
theorem turn_end {h₀ h' : Heap} {L I FD : Addr} {it : Obj} {m' m0 : Str → Option Value} {all news0 : List (Addr × Obj)} {vs : List Value} {x : Str} {t : Tok} {n tk : Nat} {s : Shared}
    (F : Fr h₀ L h' m') (N : News h₀ L h' all) (hI : (I, it) ∈ all) (hF : (FD, listOf (vs.toArray.push (.str x t)) (n + 1)) ∈ all) (hn : ∀ q ∈ news0, q ∈ all) (off : ∀ p ∈ news0, p.1 ≠ I) (hFI : FD ≠ I) (hm : ∀ y, y ≠ kindS → y ≠ toldS → m' y = m0 y) :
    UnrEndW h₀ L s [(I, it)] (fun m' n' => (∃ u', m' = mKT u' m0) ∧ ∃ t, n' = (FD, listOf (List.toArray (vs ++ [.str x t])) (n + 1)) :: news0) { s with heap := h', toks := tk } := by
  refine ⟨h', tk, m', (FD, listOf (List.toArray (vs ++ [.str x t])) (n + 1)) :: news0, rfl, F, fun q hq => ?_, fun p hp q hq => ?_, ⟨m', ?_⟩, t, rfl⟩
  · simp only [List.cons_append, List.nil_append, List.mem_cons] at hq
    rcases hq with rfl | rfl | hq
    · exact N _ hI
    · rw [← List.push_toArray]; exact N _ hF
    · exact N _ (hn q hq)
  · rw [List.mem_singleton.mp hq]
    rcases List.mem_cons.mp hp with rfl | hp
    · exact hFI
    · exact off p hp
  · funext z
    by_cases h1 : z = kindS
    · subst h1; simp
    · by_cases h2 : z = toldS
      · subst h2; simp
      · simp [h1, h2, hm z h1 h2]
theorem join_parts {prog : Program} {w : World} {A : Around} {E : Value → Shared → Prop} {s : Shared} {t : Tok} {Q : Value → Shared → Prop} {D : Addr} {ys : List Value} {l : List Str} (hl : s.heap.IsList D ys.toArray) (hp : StrsV ys l) (hb : ∀ a ∈ l, a.length ≤ 17) (hn : l.length ≤ 6)
    (h : ∀ t' k, Q (.str (Str.join (Str.ofString "") l) t') { s with toks := k }) : wpAny (model prog w) A (call (.builtin "str.join") [.str (Str.ofString "") t, .ref D]) Q E s := by
  have hsum : ∀ l : List Str, (∀ a ∈ l, a.length ≤ 17) → (l.map (·.length)).sum ≤ 17 * l.length := by
    intro l
    induction l with
    | nil => intro _; simp
    | cons a r ih =>
      intro h
      have h1 := h a (.head _)
      have h2 := ih fun b hb => h b (.tail _ hb)
      simp only [List.map_cons, List.sum_cons, List.length_cons]
      omega
  have h0 := hsum l hb
  refine join_listW hl (StrsAre.of_carried hp.carried) (by decide) (by omega) fun t' k => ?_
  have e2 : Txt.join (Str.ofString "") l = Str.join (Str.ofString "") l := by
    show Builtin.Str.glued _ _ = _
    rw [StrLaws.glued_eq_join]
  rw [e2]
  exact h t' k
theorem PartsV.len17 {w : World} {led : List (Addr × Obj)} {kvs : List (Str × Value)} {ps : List Value} {xs : List Str} (h : PartsV (PartTells w led kvs) ps xs) : (∀ x ∈ xs, x.length ≤ 17) ∧ xs.length = ps.length := by
  induction h with
  | nil => exact ⟨fun _ h => (nomatch h), rfl⟩
  | cons h1 _ ih =>
    refine ⟨fun x hx => ?_, by simp [ih.2]⟩
    rcases List.mem_cons.mp hx with rfl | hx
    · exact h1.len
    · exact ih.1 x hx
theorem ne_l8 {x1 x2 x3 x4 x5 x6 x7 x8 : Prop} {R : Addr} {led : List (Addr × Obj)} (h : x1 ∧ x2 ∧ x3 ∧ x4 ∧ x5 ∧ x6 ∧ x7 ∧ x8 ∧ AllLt R led) : ∀ q ∈ led, q.1 ≠ R := fun q hq => Nat.ne_of_lt (allLt_mem h.2.2.2.2.2.2.2.2 q hq)
section
variable {w : World} {p : Program} {loose : List Str} {mean : ExcName → Option Value} {mg mb : Str → Option Value}
    {dp un : Nat} {gd : Option (List Code)} {cn : Str} {cs : Scope} {a : Addr} {ccd : Value} {cl : List (Str × Addr)} {outer : List Env} {A₀ : Around} {base h₀ : Heap} {L : Addr} {m : Str → Option Value} {s : Shared}
    {Q E : Value → Shared → Prop}
set_option maxHeartbeats 0 in
theorem value_ok {led : List (Addr × Obj)} {T0 R : Addr} {xt : List Trip} {keep : List (Addr × Obj)} {P X0 dX V : Addr} {ps : List Value} {xs : List Str} {np : Nat} {k0 k1 k2 k3 k4 k5 k6 k7 k8 : Tok} {nd po sz nms ca cu ids : Value} {oV : Obj} {kvs : List (Str × Value)} {PT : Addr}
    (B : Below A₀ base outer h₀) (F : Fr h₀ L s.heap m) (X : (KK w.params).In h₀) (G : TreeG w led T0 R xt rowsE keep) (N : News h₀ L s.heap ((PT, tabObj #[]) :: (P, listOf ps.toArray np) :: (X0, instObj 1039 dX) :: (dX, ctxD w (.ref T0) nd po sz V nms ca cu ids k0 k1 k2 k3 k4 k5 k6 k7 k8) :: (V, oV) :: led))
    (CB : CodeHd base 999 PT) (hoff : ∀ q ∈ led, q.1 ≠ PT) (hP : @Ne Nat P PT) (hX0 : @Ne Nat X0 PT) (hdX : @Ne Nat dX PT) (hVP : @Ne Nat V PT) (hV : oV.IsDictOf (PySem.strKind PySem.Challenge.rw_xm0674_01.prog w) kvs) (hlo : (V == sysModules) = false)
    (hps : PartsV (PartTells w led kvs) ps xs) (hpl : ps.length ≤ 6)
    (T : Top p loose mean mg mb h₀) (hk : cs.kind = .function) (hd : dp + 60 ≤ 900) (hu : un + 500 ≤ 1000)
    (ret : ∀ (c' : Addr) (oc' : Obj) vs' (qual : Str) (tq u : Tok) h' tk', qual = Str.ofString "value_of_avt.<locals>.<lambda>" → oc'.data = .fields vs' → vs'[1]? = some (.str qual tq) → Fr h₀ L h' m →
      News h₀ L h' ((c', oc') :: (PT, tabObj #[rawInt ((776 : Nat) : Int), rawInt ((25 : Nat) : Int), .ref c']) :: (P, listOf ps.toArray np) :: (X0, instObj 1039 dX) :: (dX, ctxD w (.ref T0) nd po sz V nms ca cu ids k0 k1 k2 k3 k4 k5 k6 k7 k8) :: (V, oV) :: led) → Q (.str (Str.join (Str.ofString "") xs) u) { s with heap := h', toks := tk' }) :
    wpAny (model PySem.Challenge.rw_xm0674_01.prog w) (ktrTop dp un gd cn cs L a ccd cl outer) (call (.ref 1313) [.ref P, .ref X0]) Q E s := by
  k_with_none
  k_with "memR" => (first | with_reducible assumption | exact List.Mem.head _ | (refine' List.Mem.tail _ ?_; k_extra "memR"))
  k_with "memD" => (first | exact List.Mem.head _ | assumption | (refine' List.Mem.tail _ ?_; k_extra "memD"))
  k_with "mem" => (first | k_extra "memR" | k_extra "memD")
  k_with "allR" => (first | assumption | exact List.forall_mem_nil _ | (refine' List.forall_mem_cons.mpr ⟨?a, ?b⟩; (case a => first | with_reducible assumption | k_ne); (case b => k_extra "allR")))
  k_with "all" => (k_extra "allR")
  k_with "cj" => (with_reducible (first | assumption | exact cj0 (by assumption) | exact cj1 (by assumption) | exact cj2 (by assumption) | exact cj3 (by assumption) | exact cj4 (by assumption) | exact cj5 (by assumption) | exact cj6 (by assumption) | exact cj7 (by assumption) | exact cj8 (by assumption) | exact cj9 (by assumption) | exact cj10 (by assumption) | exact cj11 (by assumption) | exact cj12 (by assumption) | exact cj13 (by assumption) | exact cj14 (by assumption) | exact cj15 (by assumption) | exact cj16 (by assumption) | exact cl1 (by assumption) | exact cl2 (by assumption) | exact cl3 (by assumption) | exact cl4 (by assumption) | exact cl5 (by assumption) | exact cl6 (by assumption) | exact cl7 (by assumption) | exact cl8 (by assumption) | exact cl9 (by assumption) | exact cl10 (by assumption) | exact cl11 (by assumption) | exact cl12 (by assumption) | exact cl13 (by assumption) | exact cl14 (by assumption) | exact cl15 (by assumption) | exact cl16 (by assumption) | exact ct0t0x (by assumption) | exact ct0t1x (by assumption) | exact ct0t2x (by assumption) | exact ct1t0x (by assumption) | exact ct1t1x (by assumption) | exact ct1t2x (by assumption) | exact ct2t0x (by assumption) | exact ct2t1x (by assumption) | exact ct2t2x (by assumption) | exact ct3t0x (by assumption) | exact ct3t1x (by assumption) | exact ct3t2x (by assumption) | exact ct4t0x (by assumption) | exact ct4t1x (by assumption) | exact ct4t2x (by assumption)))
  k_with "ne" => ((refine neN ?_; (try dsimp only); first | with_reducible (first | assumption | exact ngt (by assumption) | exact nlt (by assumption) | exact Ne.symm (by assumption)) | (refine ngt ?_; k_data) | (refine nlt ?_; k_data) | k_data | (refine Ne.symm ?_; k_data) | (refine ngt1 ?_; k_data) | (refine ngt2 ?_; k_data) | (refine nlt1 ?_; k_data) | (refine nlt2 ?_; k_data) | omega))
  k_with "room" => (first | exact room_le2 (by assumption) (by exact rfl) | exact room_lt2 (by assumption) (by exact rfl) | exact room_le1 (by assumption) (by exact rfl) | exact room_lt1 (by assumption) (by exact rfl) | exact room_le3 (by assumption) (by exact rfl) | exact room_lt3 (by assumption) (by exact rfl) | exact room_ltF (by assumption) (by exact rfl) (by exact rfl))
  k_with "units" => (first | exact unit_le2 (by assumption) (by exact rfl) | exact unit_lt2 (by assumption) (by exact rfl) | exact unit_le1 (by assumption) (by exact rfl) | exact unit_lt1 (by assumption) (by exact rfl) | exact unit_le3 (by assumption) (by exact rfl) | exact unit_lt3 (by assumption) (by exact rfl) | exact unit_ltE (by assumption) (by exact rfl) (by exact rfl) | exact unit_ltF (by assumption) (by exact rfl) (by exact rfl))
  k_with "callWith ref nil nil" => (k_here; k_dflt (refine' callWith_K ?k1 ?k2 ?_; (case k1 => k_asm); (case k2 => k_is); k_whole))
  k_with "eval Name" => (k_here; k_dflt (refine' nameX_L ?F ?v ?_ ?a ?b; (case b => exact rfl); (case F => k_asm); (case a => rfl); (case v => rfl); k_whole))
  k_with "eval Name" => (k_here; k_dflt (refine' nameX_K ?F ?X ?T ?e ?_ ?a ?b; (case b => exact rfl); (case F => k_asm); (case X => k_asm); (case T => k_asm); (case a => rfl); (case e => k_is); k_whole))
  k_with "eval Name" => (k_here; k_dflt (refine' nameX_B ?F ?X ?T ?e ?v ?n ?_ ?a ?b; (case b => exact rfl); (case F => k_asm); (case X => k_asm); (case T => k_asm); (case a => rfl); (case e => k_is); (case v => boot_fast); (case n => decide); k_whole))
  k_with "subscriptTail Name Constant ref int" => (k_here; (with_reducible show wpAny _ _ (subscriptTail _ _ (Value.ref _) (Value.int _ _)) _ _ _); k_dflt (first | (refine' item_tupleT ?t ?a ?b ?c ?d ?_; (case t => first | with_reducible assumption | exact News.isTup (by k_asm) (by k_mem)); (case a => decide); (case b => decide); (case c => rfl); (case d => rfl); k_whole) | (refine' topTup_K ?F ?X ?l ?a ?b ?c ?d ?_; (case F => k_asm); (case X => k_asm); (case l => k_is); (case a => decide); (case b => decide); (case c => rfl); (case d => rfl)) | (refine' topList_K ?F ?X ?l ?a ?b ?d ?_; (case F => k_asm); (case X => k_asm); (case l => k_is); (case a => decide); (case b => decide); (case d => rfl); k_whole)))
  k_with "subscriptTail Name Constant ref int" => (k_here; (with_reducible show wpAny _ _ (subscriptTail _ _ (Value.ref _) (Value.int _ _)) _ _ _); (with_unfolding_all refine' item_litK ?k1 ?k2 ?k3 ?k4 ?_ ?k6; (case k1 => is_list); (case k2 => decide); (case k3 => decide); (case k4 => rfl); (case k6 => with_unfolding_all rfl); k_whole))
  k_with "call builtin:list.pop" => (k_here; k_dflt ((with_reducible show wpAny _ _ (call (Value.builtin _) [Value.ref _]) _ _ _); refine' kl_pop ?F ?N ?e ?U ?z ?_; (case F => k_asm); (case N => k_asm); (case U => k_upd); (case e => rfl); (case z => kl_room)); kl_rest)
  k_with "lt" => with_reducible (first | assumption | exact ll0 (by assumption) | exact ll1 (by assumption) | exact ll2 (by assumption) | exact ll3 (by assumption) | exact ll4 (by assumption) | exact ll5 (by assumption) | exact ll6 (by assumption) | exact ll7 (by assumption) | exact ll8 (by assumption) | exact ll9 (by assumption) | exact ll10 (by assumption) | exact ll11 (by assumption) | exact ll12 (by assumption) | exact ll13 (by assumption) | exact la0 (by assumption) | exact la1 (by assumption) | exact la2 (by assumption) | exact la3 (by assumption) | exact la4 (by assumption) | exact la5 (by assumption) | exact la6 (by assumption) | exact la7 (by assumption))
  k_with "ite" => with_reducible (first | refine ite_tt ?_ | refine ite_ff ?_)
  k_with "subscriptTail Attribute Name Name ref int" => (walk_at "last subscriptTail")
  k_with "callWith ref cons nil" => (k_here; k_dflt (refine' callWith_K ?k1 ?k2 ?_; (case k1 => k_asm); (case k2 => k_is); k_whole))
  k_with "exec For Tuple Name cons nil" => (k_here; (rename Fr _ _ _ _ => lF'); (with_unfolding_all refine' For_turns lF' ?_; k_whole))
  k_with "call builtin:str.join" => (k_here; k_dflt (refine' join_parts ?k1 ?k2 ?k3 ?k4 ?_; (case k1 => exact News.isList (by k_asm) (by k_mem)); (case k2 => assumption); (case k3 => assumption); (case k4 => assumption); intro u' k'))
  k_with "call ref" => (k_here; (with_reducible show wpAny _ _ (call (Value.ref 979) _) _ _ _); k_dflt (refine' eval_A ?B ?F ?X ?N ?hX0 ?hdX ?hVm ?hV ?hlo ?hx ?T ?hk ?hd ?hu ?_; (case B => k_asm); (case F => k_asm); (case X => k_asm); (case N => k_asm); (case hX0 => k_mem); (case hdX => k_mem); (case hVm => k_mem); (case hV => assumption); (case hlo => assumption); (case hx => exact ExprTells.mono (by assumption) (by repeat (first | assumption | exact sub_self | refine sub_tail ?_))); (case T => k_asm); (case hk => first | exact rfl | assumption); (case hd => ktr_room); (case hu => ktr_units); intro v' h' tk' hv' F' N'; (try dsimp only); (try k_fold)))
  k_with "call ref" => (k_here; (with_reducible show wpAny _ _ (call (Value.ref 209) _) _ _ _); k_dflt (refine' astext_A ?B ?F ?X ?G ?N ?hv ?T ?hk ?hd ?hu ?_; (case B => k_asm); (case F => k_asm); (case X => k_asm); (case N => k_asm); (case G => exact TreeG.mono (by assumption) (by repeat (first | assumption | exact sub_self | refine sub_tail ?_))); (case hv => assumption); (case T => k_asm); (case hk => first | exact rfl | assumption); (case hd => ktr_room); (case hu => ktr_units); intro t' h' tk' F' N'; (try dsimp only); (try k_fold)))
  have hxs := hps.len17.1
  have hxl : xs.length ≤ 6 := by rw [hps.len17.2]; exact hpl
  k_with "pyIter ref" =>
    (rename Fr _ _ _ _ => lF')
    (rename News _ _ _ _ => lN')
    (with_unfolding_all refine iter_listTurns (lo := listOf ps.toArray np) (vs := ps) (by rfl) lF' lN' (by k_mem) (by rfl) (by rfl) ?_)
    intro I' l1'
    have hFo := ne_l8 (by assumption)
    have hFI := ltN (l1' _ (.head _))
    dsimp only at hFI
    (k_dflt (refine' parts_all hps hpl ?q1 ?_ ?_))
    (case q1 => intro o'; exact And.intro (by k_dflt k_mem) trivial)
    (intro v' x' u' vs' xs' n' it' h' tk' hv' hs' hl' hc' F' N')
    rotate_left
    (intro u' vs' n' h' tk' hs' hl' F' N')
    rotate_left
    (cases hv')
  refine wpAny_call ?_
  k_dflt ktr_enter
  repeat' (first | walk1 | (dsimp only; walk1))
  · k_dflt (refine' turn_end (by assumption) (by assumption) ?a ?b ?c (fun p hp => Nat.ne_of_lt (l1' p (List.Mem.tail _ hp))) (Nat.ne_of_lt hFI) ?f)
    (case a => k_dflt k_mem)
    (case b => k_dflt k_mem)
    (case c => repeat (first | exact sub_self | refine sub_tail ?_))
    (case f => intro y h1 h2; simp [h1, h2])
  · k_dflt (refine' turn_end (by assumption) (by assumption) ?a ?b ?c (fun p hp => Nat.ne_of_lt (l1' p (List.Mem.tail _ hp))) (Nat.ne_of_lt hFI) ?f)
    (case a => k_dflt k_mem)
    (case b => k_dflt k_mem)
    (case c => repeat (first | exact sub_self | refine sub_tail ?_))
    (case f => intro y h1 h2; simp [h1, h2])
  · (rename News h₀ _ _ _ => NN)
    k_dflt (refine' ret _ _ _ _ _ _ _ _ ?q ?d1 ?d2 ?ff ?nn)
    (case d1 => assumption)
    (case d2 => assumption)
    (case ff => assumption)
    (case nn => exact news_sub NN (sub_cons (by k_dflt k_mem) (by repeat (first | exact sub_self | refine sub_tail ?_))))
    (case q => first | kernel_rfl | decide +kernel)
end
end

section -- P0
open PySem PySem.W PyProof.Rows PySem.Calls PySem.Spec
theorem emp_app (x : Str) : Str.ofString "" ++ x = x := by
  have h : ∀ x y : Str, x ++ y = ⟨x.cps ++ y.cps⟩ := fun _ _ => rfl
  have z : (Str.ofString "").cps = #[] := by decide +kernel
  rw [h, z]; simp
theorem app_emp (x : Str) : x ++ Str.ofString "" = x := by
  have h : ∀ x y : Str, x ++ y = ⟨x.cps ++ y.cps⟩ := fun _ _ => rfl
  have z : (Str.ofString "").cps = #[] := by decide +kernel
  rw [h, z]; simp
theorem app_as (a b c : Str) : a ++ b ++ c = a ++ (b ++ c) := by
  have h : ∀ x y : Str, x ++ y = ⟨x.cps ++ y.cps⟩ := fun _ _ => rfl
  simp only [h, Array.append_assoc]
theorem join_nil : Str.join (Str.ofString "") [] = Str.ofString "" := by decide +kernel
theorem join_cons (x : Str) (xs : List Str) : Str.join (Str.ofString "") (x :: xs) = x ++ Str.join (Str.ofString "") xs := by
  cases xs with
  | nil =>
    have e : Str.join (Str.ofString "") [x] = x := rfl
    rw [e, join_nil, app_emp]
  | cons y r =>
    have e : Str.join (Str.ofString "") (x :: y :: r) = x ++ Str.ofString "" ++ Str.join (Str.ofString "") (y :: r) := rfl
    rw [e, app_emp]
theorem join_snoc (xs : List Str) (x : Str) : Str.join (Str.ofString "") (xs ++ [x]) = Str.join (Str.ofString "") xs ++ x := by
  induction xs with
  | nil => rw [List.nil_append, join_cons, join_nil, app_emp, emp_app]
  | cons y r ih => rw [List.cons_append, join_cons, join_cons, ih, app_as]
noncomputable def nmV (i : Nat) : Str := Str.ofString "v" ++ Str.ofString (toString (i : Int))
theorem nmV_ok {i : Nat} (h : i < 5) : NameOk (nmV i) := by
  unfold NameOk
  match i, h with
  | 0, _ => decide +kernel
  | 1, _ => decide +kernel
  | 2, _ => decide +kernel
  | 3, _ => decide +kernel
  | 4, _ => decide +kernel
theorem w_ok : NameOk (Str.ofString "w") := by
  unfold NameOk
  decide +kernel
theorem nmV_ne_w {i : Nat} (h : i < 5) : nmV i ≠ Str.ofString "w" := by
  match i, h with
  | 0, _ => decide +kernel
  | 1, _ => decide +kernel
  | 2, _ => decide +kernel
  | 3, _ => decide +kernel
  | 4, _ => decide +kernel
theorem nmV_inj {i j : Nat} (h : i < 5) (hj : j < 5) (hij : i ≠ j) : nmV i ≠ nmV j := by
  have hall : ((List.range 5).all fun i => (List.range 5).all fun j => decide (i = j) || decide (nmV i ≠ nmV j)) = true := by decide +kernel
  have h1 := List.all_eq_true.mp (List.all_eq_true.mp hall i (List.mem_range.mpr h)) j (List.mem_range.mpr hj)
  rcases Bool.or_eq_true_iff.mp h1 with q | q
  · exact absurd (of_decide_eq_true q) hij
  · exact of_decide_eq_true q
/-- what every dict of variables keeps when a new name is bound -/
theorem PartTells.mono {w : World} {led led' : List (Addr × Obj)} {kvs kvs' : List (Str × Value)} {v : Value} {x : Str} (h : PartTells w led kvs v x) (s : ∀ q ∈ led, q ∈ led') (k : ∀ nm v, valueAt kvs nm = some v → valueAt kvs' nm = some v) : PartTells w led' kvs' v x := by
  cases h with
  | text a b => exact .text (s _ a) b
  | path a b =>
    refine .path (s _ a) ?_
    cases b with
    | lit h1 h2 h3 => exact .lit (s _ h1) (s _ h2) h3
    | num h1 h2 h3 => exact .num (s _ h1) (s _ h2) (h3.mono s)
    | var h1 h2 h3 h4 h5 => exact .var (s _ h1) (s _ h2) h3 (k _ _ h4) (h5.mono s)
theorem PartsV.mono {R R' : Value → Str → Prop} {vs : List Value} {xs : List Str} (h : PartsV R vs xs) (k : ∀ v x, R v x → R' v x) : PartsV R' vs xs := by
  induction h with
  | nil => exact .nil
  | cons a _ ih => exact .cons (k _ _ a) ih
theorem PartsV.snoc {R : Value → Str → Prop} {vs : List Value} {xs : List Str} (h : PartsV R vs xs) {v : Value} {x : Str} (hv : R v x) : PartsV R (vs ++ [v]) (xs ++ [x]) := by
  induction h with
  | nil => exact .cons hv .nil
  | cons a _ ih => exact .cons a ih
end

section -- O2
open PySem PySem.W PyProof.Rows PySem.Calls
section
variable (w : World) (p : Program) (loose : List Str) (mean : ExcName → Option Value) (mg mb : Str → Option Value)
    (dp un : Nat) (gd : Option (List Code)) (cn : Str) (cs : Scope) (a : Addr) (ccd : Value) (cl : List (Str × Addr)) (outer : List Env) (A₀ : Around) (base h₀ : Heap) (L : Addr) (m : Str → Option Value) (rest : List (Addr × Obj)) (s : Shared)
    (Q E : Value → Shared → Prop) (src : Addr) (x y : Int) (tx ty : Tok) (n : Nat)
theorem number_U (led : List (Addr × Obj)) (g : Obj → List (Addr × Obj))
    (B : Below A₀ base outer h₀) (F : Fr h₀ L s.heap m) (X : (KK w.params).In h₀) (N : News h₀ L s.heap led) (U : UpdF src (pool x y tx ty n) led g)
    (T : Top p loose mean mg mb h₀) (hk : cs.kind = .function) (hx : Pool x y) (hd : dp + 16 ≤ 900) (hu : un + 200 ≤ 1000)
    (ret : ∀ (D b : Addr) (i j : Int) (z : Str) (ti tj t : Tok) x' y' tx' ty' n' h' tk', (i, j, z) ∈ numTab → Fr h₀ L h' m → News h₀ L h' ((D, tupO #[.ref b, .str z t]) :: (b, tupO #[.int i ti, .int j tj]) :: g (pool x' y' tx' ty' n')) → Pool x' y' → Q (.ref D) { s with heap := h', toks := tk' }) :
    wpAny (model PySem.Challenge.rw_xm0674_01.prog w) (ktrTop dp un gd cn cs L a ccd cl outer) (call (.ref 1301) [.ref src]) Q E s := by
  obtain ⟨rest, h1, h2, h3⟩ := updF_split (h₀ := h₀) (h := s.heap) (L := L) U
  refine number_F (w := w) (p := p) (loose := loose) (mean := mean) (mg := mg) (mb := mb) (dp := dp) (un := un) (gd := gd) (cn := cn) (cs := cs) (a := a) (ccd := ccd) (cl := cl) (outer := outer) (A₀ := A₀) (base := base) (h₀ := h₀) (L := L) (m := m) (rest := rest) (s := s) (Q := Q) (E := E) (src := src) (x := x) (y := y) (tx := tx) (ty := ty) (n := n) (B := B) (F := F) (X := X) (N := h2 _ N) (h1 := h1) (T := T) (hk := hk) (hx := hx) (hd := hd) (hu := hu) (ret := fun D b i j z ti tj t x' y' tx' ty' n' h' tk' hz F' N' P' => ret D b i j z ti tj t x' y' tx' ty' n' h' tk' hz F' (fun q hq => ?_) P')
  rcases List.mem_cons.mp hq with rfl | hq
  · exact N' _ (by simp)
  · rcases List.mem_cons.mp hq with rfl | hq
    · exact N' _ (by simp)
    · refine h3 h' _ (fun q hq => N' q ?_) q hq
      rcases List.mem_cons.mp hq with rfl | hq
      · simp
      · simp [hq]

theorem off1_mem {D : Addr} : ∀ {l : List (Addr × Obj)}, LCg.Off1 D l → ∀ p ∈ l, p.1 ≠ D
  | [], _, _, h => nomatch h
  | _ :: _, x, p, h => by
    rcases List.mem_cons.mp h with rfl | h
    · exact x.1
    · exact off1_mem x.2 p h
noncomputable def NodeV (rest : List (Addr × Obj)) (v : Value) : Prop := ∃ (q : Addr) (k : Nat) (t : Tok) (z : Str) (u : Tok), v = .ref q ∧ (q, tupO #[.int (k : Int) t, .str z u]) ∈ rest ∧ (k, z) ∈ nodeTexts
theorem nodeV_of {rest : List (Addr × Obj)} {p0 p1 p2 p3 p4 : Addr} {t0 t1 t2 t3 t4 u0 u1 u2 u3 u4 : Tok} {v : Value}
    (m0 : (p0, tupO #[.int ((1 : Nat) : Int) t0, .str (Str.ofString "bc{") u0]) ∈ rest) (m1 : (p1, tupO #[.int ((2 : Nat) : Int) t1, .str (Str.ofString "v") u1]) ∈ rest) (m2 : (p2, tupO #[.int ((3 : Nat) : Int) t2, .str (Str.ofString "b") u2]) ∈ rest) (m3 : (p3, tupO #[.int ((4 : Nat) : Int) t3, .str (Str.ofString "c{") u3]) ∈ rest) (m4 : (p4, tupO #[.int ((6 : Nat) : Int) t4, .str (Str.ofString "d") u4]) ∈ rest)
    (h : v ∈ [Value.ref p0, .ref p1, .ref p2, .ref p3, .ref p4]) : NodeV rest v := by
  have n0 : ((1 : Nat), Str.ofString "bc{") ∈ nodeTexts := by unfold nodeTexts; exact .head _
  have n1 : ((2 : Nat), Str.ofString "v") ∈ nodeTexts := by unfold nodeTexts; exact .tail _ (.head _)
  have n2 : ((3 : Nat), Str.ofString "b") ∈ nodeTexts := by unfold nodeTexts; exact .tail _ (.tail _ (.head _))
  have n3 : ((4 : Nat), Str.ofString "c{") ∈ nodeTexts := by unfold nodeTexts; exact .tail _ (.tail _ (.tail _ (.head _)))
  have n4 : ((6 : Nat), Str.ofString "d") ∈ nodeTexts := by unfold nodeTexts; exact .tail _ (.tail _ (.tail _ (.tail _ (.head _))))
  simp only [List.mem_cons, List.not_mem_nil, or_false] at h
  rcases h with rfl | rfl | rfl | rfl | rfl
  · exact ⟨_, _, _, _, _, rfl, m0, n0⟩
  · exact ⟨_, _, _, _, _, rfl, m1, n1⟩
  · exact ⟨_, _, _, _, _, rfl, m2, n2⟩
  · exact ⟨_, _, _, _, _, rfl, m3, n3⟩
  · exact ⟨_, _, _, _, _, rfl, m4, n4⟩
theorem few {ys : List Value} {k : Int} (h : ys.length = (k - 0).toNat) (h3 : k < 3) : ys = [] ∨ (∃ a, ys = [a]) ∨ ∃ a b, ys = [a, b] := by
  match ys, h with
  | [], _ => exact .inl rfl
  | [a], _ => exact .inr (.inl ⟨a, rfl⟩)
  | [a, b], _ => exact .inr (.inr ⟨a, b, rfl⟩)
  | _ :: _ :: _ :: r, h => simp only [List.length_cons] at h; omega
noncomputable def FreshT (rest : List (Addr × Obj)) (T1 : Addr) : Prop := ∀ q ∈ rest, q.2.cls ≠ .type "tuple" → q.1 ≠ T1
theorem freshT_tup {h₀ h : Heap} {L : Addr} {led rest : List (Addr × Obj)} {T1 : Addr} {xs : Array Value} (N : News h₀ L h led) (h1 : (T1, tupO xs) ∈ led) (s : ∀ q ∈ rest, q ∈ led) : FreshT rest T1 := fun q hq hc => by
  have := news_fun N (s q hq) h1 hc
  exact this
theorem freshT_of {src T1 : Addr} {o : Obj} {rest : List (Addr × Obj)} {a b c : Prop} (h : a ∧ b ∧ c ∧ (@Ne Nat src T1) ∧ LCg.Off1 T1 rest) : FreshT ((src, o) :: rest) T1 := fun q hq _ => by
  rcases List.mem_cons.mp hq with rfl | hq
  · exact h.2.2.2.1
  · exact off1_mem h.2.2.2.2 q hq
theorem num_fin {h₀ h' : Heap} {L : Addr} {m : Str → Option Value} {led rest : List (Addr × Obj)} {D b : Addr} {i j : Int} {ti tj t : Tok} {z : Str} {src : Addr} {x' y' : Int} {tx' ty' : Tok} {n' tk' : Nat} {s : Shared} {Q : Value → Shared → Prop} (N : News h₀ L h' led)
    (hD : (D, tupO #[.ref b, .str z t]) ∈ led) (hb : (b, tupO #[.int i ti, .int j tj]) ∈ led) (hs : (src, pool x' y' tx' ty' n') ∈ led) (hr : ∀ q ∈ rest, q ∈ led) (hz : (i, j, z) ∈ numTab) (F : Fr h₀ L h' m) (P : Pool x' y')
    (ret : ∀ (D : Addr) told z t T1 oT x' y' tx' ty' n' h' tk', Tells [(T1, oT)] told z → FreshT ((src, pool x' y' tx' ty' n') :: rest) T1 → Fr h₀ L h' m → News h₀ L h' ((src, pool x' y' tx' ty' n') :: (D, tupO #[told, .str z t]) :: (T1, oT) :: rest) → Pool x' y' → Q (.ref D) { s with heap := h', toks := tk' }) :
    Q (.ref D) { s with heap := h', toks := tk' } :=
  ret D (.ref b) z t b _ x' y' tx' ty' n' h' tk' (.num (.head _) hz) (freshT_tup N hb (sub_cons hs hr)) F (news_sub N (sub_cons hs (sub_cons hD (sub_cons hb hr)))) P
theorem pair_fin {h₀ h' : Heap} {L : Addr} {m : Str → Option Value} {led rest : List (Addr × Obj)} {D : Addr} {told : Value} {t : Tok} {z : Str} {src : Addr} {x' y' : Int} {tx' ty' : Tok} {n' tk' : Nat} {s : Shared} {Q : Value → Shared → Prop} (N : News h₀ L h' led)
    (hD : (D, tupO #[told, .str z t]) ∈ led) (hs : (src, pool x' y' tx' ty' n') ∈ led) (hr : ∀ q ∈ rest, q ∈ led) (hz : ∀ l, Tells l told z) (F : Fr h₀ L h' m) (P : Pool x' y')
    (ret : ∀ (D : Addr) told z t T1 oT x' y' tx' ty' n' h' tk', Tells [(T1, oT)] told z → FreshT ((src, pool x' y' tx' ty' n') :: rest) T1 → Fr h₀ L h' m → News h₀ L h' ((src, pool x' y' tx' ty' n') :: (D, tupO #[told, .str z t]) :: (T1, oT) :: rest) → Pool x' y' → Q (.ref D) { s with heap := h', toks := tk' }) :
    Q (.ref D) { s with heap := h', toks := tk' } :=
  ret D told z t D _ x' y' tx' ty' n' h' tk' (hz _) (freshT_tup N hD (sub_cons hs hr)) F (news_sub N (sub_cons hs (sub_cons hD (sub_cons hD hr)))) P
theorem ne_len {prog : Program} {w : World} {A : Around} {E : Value → Shared → Prop} {s : Shared} {l b : Addr} {items items2 : Array Value} {Q : Value → Shared → Prop} (hl : s.heap.IsList l items) (hb : s.heap.IsList b items2) (hsz : (items.size != items2.size) = true) (hu : A.units < cLine) (h : Q (.bool true) s) :
    wpAny (model prog w) A (compareOp .NotEq (.ref l) (.ref b)) Q E s := cmp_ofNotEq (PySem.SeqAt.RcNeAt.lists_lengths hl hb hsz hu prog w E Q h)
set_option maxHeartbeats 0 in
theorem worth_F (NL p0 p1 p2 p3 p4 : Addr) (t0 t1 t2 t3 t4 u0 u1 u2 u3 u4 : Tok)
    (B : Below A₀ base outer h₀) (F : Fr h₀ L s.heap m) (X : (KK w.params).In h₀) (N : News h₀ L s.heap ((src, pool x y tx ty n) :: rest)) (h1 : ∀ q ∈ rest, q.1 ≠ src) (hNL : @Ne Nat NL src) (hN : (NL, listOf #[.ref p0, .ref p1, .ref p2, .ref p3, .ref p4] 0) ∈ rest)
    (m0 : (p0, tupO #[.int ((1 : Nat) : Int) t0, .str (Str.ofString "bc{") u0]) ∈ rest) (m1 : (p1, tupO #[.int ((2 : Nat) : Int) t1, .str (Str.ofString "v") u1]) ∈ rest) (m2 : (p2, tupO #[.int ((3 : Nat) : Int) t2, .str (Str.ofString "b") u2]) ∈ rest) (m3 : (p3, tupO #[.int ((4 : Nat) : Int) t3, .str (Str.ofString "c{") u3]) ∈ rest) (m4 : (p4, tupO #[.int ((6 : Nat) : Int) t4, .str (Str.ofString "d") u4]) ∈ rest)
    (T : Top p loose mean mg mb h₀) (hk : cs.kind = .function) (hx : Pool x y) (hd : dp + 24 ≤ 900) (hu : un + 300 ≤ 1000)
    (ret : ∀ (D : Addr) told z t T1 oT x' y' tx' ty' n' h' tk', Tells [(T1, oT)] told z → FreshT ((src, pool x' y' tx' ty' n') :: rest) T1 → Fr h₀ L h' m → News h₀ L h' ((src, pool x' y' tx' ty' n') :: (D, tupO #[told, .str z t]) :: (T1, oT) :: rest) → Pool x' y' → Q (.ref D) { s with heap := h', toks := tk' }) :
    wpAny (model PySem.Challenge.rw_xm0674_01.prog w) (ktrTop dp un gd cn cs L a ccd cl outer) (call (.ref 1306) [.ref src, .ref NL]) Q E s := by
  k_with_none
  k_with "memR" => (first | with_reducible assumption | exact List.Mem.head _ | (refine' List.Mem.tail _ ?_; k_extra "memR"))
  k_with "memD" => (first | exact List.Mem.head _ | assumption | (refine' List.Mem.tail _ ?_; k_extra "memD"))
  k_with "mem" => (first | k_extra "memR" | k_extra "memD")
  k_with "allR" => (first | with_reducible assumption | exact List.forall_mem_nil _ | (refine' List.forall_mem_cons.mpr ⟨?a, ?b⟩; (case a => first | with_reducible assumption | k_ne); (case b => k_extra "allR")))
  k_with "all" => (first | with_reducible assumption | exact List.forall_mem_nil _ | with_reducible (first | exact aa0 (by assumption) | exact aa1 (by assumption) | exact aa2 (by assumption) | exact aa3 (by assumption) | exact aa4 (by assumption) | exact aa5 (by assumption) | exact aa6 (by assumption) | exact aa7 (by assumption) | exact ab0 (by assumption) (by assumption) | exact ab1 (by assumption) (by assumption)) | k_extra "allR" | assumption)
  k_with "cj" => (with_reducible (first | assumption | exact cj0 (by assumption) | exact cj1 (by assumption) | exact cj2 (by assumption) | exact cj3 (by assumption) | exact cj4 (by assumption) | exact cj5 (by assumption) | exact cj6 (by assumption) | exact cj7 (by assumption) | exact cj8 (by assumption) | exact cj9 (by assumption) | exact cj10 (by assumption) | exact cj11 (by assumption) | exact cj12 (by assumption) | exact cj13 (by assumption) | exact cj14 (by assumption) | exact cj15 (by assumption) | exact cj16 (by assumption) | exact cl1 (by assumption) | exact cl2 (by assumption) | exact cl3 (by assumption) | exact cl4 (by assumption) | exact cl5 (by assumption) | exact cl6 (by assumption) | exact cl7 (by assumption) | exact cl8 (by assumption) | exact cl9 (by assumption) | exact cl10 (by assumption) | exact cl11 (by assumption) | exact cl12 (by assumption) | exact cl13 (by assumption) | exact cl14 (by assumption) | exact cl15 (by assumption) | exact cl16 (by assumption) | exact ct0t0x (by assumption) | exact ct0t1x (by assumption) | exact ct0t2x (by assumption) | exact ct1t0x (by assumption) | exact ct1t1x (by assumption) | exact ct1t2x (by assumption) | exact ct2t0x (by assumption) | exact ct2t1x (by assumption) | exact ct2t2x (by assumption) | exact ct3t0x (by assumption) | exact ct3t1x (by assumption) | exact ct3t2x (by assumption) | exact ct4t0x (by assumption) | exact ct4t1x (by assumption) | exact ct4t2x (by assumption)))
  k_with "ne" => ((refine neN ?_; (try dsimp only); first | with_reducible (first | assumption | exact ngt (by assumption) | exact nlt (by assumption) | exact Ne.symm (by assumption)) | with_reducible (first | exact al0 (by assumption) | exact ar0 (by assumption) | exact al1 (by assumption) | exact ar1 (by assumption) | exact al2 (by assumption) | exact ar2 (by assumption) | exact al3 (by assumption) | exact ar3 (by assumption) | exact al4 (by assumption) | exact ar4 (by assumption) | exact al5 (by assumption) | exact ar5 (by assumption) | exact al6 (by assumption) | exact ar6 (by assumption) | exact al7 (by assumption) | exact ar7 (by assumption) | exact al8 (by assumption) | exact ar8 (by assumption) | exact al9 (by assumption) | exact ar9 (by assumption) | exact al10 (by assumption) | exact ar10 (by assumption) | exact al11 (by assumption) | exact ar11 (by assumption) | exact al12 (by assumption) | exact ar12 (by assumption) | exact al13 (by assumption) | exact ar13 (by assumption) | exact al14 (by assumption) | exact ar14 (by assumption) | exact al15 (by assumption) | exact ar15 (by assumption)) | with_reducible (first | exact at0 (by assumption) (by assumption) | exact au0 (by assumption) (by assumption) | exact at1 (by assumption) (by assumption) | exact au1 (by assumption) (by assumption) | exact at2 (by assumption) (by assumption) | exact au2 (by assumption) (by assumption) | exact at3 (by assumption) (by assumption) | exact au3 (by assumption) (by assumption) | exact at4 (by assumption) (by assumption) | exact au4 (by assumption) (by assumption) | exact at5 (by assumption) (by assumption) | exact au5 (by assumption) (by assumption) | exact at6 (by assumption) (by assumption) | exact au6 (by assumption) (by assumption) | exact at7 (by assumption) (by assumption) | exact au7 (by assumption) (by assumption)) | with_reducible (first | exact av0 (by assumption) | exact avs0 (by assumption) | exact av1 (by assumption) | exact avs1 (by assumption) | exact av2 (by assumption) | exact avs2 (by assumption) | exact av3 (by assumption) | exact avs3 (by assumption) | exact av4 (by assumption) | exact avs4 (by assumption) | exact av5 (by assumption) | exact avs5 (by assumption) | exact aw0 (by assumption) | exact aws0 (by assumption) | exact aw1 (by assumption) | exact aws1 (by assumption) | exact aw2 (by assumption) | exact aws2 (by assumption) | exact aw3 (by assumption) | exact aws3 (by assumption) | exact aw4 (by assumption) | exact aws4 (by assumption) | exact aw5 (by assumption) | exact aws5 (by assumption)) | (refine nlt ?_; k_data) | (refine ngt ?_; k_data) | k_data | (refine Ne.symm ?_; k_data) | (refine ngt1 ?_; k_data) | (refine ngt2 ?_; k_data) | (refine nlt1 ?_; k_data) | (refine nlt2 ?_; k_data) | omega))
  k_with "room" => (first | exact room_le2 (by assumption) (by exact rfl) | exact room_lt2 (by assumption) (by exact rfl) | exact room_le1 (by assumption) (by exact rfl) | exact room_lt1 (by assumption) (by exact rfl) | exact room_le3 (by assumption) (by exact rfl) | exact room_lt3 (by assumption) (by exact rfl) | exact room_ltF (by assumption) (by exact rfl) (by exact rfl))
  k_with "units" => (first | exact unit_le2 (by assumption) (by exact rfl) | exact unit_lt2 (by assumption) (by exact rfl) | exact unit_le1 (by assumption) (by exact rfl) | exact unit_lt1 (by assumption) (by exact rfl) | exact unit_le3 (by assumption) (by exact rfl) | exact unit_lt3 (by assumption) (by exact rfl) | exact unit_ltE (by assumption) (by exact rfl) (by exact rfl) | exact unit_ltF (by assumption) (by exact rfl) (by exact rfl))
  k_with "callWith ref nil nil" => (k_here; k_dflt (refine' callWith_K ?k1 ?k2 ?_; (case k1 => k_asm); (case k2 => k_is); k_whole))
  k_with "eval Name" => (k_here; k_dflt (refine' nameX_L ?F ?v ?_ ?a ?b; (case b => exact rfl); (case F => k_asm); (case a => rfl); (case v => rfl); k_whole))
  k_with "eval Name" => (k_here; k_dflt (refine' nameX_K ?F ?X ?T ?e ?_ ?a ?b; (case b => exact rfl); (case F => k_asm); (case X => k_asm); (case T => k_asm); (case a => rfl); (case e => k_is); k_whole))
  k_with "eval Name" => (k_here; k_dflt (refine' nameX_B ?F ?X ?T ?e ?v ?n ?_ ?a ?b; (case b => exact rfl); (case F => k_asm); (case X => k_asm); (case T => k_asm); (case a => rfl); (case e => k_is); (case v => boot_fast); (case n => decide); k_whole))
  k_with "subscriptTail Name Constant ref int" => (k_here; (with_reducible show wpAny _ _ (subscriptTail _ _ (Value.ref _) (Value.int _ _)) _ _ _); k_dflt (first | (refine' item_tupleT ?t ?a ?b ?c ?d ?_; (case t => first | with_reducible assumption | exact News.isTup (by k_asm) (by k_mem)); (case a => decide); (case b => decide); (case c => rfl); (case d => rfl); k_whole) | (refine' topTup_K ?F ?X ?l ?a ?b ?c ?d ?_; (case F => k_asm); (case X => k_asm); (case l => k_is); (case a => decide); (case b => decide); (case c => rfl); (case d => rfl)) | (refine' topList_K ?F ?X ?l ?a ?b ?d ?_; (case F => k_asm); (case X => k_asm); (case l => k_is); (case a => decide); (case b => decide); (case d => rfl); k_whole)))
  k_with "subscriptTail Name Constant ref int" => (k_here; (with_reducible show wpAny _ _ (subscriptTail _ _ (Value.ref _) (Value.int _ _)) _ _ _); (with_unfolding_all refine' item_litK ?k1 ?k2 ?k3 ?k4 ?_ ?k6; (case k1 => is_list); (case k2 => decide); (case k3 => decide); (case k4 => rfl); (case k6 => with_unfolding_all rfl); k_whole))
  k_with "call builtin:list.pop" => (k_here; k_dflt ((with_reducible show wpAny _ _ (call (Value.builtin _) [Value.ref _]) _ _ _); refine' kl_pop ?F ?N ?e ?U ?z ?_; (case F => k_asm); (case N => k_asm); (case U => k_upd); (case e => rfl); (case z => kl_room)); kl_rest)
  k_with "lt" => with_reducible (first | assumption | exact ll0 (by assumption) | exact ll1 (by assumption) | exact ll2 (by assumption) | exact ll3 (by assumption) | exact ll4 (by assumption) | exact ll5 (by assumption) | exact ll6 (by assumption) | exact ll7 (by assumption) | exact ll8 (by assumption) | exact ll9 (by assumption) | exact ll10 (by assumption) | exact ll11 (by assumption) | exact ll12 (by assumption) | exact ll13 (by assumption) | exact la0 (by assumption) | exact la1 (by assumption) | exact la2 (by assumption) | exact la3 (by assumption) | exact la4 (by assumption) | exact la5 (by assumption) | exact la6 (by assumption) | exact la7 (by assumption))
  k_with "keeplt" => skip
  k_with "ite" => with_reducible (first | refine ite_tt ?_ | refine ite_ff ?_)
  k_with "subscriptTail Attribute Name Name ref int" => (walk_at "last subscriptTail")
  k_with "callWith ref cons nil" => (k_here; k_dflt (refine' callWith_K ?k1 ?k2 ?_; (case k1 => k_asm); (case k2 => k_is); k_whole))
  k_with "call ref" => (k_here; (with_reducible show wpAny _ _ (call (Value.ref 1268) _) _ _ _); k_dflt (refine' take_F _ _ _ _ _ _ _ _ _ _ _ _ _ _ _ _ _ _ _ _ _ _ _ _ _ _ _ _ _ _ _ _ _ ?k1 ?k2 ?k3 ?k4 ?k5 ?k6 ?k7 ?k8 ?k9 ?k10 ?k11 ?k12 ?_; (case k1 => k_asm); (case k2 => k_asm); (case k3 => k_asm); (case k4 => k_asm); (case k5 => first | assumption | k_updF); (case k6 => k_asm); (case k7 => first | exact rfl | assumption); (case k8 => assumption); (case k9 => first | with_reducible assumption | decide | omega); (case k10 => first | with_reducible assumption | decide | omega); (case k11 => ktr_room); (case k12 => ktr_units); intro k' t' x' tx' y' ty' n' h' tk' F' N' P' hk0' hk1'; (try dsimp only at N'); (try dsimp only); (try k_fold)))
  k_with "call ref" => (k_here; (with_reducible show wpAny _ _ (call (Value.ref 1275) _) _ _ _); k_dflt (refine' one_F _ _ _ _ _ _ _ _ _ _ _ _ _ _ _ _ _ _ _ _ _ _ _ _ _ _ _ _ _ _ _ _ _ _ ?k1 ?k2 ?k3 ?k4 ?k5 ?k13 ?k14 ?k6 ?k7 ?k8 ?k9 ?k10 ?k11 ?k12 ?_; (case k1 => k_asm); (case k2 => k_asm); (case k3 => k_asm); (case k4 => k_asm); (case k5 => first | assumption | k_updF); (case k13 => k_mem); (case k14 => first | assumption | k_ne); (case k6 => k_asm); (case k7 => first | exact rfl | assumption); (case k8 => assumption); (case k9 => exact Nat.le_of_ble_eq_true rfl); (case k10 => exact Nat.le_of_ble_eq_true rfl); (case k11 => ktr_room); (case k12 => ktr_units); intro v' x' tx' y' ty' n' h' tk' hv' F' N' P'; (try dsimp only at N'); (try dsimp only); (try k_fold)))
  k_with "call ref" => (k_here; (with_reducible show wpAny _ _ (call (Value.ref 1301) _) _ _ _); k_dflt (refine' number_U _ _ _ _ _ _ _ _ _ _ _ _ _ _ _ _ _ _ _ _ _ _ _ _ _ _ _ _ _ _ _ ?k1 ?k2 ?k3 ?k4 ?k5 ?k6 ?k7 ?k8 ?k9 ?k10 ?_; (case k1 => k_asm); (case k2 => k_asm); (case k3 => k_asm); (case k4 => k_asm); (case k5 => first | assumption | k_updF); (case k6 => k_asm); (case k7 => first | exact rfl | assumption); (case k8 => assumption); (case k9 => ktr_room); (case k10 => ktr_units); intro D' b' i' j' z' ti' tj' t' x' y' tx' ty' n' h' tk' hz' F' N' P'; (try dsimp only at N'); (try dsimp only); (try k_fold)))
  k_with "exec Assign cons ListComp" => (k_here; k_dflt (refine LCg.Assign_ListComp_U (F₀ := by k_asm) (by rfl) (by with_unfolding_all rfl) (by with_unfolding_all rfl) (by decide) (by rfl) (by decide) (by rfl) (by rfl) (by rfl) ?_); k_dflt lcg_toSrc)
  k_with "eval ListComp" => (k_here; lcp_look; k_dflt (refine LCp.ListComp_P (F₀ := by k_asm) (by with_unfolding_all rfl) (by decide) (by rfl) (by decide) (by rfl) (by rfl) (by decide) ?_); k_dflt lcp_toSrc)
  k_with "compareOp NotEq ref ref" => (k_here; k_dflt (refine ne_len (News.isList (by k_asm) (by k_mem)) (News.isList (by k_asm) (by k_mem)) (by exact rfl) (by ktr_units) ?_))
  k_with "CompSrc" =>
    k_dflt (refine' LCg.CompSrc.range ?q1 ?q2 ?q3 ?q4 ?q5 ?q6 ?q7 ?_)
    (case q1 => k_dflt (exact rfl))
    (case q2 => k_dflt k_asm)
    (case q3 => k_dflt k_asm)
    (case q4 => k_dflt assumption)
    (case q5 => k_dflt (exact small_one (by omega) (by omega) (by omega) (by omega)))
    (case q6 => k_dflt (exact rangeSize_nat _ _))
    (case q7 => k_dflt (rw [PySem.sizeLine_eq]; omega))
    intro g'
    k_dflt (refine' pool_rest (src := src) (NodeV rest) ?q1 ?q2 ?_ ?_)
    (case q1 => k_dflt k_updF)
    (case q2 => k_dflt assumption)
    (intro k' t' x' y' tx' ty' n' I' oI' C' oC' D' m' ys' h' tk' E' hC' hx' F' N' off' ne' P')
    (try dsimp only at off')
    (try simp only [LCg.Off3, and_true] at off')
    (try dsimp only at N')
    rotate_left
    (intro ys' x' y' tx' ty' n' hl' hp' P')
    (try dsimp only)
    rotate_left
  refine wpAny_call ?_
  k_dflt (refine' code_defC ?k1 ?k2 ?k3 ?k4 ?k5 ?kA ?kF ?kK ?k6 ?k7 ?k8 ?k9 ?kB ?kD ?_ ?c2 ?c3 ?c4; (case kA => exact rfl); (case kF => exact rfl); (case kK => assumption); (case k1 => k_asm); (case k2 => k_asm); (case k3 => assumption); (case k4 => k_asm); (case k5 => assumption); (case k6 => k_is); (case k7 => k_is); (case k8 => ktr_room); (case k9 => exact BindsTo.of_eq rfl); (case kB => exact rfl); (case kD => decide +kernel); (case c2 => exact rfl); (case c3 => exact rfl); (case c4 => exact rfl); k_whole)
  intro g' L' h' tk' cells' FG' F' N' Y' B' X' T' l1
  (try k_lt l1)
  k_cells Y'
  (try simp only [List.cons_append, List.nil_append] at N')
  (try dsimp only)
  (try k_fold)
  iterate 30 (first | walk1 | (dsimp only; walk1))
  all_goals (try (refine And.intro (by assumption) ?_))
  all_goals (iterate 3 (try (first | walk1 | (dsimp only; walk1))))
  rotate_left
  iterate 60 (first | walk1 | (dsimp only; walk1) | skip)
  rotate_left
  iterate 84 (first | walk1 | (dsimp only; walk1) | skip)
  rotate_left
  iterate 40 (first | walk1 | (dsimp only; walk1) | skip)
  rotate_left 3
  · iterate 12 (first | walk1 | (dsimp only; walk1) | skip)
    (show LCg.CompEnd _ _ _ _ _ _ _ _ _ _ _ _ _ _)
    refine LCg.CompEnd.intro (by assumption) (by assumption) _ sub_self (by assumption) trivial ⟨nodeV_of m0 m1 m2 m3 m4 (by assumption), _, _, _, _, _, by assumption, rfl⟩
  · intro D'' h'' tk'' F'' N'' O''
    rcases few hl' (by assumption) with rfl | ⟨v1, rfl⟩ | ⟨v1, v2, rfl⟩
    · try dsimp only
      iterate 60 (first | walk1 | (dsimp only; walk1) | skip)
      exact ret _ _ _ _ _ _ _ _ _ _ _ _ _ (.none (.head _)) (freshT_of (by assumption)) (by assumption) (news_sub (by assumption) (sub_cons (by k_dflt k_mem) (sub_cons (by k_dflt k_mem) (sub_cons (by k_dflt k_mem) (by repeat (first | exact sub_self | refine sub_tail ?_)))))) (by assumption)
    · obtain ⟨q1, n1, a1, z1, b1, rfl, hm1, hz1⟩ := hp' _ (.head _)
      try dsimp only
      iterate 10 (first | walk1 | (dsimp only; walk1) | skip)
      (show LCg.CompEnd _ _ _ _ _ _ _ _ _ _ _ _ _ _)
      k_dflt (refine LCg.CompEnd.intro (by assumption) (by assumption) _ sub_self (by assumption) (.inr ⟨_, by k_dflt k_mem, rfl, _, rfl⟩) ?_)
      iterate 60 (first | walk1 | (dsimp only; walk1) | skip)
      exact ret _ _ _ _ _ _ _ _ _ _ _ _ _ (.one (.head _) hz1) (freshT_of (by assumption)) (by assumption) (news_sub (by assumption) (sub_cons (by k_dflt k_mem) (sub_cons (by k_dflt k_mem) (sub_cons (by k_dflt k_mem) (by repeat (first | exact sub_self | refine sub_tail ?_)))))) (by assumption)
    · obtain ⟨q1, n1, a1, z1, b1, rfl, hm1, hz1⟩ := hp' _ (.head _)
      obtain ⟨q2, n2, a2, z2, b2, rfl, hm2, hz2⟩ := hp' _ (.tail _ (.head _))
      try dsimp only
      iterate 10 (first | walk1 | (dsimp only; walk1) | skip)
      (show LCg.CompEnd _ _ _ _ _ _ _ _ _ _ _ _ _ _)
      k_dflt (refine LCg.CompEnd.intro (by assumption) (by assumption) _ sub_self (by assumption) (.inr ⟨_, by k_dflt k_mem, rfl, _, rfl⟩) ?_)
      iterate 3 (first | walk1 | (dsimp only; walk1) | skip)
      (show LCg.CompEnd _ _ _ _ _ _ _ _ _ _ _ _ _ _)
      k_dflt (refine LCg.CompEnd.intro (by assumption) (by assumption) _ sub_self (by assumption) (.inr ⟨_, by k_dflt k_mem, rfl, _, rfl⟩) ?_)
      iterate 60 (first | walk1 | (dsimp only; walk1) | skip)
      exact ret _ _ _ _ _ _ _ _ _ _ _ _ _ (.two (.head _) hz1) (freshT_of (by assumption)) (by assumption) (news_sub (by assumption) (sub_cons (by k_dflt k_mem) (sub_cons (by k_dflt k_mem) (sub_cons (by k_dflt k_mem) (by repeat (first | exact sub_self | refine sub_tail ?_)))))) (by assumption)
  · exact num_fin (by assumption) (by k_dflt k_mem) (by k_dflt k_mem) (by k_dflt k_mem) (by repeat (first | exact sub_self | refine sub_tail ?_)) (by assumption) (by assumption) (by assumption) ret
  · (rename (_ ∈ _) => hv9)
    rcases List.mem_cons.mp hv9 with rfl | hv9
    · exact pair_fin (by assumption) (by k_dflt k_mem) (by k_dflt k_mem) (by repeat (first | exact sub_self | refine sub_tail ?_)) (fun _ => .tt) (by assumption) (by assumption) ret
    · rw [List.mem_singleton.mp hv9]
      exact pair_fin (by assumption) (by k_dflt k_mem) (by k_dflt k_mem) (by repeat (first | exact sub_self | refine sub_tail ?_)) (fun _ => .ff) (by assumption) (by assumption) ret
  · (rename (_ ∈ _) => hv9)
    rcases List.mem_cons.mp hv9 with rfl | hv9
    · exact pair_fin (by assumption) (by k_dflt k_mem) (by k_dflt k_mem) (by repeat (first | exact sub_self | refine sub_tail ?_)) (fun _ => .str (by decide)) (by assumption) (by assumption) ret
    · rw [List.mem_singleton.mp hv9]
      exact pair_fin (by assumption) (by k_dflt k_mem) (by k_dflt k_mem) (by repeat (first | exact sub_self | refine sub_tail ?_)) (fun _ => .str (by decide)) (by assumption) (by assumption) ret
end
end

section -- L1
open PySem PySem.W PyProof.Rows PySem.Calls PySem.Spec
section
variable {prog : Program} {w : World} {A : Around} {E : Value → Shared → Prop} {h₀ : Heap} {env : Env} {x : Str} {body : List Stmt} {Q : Flow → Shared → Prop} {s : Shared} {I : Addr} {a : Int} {n : Nat}
/-- a for over a range, by an invariant of the turn's number, the names and the ledger -/
theorem range_inv (Inv : Nat → (Str → Option Value) → List (Addr × Obj) → Prop)
    (turn : ∀ i m news t h tk, i < n → Inv i m news → Fr h₀ env.locals h (fun y => if y = x then some (.int (a + (i : Int)) t) else m y) →
      News h₀ env.locals h ((I, itR (a + ((i + 1 : Nat) : Int)) ((n : Int) - ((i + 1 : Nat) : Int))) :: news) →
      wpAny (model prog w) A (execs body env) (UnrPost h₀ env.locals { s with heap := h, toks := tk } I (itR (a + ((i + 1 : Nat) : Int)) ((n : Int) - ((i + 1 : Nat) : Int))) (Inv (i + 1)) Q) E { s with heap := h, toks := tk })
    (fin : ∀ m news h tk, Inv n m news → Fr h₀ env.locals h m → News h₀ env.locals h news → Q .next { s with heap := h, toks := tk }) :
    ∀ k i m news, i + k = n → Inv i m news → RangeRest prog w A E h₀ env x body Q s I a n k i m news := by
  intro k
  induction k with
  | zero =>
    intro i m news hk hi
    obtain rfl : i = n := by omega
    exact RangeRest.zero fun h tk F N => fin m news h tk hi F N
  | succ k ih =>
    intro i m news hk hi
    refine RangeRest.succ fun t h tk F N => ?_
    refine wpAny_mono (turn i m news t h tk (by omega) hi F N) (fun f s₂ hq => ?_) fun _ _ e => e
    have fin' : UnrEnd h₀ env.locals { s with heap := h, toks := tk } I (itR (a + ((i + 1 : Nat) : Int)) ((n : Int) - ((i + 1 : Nat) : Int))) (Inv (i + 1)) s₂ →
        UnrEnd h₀ env.locals { s with heap := h, toks := tk } I (itR (a + ((i + 1 : Nat) : Int)) ((n : Int) - ((i + 1 : Nat) : Int))) (RangeRest prog w A E h₀ env x body Q s I a n k (i + 1)) s₂ := by
      rintro ⟨h', tk', m', n', e, F', N', off', hI⟩
      exact ⟨h', tk', m', n', e, F', N', off', ih (i + 1) m' n' (by omega) hI⟩
    cases f with
    | ret v => exact hq
    | brk => exact hq
    | next => exact fin' hq
    | cont => exact fin' hq
end
/-- what holds between the turns of the law's loop -/
noncomputable abbrev turnS : Str := Str.ofString "turn"
noncomputable abbrev dueS : Str := Str.ofString "due"
noncomputable abbrev loopNames : List Str := [Str.ofString "turn", Str.ofString "way", Str.ofString "word", Str.ofString "told", Str.ofString "text"]
noncomputable abbrev mLoop (u m0 : Str → Option Value) (due : Value) : Str → Option Value := fun z => if z = dueS then some due else if loopNames.contains z then u z else m0 z
structure LoopLed (w : World) (kvs : List (Str × Value)) (oV : Obj) (ps : List Value) (xs : List Str) (i : Nat) (src V P PT I : Addr) (led0 led : List (Addr × Obj)) : Prop where
  parts : PartsV (PartTells w led kvs) ps xs
  len : ps.length = i
  dict : oV.IsDictOf (PySem.strKind PySem.Challenge.rw_xm0674_01.prog w) kvs
  size : kvs.length ≤ i
  free : ∀ j, i ≤ j → j < 5 → valueAt kvs (nmV j) = none
  noW : valueAt kvs (Str.ofString "w") = none
  base : ∀ q ∈ led0, q ∈ led
  offS : ∀ q ∈ led, q.1 ≠ src
  offV : ∀ q ∈ led, q.1 ≠ V
  offP : ∀ q ∈ led, q.1 ≠ P
  offT : ∀ q ∈ led, q.1 ≠ PT
  offI : ∀ q ∈ led, q.1 ≠ I
noncomputable abbrev headsL (src V P PT : Addr) (x y : Int) (tx ty : Tok) (n : Nat) (oV : Obj) (ps : Array Value) (np : Nat) (led : List (Addr × Obj)) : List (Addr × Obj) :=
  (src, pool x y tx ty n) :: (V, oV) :: (P, listOf ps np) :: (PT, tabObj #[]) :: led
noncomputable def LoopInv (w : World) (m0 : Str → Option Value) (src V P PT I : Addr) (led0 : List (Addr × Obj)) (i : Nat) (m : Str → Option Value) (news : List (Addr × Obj)) : Prop :=
  ∃ u x y tx ty n oV kvs ps xs np td led, m = mLoop u m0 (.str (Str.join (Str.ofString "") xs) td) ∧ news = headsL src V P PT x y tx ty n oV (List.toArray ps) np led ∧ Pool x y ∧ LoopLed w kvs oV ps xs i src V P PT I led0 led
theorem mLoop_self {m0 : Str → Option Value} {v : Value} (h : m0 dueS = some v) : mLoop m0 m0 v = m0 := by
  funext z
  show (if z = dueS then some v else if loopNames.contains z then m0 z else m0 z) = m0 z
  by_cases e : z = dueS
  · rw [if_pos e, e, h]
  · rw [if_neg e]; split <;> rfl
theorem join_len {l : List Str} (h : ∀ a ∈ l, a.length ≤ 17) : (Str.join (Str.ofString "") l).length ≤ 17 * l.length := by
  induction l with
  | nil => rw [join_nil]; decide
  | cons a r ih =>
    rw [join_cons, PySem.Str.length_append]
    have h1 := h a (.head _)
    have h2 := ih fun b hb => h b (.tail _ hb)
    simp only [List.length_cons]
    omega
theorem LoopLed.due {w : World} {kvs : List (Str × Value)} {oV : Obj} {ps : List Value} {xs : List Str} {i : Nat} {src V P PT I : Addr} {led0 led : List (Addr × Obj)} (X : LoopLed w kvs oV ps xs i src V P PT I led0 led) : (Str.join (Str.ofString "") xs).length ≤ 17 * i := by
  have h1 := X.parts.len17
  have h2 := join_len h1.1
  rw [h1.2, X.len] at h2
  exact h2
section
variable {w : World} {A : Around} {E : Value → Shared → Prop} {h₀ : Heap} {env : Env} {body : List Stmt} {Q : Flow → Shared → Prop} {s : Shared}
theorem loop_start {src V P PT r : Addr} {k : Int} {t₀ u₀ v₀ : Tok} {m0 : Str → Option Value} {all led0 : List (Addr × Obj)} {td : Tok} {x y : Int} {tx ty : Tok} {n np : Nat} {oV : Obj}
    (hh : A.handled = none) (hr : IsRange s.heap r 0 k 1 t₀ u₀ v₀) (hk0 : 0 ≤ k) (hk1 : k < 6) (F : Fr h₀ env.locals s.heap m0) (N : News h₀ env.locals s.heap all)
    (_hv : m0 (Str.ofString "variables") = some (.ref V)) (_hp : m0 (Str.ofString "parts") = some (.ref P)) (hdue : m0 dueS = some (.str (Str.ofString "") td))
    (hs : (src, pool x y tx ty n) ∈ all) (hVm : (V, oV) ∈ all) (hPm : (P, listOf #[] np) ∈ all) (hPT : (PT, tabObj #[]) ∈ all) (hled : ∀ q ∈ led0, q ∈ all)
    (oS : ∀ q ∈ led0, q.1 ≠ src) (oV' : ∀ q ∈ led0, q.1 ≠ V) (oP : ∀ q ∈ led0, q.1 ≠ P) (oT : ∀ q ∈ led0, q.1 ≠ PT) (hVd : oV.IsDictOf (PySem.strKind PySem.Challenge.rw_xm0674_01.prog w) []) (hx : Pool x y)
    (turn : ∀ (I : Addr) (i : Nat) u x y tx ty n oV kvs ps xs np td led t it h tk, i < 5 → it.cls = .type "range_iterator" → Pool x y → LoopLed w kvs oV ps xs i src V P PT I led0 led → @LT.lt Nat _ src I → @LT.lt Nat _ V I → @LT.lt Nat _ P I → @LT.lt Nat _ PT I →
      Fr h₀ env.locals h (fun z => if z = turnS then some (.int (i : Int) t) else mLoop u m0 (.str (Str.join (Str.ofString "") xs) td) z) →
      News h₀ env.locals h ((I, it) :: headsL src V P PT x y tx ty n oV (List.toArray ps) np led) →
      wpAny (model PySem.Challenge.rw_xm0674_01.prog w) A (execs body env) (UnrPost h₀ env.locals { s with heap := h, toks := tk } I it (LoopInv w m0 src V P PT I led0 (i + 1)) Q) E { s with heap := h, toks := tk })
    (fin : ∀ (I : Addr) (i : Nat) u x y tx ty n oV kvs ps xs np td led h tk, i ≤ 5 → Pool x y → LoopLed w kvs oV ps xs i src V P PT I led0 led →
      Fr h₀ env.locals h (mLoop u m0 (.str (Str.join (Str.ofString "") xs) td)) → News h₀ env.locals h (headsL src V P PT x y tx ty n oV (List.toArray ps) np led) → Q .next { s with heap := h, toks := tk }) :
    wpAny (model PySem.Challenge.rw_xm0674_01.prog w) A (pyIter (.ref r)) (fun it s₂ => LoopAtV PySem.Challenge.rw_xm0674_01.prog w A h₀ env turnS body Q E it s₂) E s := by
  have N2 : News h₀ env.locals s.heap (headsL src V P PT x y tx ty n oV #[] np led0) := fun q hq => by
    simp only [List.mem_cons] at hq
    rcases hq with rfl | rfl | rfl | rfl | hq
    · exact N _ hs
    · exact N _ hVm
    · exact N _ hPm
    · exact N _ hPT
    · exact N _ (hled q hq)
  refine iter_rangeUnr (n := (k - 0).toNat) hh hr (small_one (by omega) (by omega) (by omega) (by omega)) (rangeSize_nat _ _) F N2 fun I hI => ?_
  refine range_inv (LoopInv w m0 src V P PT I led0) (fun i m news t h tk hi hin F' N' => ?_) (fun m news h tk hin F' N' => ?_) _ 0 m0 _ (by omega) ?_
  · obtain ⟨u, x, y, tx, ty, n, oV, kvs, ps, xs, np, td, led, rfl, rfl, hP, hL⟩ := hin
    rw [Int.zero_add] at F'
    exact turn I i u x y tx ty n oV kvs ps xs np td led t _ h tk (by omega) rfl hP hL (hI _ (.head _)) (hI _ (.tail _ (.head _))) (hI _ (.tail _ (.tail _ (.head _)))) (hI _ (.tail _ (.tail _ (.tail _ (.head _))))) F' N'
  · obtain ⟨u, x, y, tx, ty, n, oV, kvs, ps, xs, np, td, led, rfl, rfl, hP, hL⟩ := hin
    exact fin I _ u x y tx ty n oV kvs ps xs np td led h tk (by omega) hP hL F' N'
  · refine ⟨m0, x, y, tx, ty, n, oV, [], [], [], np, td, led0, ?_, rfl, hx, ⟨.nil, rfl, hVd, Nat.le_refl _, fun _ _ _ => rfl, rfl, fun q hq => hq, oS, oV', oP, oT, fun q hq => Nat.ne_of_lt (hI q (.tail _ (.tail _ (.tail _ (.tail _ hq)))))⟩⟩
    rw [join_nil]
    exact (mLoop_self hdue).symm
end
end

section -- X1
open PySem PySem.W PyProof.Rows PySem.Calls PySem.Spec
theorem call_path {w : World} {A : Around} {s : Shared} {msg : Str} {t : Tok} {E₁ E : Value → Shared → Prop} (h1 : A.handled = none) (h2 : A.depth ≤ 900) (h5 : A.units ≤ 1000) (X : (KK w.params).In s.heap)
    (h : ∀ h' e tk', MadeF s.heap h' e 317 → E₁ (.ref e) { s with heap := h', toks := tk' }) : wpAny (model PySem.Challenge.rw_xm0674_01.prog w) A (call (.ref 317) [.str msg t]) (RaisableF E₁) E s :=
  wpAny_weaken (mk_path X fun h' e tk' hm => raisableF_of hm (isFault_317 (Frag.In.keeps X hm.keeps)) (h h' e tk' hm)) h1 h2 rfl rfl h5
theorem RaisedU.sub {base : Heap} {l : List Env} {e : Addr} {cls a0 : Value} {news news' : List (Addr × Obj)} {g h : Heap} (R : RaisedU base l e cls a0 news g h) (s : ∀ q ∈ news', q ∈ news) : RaisedU base l e cls a0 news' g h := by
  obtain ⟨B, h1, h2, h3⟩ := R
  exact ⟨B, h1, fun q hq => h2 q (s q hq), h3⟩
section
variable {w : World} {p : Program} {loose : List Str} {mean : ExcName → Option Value} {mg mb : Str → Option Value}
    {dp un : Nat} {gd : Option (List Code)} {cn : Str} {cs : Scope} {a : Addr} {ccd : Value} {cl : List (Str × Addr)} {outer : List Env} {A₀ : Around} {base h₀ : Heap} {L : Addr} {m : Str → Option Value} {s : Shared}
    {Q E : Value → Shared → Prop}
set_option maxHeartbeats 0 in
theorem eval_bad {led : List (Addr × Obj)} {b db X0 dX V : Addr} {nm : Str} {tn kt k0 k1 k2 k3 k4 k5 k6 k7 k8 : Tok} {tr nd po sz nms ca cu ids : Value} {oV : Obj} {kvs : List (Str × Value)}
    (B : Below A₀ base outer h₀) (F : Fr h₀ L s.heap m) (X : (KK w.params).In h₀) (N : News h₀ L s.heap ((b, instObj 775 db) :: (db, dictOf [ent w (Str.ofString "name") kt (.str nm tn)] 1) :: (X0, instObj 1039 dX) :: (dX, ctxD w tr nd po sz V nms ca cu ids k0 k1 k2 k3 k4 k5 k6 k7 k8) :: (V, oV) :: led))
    (hV : oV.IsDictOf (PySem.strKind PySem.Challenge.rw_xm0674_01.prog w) kvs) (hlo : (V == sysModules) = false) (hnl : nm.length ≤ 20) (hnr : Txt.rpartition nm (Str.ofString ":") = (Str.ofString "", Str.ofString "", nm)) (hb : (valueAt kvs nm).isSome = false)
    (T : Top p loose mean mg mb h₀) (hk : cs.kind = .function) (hd : dp + 20 ≤ 900) (hu : un + 200 ≤ 1000)
    (exc : ∀ g e a0 h' tk', Fr h₀ L g m → RaisedU base (envX cn cs L a ccd cl :: outer) e (.ref 317) a0 led g h' → E (.ref e) { s with heap := h', toks := tk' }) :
    wpAny (model PySem.Challenge.rw_xm0674_01.prog w) (ktrTop dp un gd cn cs L a ccd cl outer) (call (.ref 979) [.ref b, .ref X0]) Q E s := by
  k_with_none
  k_with "memR" => (first | with_reducible assumption | exact List.Mem.head _ | (refine' List.Mem.tail _ ?_; k_extra "memR"))
  k_with "memD" => (first | exact List.Mem.head _ | assumption | (refine' List.Mem.tail _ ?_; k_extra "memD"))
  k_with "mem" => (first | k_extra "memR" | k_extra "memD")
  k_with "allR" => (first | assumption | exact List.forall_mem_nil _ | (refine' List.forall_mem_cons.mpr ⟨?a, ?b⟩; (case a => first | with_reducible assumption | k_ne); (case b => k_extra "allR")))
  k_with "all" => (k_extra "allR")
  k_with "cj" => (with_reducible (first | assumption | exact cj0 (by assumption) | exact cj1 (by assumption) | exact cj2 (by assumption) | exact cj3 (by assumption) | exact cj4 (by assumption) | exact cj5 (by assumption) | exact cj6 (by assumption) | exact cj7 (by assumption) | exact cj8 (by assumption) | exact cj9 (by assumption) | exact cj10 (by assumption) | exact cj11 (by assumption) | exact cj12 (by assumption) | exact cj13 (by assumption) | exact cj14 (by assumption) | exact cj15 (by assumption) | exact cj16 (by assumption) | exact cl1 (by assumption) | exact cl2 (by assumption) | exact cl3 (by assumption) | exact cl4 (by assumption) | exact cl5 (by assumption) | exact cl6 (by assumption) | exact cl7 (by assumption) | exact cl8 (by assumption) | exact cl9 (by assumption) | exact cl10 (by assumption) | exact cl11 (by assumption) | exact cl12 (by assumption) | exact cl13 (by assumption) | exact cl14 (by assumption) | exact cl15 (by assumption) | exact cl16 (by assumption) | exact ct0t0x (by assumption) | exact ct0t1x (by assumption) | exact ct0t2x (by assumption) | exact ct1t0x (by assumption) | exact ct1t1x (by assumption) | exact ct1t2x (by assumption) | exact ct2t0x (by assumption) | exact ct2t1x (by assumption) | exact ct2t2x (by assumption) | exact ct3t0x (by assumption) | exact ct3t1x (by assumption) | exact ct3t2x (by assumption) | exact ct4t0x (by assumption) | exact ct4t1x (by assumption) | exact ct4t2x (by assumption)))
  k_with "ne" => ((refine neN ?_; (try dsimp only); first | with_reducible (first | assumption | exact ngt (by assumption) | exact nlt (by assumption) | exact Ne.symm (by assumption)) | (refine ngt ?_; k_data) | (refine nlt ?_; k_data) | k_data | (refine Ne.symm ?_; k_data) | (refine ngt1 ?_; k_data) | (refine ngt2 ?_; k_data) | (refine nlt1 ?_; k_data) | (refine nlt2 ?_; k_data) | omega))
  k_with "room" => (first | exact room_le2 (by assumption) (by exact rfl) | exact room_lt2 (by assumption) (by exact rfl) | exact room_le1 (by assumption) (by exact rfl) | exact room_lt1 (by assumption) (by exact rfl) | exact room_le3 (by assumption) (by exact rfl) | exact room_lt3 (by assumption) (by exact rfl) | exact room_ltF (by assumption) (by exact rfl) (by exact rfl))
  k_with "units" => (first | exact unit_le2 (by assumption) (by exact rfl) | exact unit_lt2 (by assumption) (by exact rfl) | exact unit_le1 (by assumption) (by exact rfl) | exact unit_lt1 (by assumption) (by exact rfl) | exact unit_le3 (by assumption) (by exact rfl) | exact unit_lt3 (by assumption) (by exact rfl) | exact unit_ltE (by assumption) (by exact rfl) (by exact rfl) | exact unit_ltF (by assumption) (by exact rfl) (by exact rfl))
  k_with "callWith ref nil nil" => (k_here; k_dflt (refine' callWith_K ?k1 ?k2 ?_; (case k1 => k_asm); (case k2 => k_is); k_whole))
  k_with "eval Name" => (k_here; k_dflt (refine' nameX_L ?F ?v ?_ ?a ?b; (case b => exact rfl); (case F => k_asm); (case a => rfl); (case v => rfl); k_whole))
  k_with "eval Name" => (k_here; k_dflt (refine' nameX_K ?F ?X ?T ?e ?_ ?a ?b; (case b => exact rfl); (case F => k_asm); (case X => k_asm); (case T => k_asm); (case a => rfl); (case e => k_is); k_whole))
  k_with "eval Name" => (k_here; k_dflt (refine' nameX_B ?F ?X ?T ?e ?v ?n ?_ ?a ?b; (case b => exact rfl); (case F => k_asm); (case X => k_asm); (case T => k_asm); (case a => rfl); (case e => k_is); (case v => boot_fast); (case n => decide); k_whole))
  k_with "subscriptTail Name Constant ref int" => (k_here; (with_reducible show wpAny _ _ (subscriptTail _ _ (Value.ref _) (Value.int _ _)) _ _ _); k_dflt (first | (refine' item_tupleT ?t ?a ?b ?c ?d ?_; (case t => first | with_reducible assumption | exact News.isTup (by k_asm) (by k_mem)); (case a => decide); (case b => decide); (case c => rfl); (case d => rfl); k_whole) | (refine' topTup_K ?F ?X ?l ?a ?b ?c ?d ?_; (case F => k_asm); (case X => k_asm); (case l => k_is); (case a => decide); (case b => decide); (case c => rfl); (case d => rfl)) | (refine' topList_K ?F ?X ?l ?a ?b ?d ?_; (case F => k_asm); (case X => k_asm); (case l => k_is); (case a => decide); (case b => decide); (case d => rfl); k_whole)))
  k_with "subscriptTail Name Constant ref int" => (k_here; (with_reducible show wpAny _ _ (subscriptTail _ _ (Value.ref _) (Value.int _ _)) _ _ _); (with_unfolding_all refine' item_litK ?k1 ?k2 ?k3 ?k4 ?_ ?k6; (case k1 => is_list); (case k2 => decide); (case k3 => decide); (case k4 => rfl); (case k6 => with_unfolding_all rfl); k_whole))
  k_with "call builtin:list.pop" => (k_here; k_dflt ((with_reducible show wpAny _ _ (call (Value.builtin _) [Value.ref _]) _ _ _); refine' kl_pop ?F ?N ?e ?U ?z ?_; (case F => k_asm); (case N => k_asm); (case U => k_upd); (case e => rfl); (case z => kl_room)); kl_rest)
  k_with "lt" => with_reducible (first | assumption | exact ll0 (by assumption) | exact ll1 (by assumption) | exact ll2 (by assumption) | exact ll3 (by assumption) | exact ll4 (by assumption) | exact ll5 (by assumption) | exact ll6 (by assumption) | exact ll7 (by assumption) | exact ll8 (by assumption) | exact ll9 (by assumption) | exact ll10 (by assumption) | exact ll11 (by assumption) | exact ll12 (by assumption) | exact ll13 (by assumption) | exact la0 (by assumption) | exact la1 (by assumption) | exact la2 (by assumption) | exact la3 (by assumption) | exact la4 (by assumption) | exact la5 (by assumption) | exact la6 (by assumption) | exact la7 (by assumption))
  k_with "ite" => with_reducible (first | refine ite_tt ?_ | refine ite_ff ?_)
  k_with "subscriptTail Attribute Name Name ref int" => (walk_at "last subscriptTail")
  k_with "callWith ref cons nil" => (k_here; k_dflt (refine' callWith_K ?k1 ?k2 ?_; (case k1 => k_asm); (case k2 => k_is); k_whole))
  k_with "call builtin:str.rpartition" => (k_here; (with_reducible rename Txt.rpartition _ _ = _ => hr'); (with_reducible rename Str.length _ ≤ 20 => hl'); k_dflt (refine KXpa.rpartition (by k_asm) (by k_asm) (by decide) (by rw [hr']) (by rw [hr']) (by rw [hr']) (by rw [PySem.sizeLine_eq]; omega) ?_); intro D' _ _ _ _ _ F' N' l1; (try k_lt l1); (dsimp only at N'))
  k_with "compareOp NotIn str ref" => (k_here; k_dflt (refine kdg_notin (knd := PySem.strKind _ _) (by k_asm) (by k_mem) (by assumption) (by assumption) (strKind_is _ _ _ _) false (by assumption) ?_); (try dsimp only [Bool.not_true, Bool.not_false]))
  k_with "exec Raise some none" => (k_here; k_dflt (refine' raise_F ?k1 ?_; (case k1 => exact rfl)))
  k_with "call ref" => (k_here; (with_reducible show wpAny _ _ (call (Value.ref 317) _) _ _ _); k_dflt (refine' call_path ?k1 ?k2 ?k3 ?k4 ?_; (case k1 => exact rfl); (case k2 => ktr_room); (case k3 => ktr_units); (case k4 => k_in); k_whole); intro h' e' tk' M')
  k_with "leaving ref" => (k_here; first | (k_dflt (refine' leave_U3 ?k1 ?k2 ?kf ?k3 ?_; (case k3 => assumption); (case k2 => assumption); (case k1 => assumption); (case kf => exact rfl); k_whole); intro h' R'; (try dsimp only at R' ⊢)) | (k_dflt (refine' leave_U ?k1 ?k2 ?k3 ?k4 ?_; (case k2 => assumption); (case k1 => assumption); (case k3 => assumption); (case k4 => k_asm); k_whole); intro h' a0' R'; (try dsimp only at R' ⊢)))
  refine wpAny_call ?_
  k_dflt ktr_enter
  repeat' (first | walk1 | (dsimp only; walk1))
  all_goals exact exc _ _ _ _ _ (by assumption) (RaisedU.sub (by assumption) (by repeat (first | exact sub_self | refine sub_tail ?_)))
end
end

section -- X2
open PySem PySem.W PyProof.Rows PySem.Calls PySem.Spec
section
variable {prog : Program} {w : World} {A : Around} {E : Value → Shared → Prop} {h₀ : Heap} {env : Env} {target : Expr} {body : List Stmt} {Q : Flow → Shared → Prop} {s : Shared} {keep : List (Addr × Obj)} {I FD : Addr} {news0 : List (Addr × Obj)} {m0 : Str → Option Value} {R : Value → Str → Prop}
theorem parts_bad {ps : List Value} {xs : List Str} {n : Nat} {bad : Value} (hg : PartsV R ps xs) (hl : ps.length ≤ 6) (sub : ∀ o, SubL keep ((FD, o) :: news0))
    (turn : ∀ v x u vs xs n it h tk, R v x → StrsV vs xs → vs.length ≤ 6 → it.cls = .type "list_iterator" → Fr h₀ env.locals h (mKT u m0) → News h₀ env.locals h ((I, it) :: (FD, listOf (List.toArray vs) n) :: news0) →
      wpAny (model prog w) A (assign target env v) (fun _ s₂ => wpAny (model prog w) A (execs body env) (UnrPostW h₀ env.locals { s with heap := h, toks := tk } [(I, it)]
        (fun m' n' => (∃ u', m' = mKT u' m0) ∧ ∃ t, n' = (FD, listOf (List.toArray (vs ++ [.str x t])) (n + 1)) :: news0) Q) E s₂) E { s with heap := h, toks := tk })
    (fin : ∀ (Z : Flow → Shared → Prop) u vs n it h tk, it.cls = .type "list_iterator" → Fr h₀ env.locals h (mKT u m0) → News h₀ env.locals h ((I, it) :: (FD, listOf (List.toArray vs) n) :: news0) →
      wpAny (model prog w) A (assign target env bad) (fun _ s₂ => wpAny (model prog w) A (execs body env) Z E s₂) E { s with heap := h, toks := tk }) :
    ItemsRest prog w A E h₀ env target body Q s [(I, "list_iterator")] keep ((ps ++ [bad]).map .val) m0 ((FD, listOf #[] n) :: news0) := by
  have h := parts_rest (rest := [bad]) sub turn hg (u := m0) (vs := []) (done := []) (n := n) .nil (by simpa using hl) fun u vs n' hv hl => ItemsRest.val fun h tk F => AllObj.cons fun it hc => AllObj.nil fun N => fin _ u vs n' it h tk hc F N
  rw [mKT_self] at h
  exact h
end
section
variable {w : World} {p : Program} {loose : List Str} {mean : ExcName → Option Value} {mg mb : Str → Option Value}
    {dp un : Nat} {gd : Option (List Code)} {cn : Str} {cs : Scope} {a : Addr} {ccd : Value} {cl : List (Str × Addr)} {outer : List Env} {A₀ : Around} {base h₀ : Heap} {L : Addr} {m : Str → Option Value} {s : Shared}
    {Q E : Value → Shared → Prop}
theorem eval_B {led : List (Addr × Obj)} {b db X0 dX V : Addr} {nm : Str} {tn kt k0 k1 k2 k3 k4 k5 k6 k7 k8 : Tok} {tr nd po sz nms ca cu ids : Value} {oV : Obj} {kvs : List (Str × Value)}
    (B : Below A₀ base outer h₀) (F : Fr h₀ L s.heap m) (X : (KK w.params).In h₀) (N : News h₀ L s.heap led) (hb1 : (b, instObj 775 db) ∈ led) (hb2 : (db, dictOf [ent w (Str.ofString "name") kt (.str nm tn)] 1) ∈ led) (hX0 : (X0, instObj 1039 dX) ∈ led) (hdX : (dX, ctxD w tr nd po sz V nms ca cu ids k0 k1 k2 k3 k4 k5 k6 k7 k8) ∈ led) (hVm : (V, oV) ∈ led)
    (hV : oV.IsDictOf (PySem.strKind PySem.Challenge.rw_xm0674_01.prog w) kvs) (hlo : (V == sysModules) = false) (hnm : NameOk nm) (hb : (valueAt kvs nm).isSome = false)
    (T : Top p loose mean mg mb h₀) (hk : cs.kind = .function) (hd : dp + 20 ≤ 900) (hu : un + 200 ≤ 1000)
    (exc : ∀ g e a0 h' tk', Fr h₀ L g m → RaisedU base (envX cn cs L a ccd cl :: outer) e (.ref 317) a0 led g h' → E (.ref e) { s with heap := h', toks := tk' }) :
    wpAny (model PySem.Challenge.rw_xm0674_01.prog w) (ktrTop dp un gd cn cs L a ccd cl outer) (call (.ref 979) [.ref b, .ref X0]) Q E s :=
  eval_bad B F X (news_more hb1 N (news_more hb2 N (news_more hX0 N (news_more hdX N (news_more hVm N N))))) hV hlo hnm.1 hnm.2 hb T hk hd hu exc
set_option maxHeartbeats 0 in
theorem value_no {led : List (Addr × Obj)} {T0 R : Addr} {xt : List Trip} {keep : List (Addr × Obj)} {P X0 dX V : Addr} {ps : List Value} {xs : List Str} {np : Nat} {k0 k1 k2 k3 k4 k5 k6 k7 k8 : Tok} {nd po sz nms ca cu ids : Value} {oV : Obj} {kvs : List (Str × Value)} {PT : Addr}
    {c' : Addr} {oc' : Obj} {vs' : Array Value} {tq : Tok} {pa b db : Addr} {kt tn up : Tok} {nm : Str}
    (B : Below A₀ base outer h₀) (F : Fr h₀ L s.heap m) (X : (KK w.params).In h₀) (G : TreeG w led T0 R xt rowsE keep) (N : News h₀ L s.heap ((c', oc') :: (PT, tabObj #[rawInt ((776 : Nat) : Int), rawInt ((25 : Nat) : Int), .ref c']) :: (P, listOf (List.toArray (ps ++ [.ref pa])) np) :: (X0, instObj 1039 dX) :: (dX, ctxD w (.ref T0) nd po sz V nms ca cu ids k0 k1 k2 k3 k4 k5 k6 k7 k8) :: (V, oV) :: led))
    (hcd : oc'.data = .fields vs') (hcq : vs'[1]? = some (.str (Str.ofString "value_of_avt.<locals>.<lambda>") tq))
    (hpa : (pa, tupO #[.str (Str.ofString "path") up, .ref b]) ∈ led) (hb1 : (b, instObj 775 db) ∈ led) (hb2 : (db, dictOf [ent w (Str.ofString "name") kt (.str nm tn)] 1) ∈ led) (hnm : NameOk nm) (hbn : (valueAt kvs nm).isSome = false)
    (CB : CodeHd base 999 PT) (hoff : ∀ q ∈ led, q.1 ≠ PT) (hP : @Ne Nat P PT) (hX0 : @Ne Nat X0 PT) (hdX : @Ne Nat dX PT) (hVP : @Ne Nat V PT) (hV : oV.IsDictOf (PySem.strKind PySem.Challenge.rw_xm0674_01.prog w) kvs) (hlo : (V == sysModules) = false)
    (hps : PartsV (PartTells w led kvs) ps xs) (hpl : ps.length ≤ 6)
    (T : Top p loose mean mg mb h₀) (XB : (KK w.params).In base) (TB : Top p loose mean mg mb base) (hk : cs.kind = .function) (hd : dp + 60 ≤ 900) (hu : un + 500 ≤ 1000)
    (ret : ∀ h₀' t h' tk', UpFr (frs outer) h₀ h₀' → Below A₀ base outer h₀' → Fr h₀' L h' m → News h₀' L h' ((PT, tabObj #[rawInt ((776 : Nat) : Int), rawInt ((25 : Nat) : Int), .ref c']) :: led) → Q (.str (Str.ofString "refused") t) { s with heap := h', toks := tk' }) :
    wpAny (model PySem.Challenge.rw_xm0674_01.prog w) (ktrTop dp un gd cn cs L a ccd cl outer) (call (.ref 1313) [.ref P, .ref X0]) Q E s := by
  k_with_none
  k_with "memR" => (first | with_reducible assumption | exact List.Mem.head _ | (refine' List.Mem.tail _ ?_; k_extra "memR"))
  k_with "memD" => (first | exact List.Mem.head _ | assumption | (refine' List.Mem.tail _ ?_; k_extra "memD"))
  k_with "mem" => (first | k_extra "memR" | k_extra "memD")
  k_with "allR" => (first | with_reducible assumption | exact List.forall_mem_nil _ | (refine' List.forall_mem_cons.mpr ⟨?a, ?b⟩; (case a => first | with_reducible assumption | k_ne); (case b => k_extra "allR")))
  k_with "all" => (first | with_reducible assumption | exact List.forall_mem_nil _ | with_reducible (first | exact aa0 (by assumption) | exact aa1 (by assumption) | exact aa2 (by assumption) | exact aa3 (by assumption) | exact aa4 (by assumption) | exact aa5 (by assumption) | exact aa6 (by assumption) | exact aa7 (by assumption) | exact ab0 (by assumption) (by assumption) | exact ab1 (by assumption) (by assumption)) | k_extra "allR" | assumption)
  k_with "cj" => (with_reducible (first | assumption | exact cj0 (by assumption) | exact cj1 (by assumption) | exact cj2 (by assumption) | exact cj3 (by assumption) | exact cj4 (by assumption) | exact cj5 (by assumption) | exact cj6 (by assumption) | exact cj7 (by assumption) | exact cj8 (by assumption) | exact cj9 (by assumption) | exact cj10 (by assumption) | exact cj11 (by assumption) | exact cj12 (by assumption) | exact cj13 (by assumption) | exact cj14 (by assumption) | exact cj15 (by assumption) | exact cj16 (by assumption) | exact cl1 (by assumption) | exact cl2 (by assumption) | exact cl3 (by assumption) | exact cl4 (by assumption) | exact cl5 (by assumption) | exact cl6 (by assumption) | exact cl7 (by assumption) | exact cl8 (by assumption) | exact cl9 (by assumption) | exact cl10 (by assumption) | exact cl11 (by assumption) | exact cl12 (by assumption) | exact cl13 (by assumption) | exact cl14 (by assumption) | exact cl15 (by assumption) | exact cl16 (by assumption) | exact ct0t0x (by assumption) | exact ct0t1x (by assumption) | exact ct0t2x (by assumption) | exact ct1t0x (by assumption) | exact ct1t1x (by assumption) | exact ct1t2x (by assumption) | exact ct2t0x (by assumption) | exact ct2t1x (by assumption) | exact ct2t2x (by assumption) | exact ct3t0x (by assumption) | exact ct3t1x (by assumption) | exact ct3t2x (by assumption) | exact ct4t0x (by assumption) | exact ct4t1x (by assumption) | exact ct4t2x (by assumption)))
  k_with "ne" => ((refine neN ?_; (try dsimp only); first | with_reducible (first | assumption | exact ngt (by assumption) | exact nlt (by assumption) | exact Ne.symm (by assumption)) | with_reducible (first | exact al0 (by assumption) | exact ar0 (by assumption) | exact al1 (by assumption) | exact ar1 (by assumption) | exact al2 (by assumption) | exact ar2 (by assumption) | exact al3 (by assumption) | exact ar3 (by assumption) | exact al4 (by assumption) | exact ar4 (by assumption) | exact al5 (by assumption) | exact ar5 (by assumption) | exact al6 (by assumption) | exact ar6 (by assumption) | exact al7 (by assumption) | exact ar7 (by assumption) | exact al8 (by assumption) | exact ar8 (by assumption) | exact al9 (by assumption) | exact ar9 (by assumption) | exact al10 (by assumption) | exact ar10 (by assumption) | exact al11 (by assumption) | exact ar11 (by assumption) | exact al12 (by assumption) | exact ar12 (by assumption) | exact al13 (by assumption) | exact ar13 (by assumption) | exact al14 (by assumption) | exact ar14 (by assumption) | exact al15 (by assumption) | exact ar15 (by assumption)) | with_reducible (first | exact at0 (by assumption) (by assumption) | exact au0 (by assumption) (by assumption) | exact at1 (by assumption) (by assumption) | exact au1 (by assumption) (by assumption) | exact at2 (by assumption) (by assumption) | exact au2 (by assumption) (by assumption) | exact at3 (by assumption) (by assumption) | exact au3 (by assumption) (by assumption) | exact at4 (by assumption) (by assumption) | exact au4 (by assumption) (by assumption) | exact at5 (by assumption) (by assumption) | exact au5 (by assumption) (by assumption) | exact at6 (by assumption) (by assumption) | exact au6 (by assumption) (by assumption) | exact at7 (by assumption) (by assumption) | exact au7 (by assumption) (by assumption)) | with_reducible (first | exact av0 (by assumption) | exact avs0 (by assumption) | exact av1 (by assumption) | exact avs1 (by assumption) | exact av2 (by assumption) | exact avs2 (by assumption) | exact av3 (by assumption) | exact avs3 (by assumption) | exact av4 (by assumption) | exact avs4 (by assumption) | exact av5 (by assumption) | exact avs5 (by assumption) | exact aw0 (by assumption) | exact aws0 (by assumption) | exact aw1 (by assumption) | exact aws1 (by assumption) | exact aw2 (by assumption) | exact aws2 (by assumption) | exact aw3 (by assumption) | exact aws3 (by assumption) | exact aw4 (by assumption) | exact aws4 (by assumption) | exact aw5 (by assumption) | exact aws5 (by assumption)) | (refine nlt ?_; k_data) | (refine ngt ?_; k_data) | k_data | (refine Ne.symm ?_; k_data) | (refine ngt1 ?_; k_data) | (refine ngt2 ?_; k_data) | (refine nlt1 ?_; k_data) | (refine nlt2 ?_; k_data) | omega))
  k_with "room" => (first | exact room_le2 (by assumption) (by exact rfl) | exact room_lt2 (by assumption) (by exact rfl) | exact room_le1 (by assumption) (by exact rfl) | exact room_lt1 (by assumption) (by exact rfl) | exact room_le3 (by assumption) (by exact rfl) | exact room_lt3 (by assumption) (by exact rfl) | exact room_ltF (by assumption) (by exact rfl) (by exact rfl))
  k_with "units" => (first | exact unit_le2 (by assumption) (by exact rfl) | exact unit_lt2 (by assumption) (by exact rfl) | exact unit_le1 (by assumption) (by exact rfl) | exact unit_lt1 (by assumption) (by exact rfl) | exact unit_le3 (by assumption) (by exact rfl) | exact unit_lt3 (by assumption) (by exact rfl) | exact unit_ltE (by assumption) (by exact rfl) (by exact rfl) | exact unit_ltF (by assumption) (by exact rfl) (by exact rfl))
  k_with "callWith ref nil nil" => (k_here; k_dflt (refine' callWith_K ?k1 ?k2 ?_; (case k1 => k_asm); (case k2 => k_is); k_whole))
  k_with "eval Name" => (k_here; k_dflt (refine' nameX_L ?F ?v ?_ ?a ?b; (case b => exact rfl); (case F => k_asm); (case a => rfl); (case v => rfl); k_whole))
  k_with "eval Name" => (k_here; k_dflt (refine' nameX_K ?F ?X ?T ?e ?_ ?a ?b; (case b => exact rfl); (case F => k_asm); (case X => k_asm); (case T => k_asm); (case a => rfl); (case e => k_is); k_whole))
  k_with "eval Name" => (k_here; k_dflt (refine' nameX_B ?F ?X ?T ?e ?v ?n ?_ ?a ?b; (case b => exact rfl); (case F => k_asm); (case X => k_asm); (case T => k_asm); (case a => rfl); (case e => k_is); (case v => boot_fast); (case n => decide); k_whole))
  k_with "subscriptTail Name Constant ref int" => (k_here; (with_reducible show wpAny _ _ (subscriptTail _ _ (Value.ref _) (Value.int _ _)) _ _ _); k_dflt (first | (refine' item_tupleT ?t ?a ?b ?c ?d ?_; (case t => first | with_reducible assumption | exact News.isTup (by k_asm) (by k_mem)); (case a => decide); (case b => decide); (case c => rfl); (case d => rfl); k_whole) | (refine' topTup_K ?F ?X ?l ?a ?b ?c ?d ?_; (case F => k_asm); (case X => k_asm); (case l => k_is); (case a => decide); (case b => decide); (case c => rfl); (case d => rfl)) | (refine' topList_K ?F ?X ?l ?a ?b ?d ?_; (case F => k_asm); (case X => k_asm); (case l => k_is); (case a => decide); (case b => decide); (case d => rfl); k_whole)))
  k_with "subscriptTail Name Constant ref int" => (k_here; (with_reducible show wpAny _ _ (subscriptTail _ _ (Value.ref _) (Value.int _ _)) _ _ _); (with_unfolding_all refine' item_litK ?k1 ?k2 ?k3 ?k4 ?_ ?k6; (case k1 => is_list); (case k2 => decide); (case k3 => decide); (case k4 => rfl); (case k6 => with_unfolding_all rfl); k_whole))
  k_with "call builtin:list.pop" => (k_here; k_dflt ((with_reducible show wpAny _ _ (call (Value.builtin _) [Value.ref _]) _ _ _); refine' kl_pop ?F ?N ?e ?U ?z ?_; (case F => k_asm); (case N => k_asm); (case U => k_upd); (case e => rfl); (case z => kl_room)); kl_rest)
  k_with "lt" => with_reducible (first | assumption | exact ll0 (by assumption) | exact ll1 (by assumption) | exact ll2 (by assumption) | exact ll3 (by assumption) | exact ll4 (by assumption) | exact ll5 (by assumption) | exact ll6 (by assumption) | exact ll7 (by assumption) | exact ll8 (by assumption) | exact ll9 (by assumption) | exact ll10 (by assumption) | exact ll11 (by assumption) | exact ll12 (by assumption) | exact ll13 (by assumption) | exact la0 (by assumption) | exact la1 (by assumption) | exact la2 (by assumption) | exact la3 (by assumption) | exact la4 (by assumption) | exact la5 (by assumption) | exact la6 (by assumption) | exact la7 (by assumption))
  k_with "keeplt" => skip
  k_with "ite" => with_reducible (first | refine ite_tt ?_ | refine ite_ff ?_)
  k_with "subscriptTail Attribute Name Name ref int" => (walk_at "last subscriptTail")
  k_with "callWith ref cons nil" => (k_here; k_dflt (refine' callWith_K ?k1 ?k2 ?_; (case k1 => k_asm); (case k2 => k_is); k_whole))
  k_with "exec For Tuple Name cons nil" => (k_here; (rename Fr _ _ _ _ => lF'); (with_unfolding_all refine' For_turns lF' ?_; k_whole))
  k_with "call ref" => (k_here; (with_reducible show wpAny _ _ (call (Value.ref 979) _) _ _ _); k_dflt (refine' eval_A ?B ?F ?X ?N ?hX0 ?hdX ?hVm ?hV ?hlo ?hx ?T ?hk ?hd ?hu ?_; (case B => k_asm); (case F => k_asm); (case X => k_asm); (case N => k_asm); (case hX0 => k_mem); (case hdX => k_mem); (case hVm => k_mem); (case hV => assumption); (case hlo => assumption); (case hx => exact ExprTells.mono (by assumption) (by repeat (first | assumption | exact sub_self | refine sub_tail ?_))); (case T => k_asm); (case hk => first | exact rfl | assumption); (case hd => ktr_room); (case hu => ktr_units); intro v' h' tk' hv' F' N'; (try dsimp only); (try k_fold)))
  k_with "call ref" => (k_here; (with_reducible show wpAny _ _ (call (Value.ref 979) _) _ _ _); k_dflt (refine' eval_B ?B ?F ?X ?N ?hb1 ?hb2 ?hX0 ?hdX ?hVm ?hV ?hlo ?hx ?hb ?T ?hk ?hd ?hu ?_; (case B => k_asm); (case F => k_asm); (case X => k_asm); (case N => k_asm); (case hb1 => k_mem); (case hb2 => k_mem); (case hX0 => k_mem); (case hdX => k_mem); (case hVm => k_mem); (case hV => assumption); (case hlo => assumption); (case hx => assumption); (case hb => assumption); (case T => k_asm); (case hk => first | exact rfl | assumption); (case hd => ktr_room); (case hu => ktr_units); intro g' e' a0' h' tk' FG' R'; (try dsimp only); (try k_fold)))
  k_with "call ref" => (k_here; (with_reducible show wpAny _ _ (call (Value.ref 209) _) _ _ _); k_dflt (refine' astext_A ?B ?F ?X ?G ?N ?hv ?T ?hk ?hd ?hu ?_; (case B => k_asm); (case F => k_asm); (case X => k_asm); (case N => k_asm); (case G => exact TreeG.mono (by assumption) (by repeat (first | assumption | exact sub_self | refine sub_tail ?_))); (case hv => assumption); (case T => k_asm); (case hk => first | exact rfl | assumption); (case hd => ktr_room); (case hu => ktr_units); intro t' h' tk' F' N'; (try dsimp only); (try k_fold)))
  k_with "leaving ref" => (k_here; (k_dflt (refine' leave_U3 ?k1 ?k2 ?kf ?k3 ?_; (case k3 => assumption); (case k2 => assumption); (case k1 => assumption); (case kf => exact rfl); k_whole); intro h' R'; (try dsimp only at R' ⊢)))
  k_with "noteFrame ref" => (k_here; k_dflt (refine' caught_U ?k1 ?k2 ?k4 ?k5 ?k6 ?k7 ?k8 ?_; (case k4 => assumption); (case k1 => assumption); (case k2 => assumption); (case k5 => assumption); (case k6 => assumption); (case k7 => k_is); (case k8 => exact isFault_317 (by assumption)); k_whole); intro h' g' U' B' F' N' X' T')
  k_with "LeaveU" => (k_dflt (refine' leaveU_ ?k0 ?k1 ?k2 ?_; (case k1 => k_asm); (case k2 => k_asm); (case k0 => first | assumption | exact UpFr.refl); k_whole); intro h0' U0' B0' kF kN; (try dsimp only))
  k_with "pyIter ref" =>
    (rename Fr _ _ _ _ => lF')
    (rename News _ _ _ _ => lN')
    (with_unfolding_all refine iter_listTurns (lo := listOf (List.toArray (ps ++ [.ref pa])) np) (vs := ps ++ [.ref pa]) (by rfl) lF' lN' (by k_mem) (by rfl) (by rfl) ?_)
    intro I' l1'
    have hFI := ltN (l1' _ (.head _))
    dsimp only at hFI
    (k_dflt (refine' parts_bad hps hpl ?q1 ?_ ?_))
    (case q1 => intro o'; exact And.intro (by k_dflt k_mem) trivial)
    (intro v' x' u' vs' xs' n' it' h' tk' hv' hs' hl' hc' F' N')
    rotate_left
    (intro Z' u' vs' n' it' h' tk' hc' F' N')
    rotate_left
    (cases hv')
  refine wpAny_call ?_
  k_dflt (refine' code_U ?k1 ?k2 ?k3 ?k4 ?k5 ?kA ?kF ?kK ?k6 ?k7 ?k8 ?k9 ?kB ?_ ?c2 ?c3 ?c4 ?c5; (case kA => exact rfl); (case kF => exact rfl); (case kK => assumption); (case k1 => k_asm); (case k2 => k_asm); (case k3 => assumption); (case k4 => k_asm); (case k5 => assumption); (case k6 => k_is); (case k7 => k_is); (case k8 => ktr_room); (case k9 => exact BindsTo.of_eq rfl); (case c5 => decide); (case kB => exact locs rfl); (case c2 => exact rfl); (case c3 => exact rfl); (case c4 => exact rfl); k_whole)
  intro g' L' h' FG' F' N' B' X' T'
  (try dsimp only)
  (try k_fold)
  iterate 200 (first | walk1 | (dsimp only; walk1) | skip)
  · k_dflt (refine' turn_end (by assumption) (by assumption) ?a ?b ?c (fun p hp => Nat.ne_of_lt (l1' p (List.Mem.tail _ hp))) (Nat.ne_of_lt hFI) ?f)
    (case a => k_dflt k_mem)
    (case b => k_dflt k_mem)
    (case c => repeat (first | exact sub_self | refine sub_tail ?_))
    (case f => intro y h1 h2; simp [h1, h2])
  · iterate 80 (first | walk1 | (dsimp only; walk1) | skip)
    k_dflt (refine' turn_end (by assumption) (by assumption) ?a ?b ?c (fun p hp => Nat.ne_of_lt (l1' p (List.Mem.tail _ hp))) (Nat.ne_of_lt hFI) ?f)
    (case a => k_dflt k_mem)
    (case b => k_dflt k_mem)
    (case c => repeat (first | exact sub_self | refine sub_tail ?_))
    (case f => intro y h1 h2; simp [h1, h2])
  · iterate 60 (first | walk1 | (dsimp only; walk1) | skip)
    exact ret _ _ _ _ (by assumption) (by assumption) (by assumption) (news_sub (by assumption) (sub_cons (by k_dflt k_mem) (by repeat (first | exact sub_self | refine sub_tail ?_))))
end
end

section -- Y0
open PySem PySem.W PyProof.Rows PySem.Calls PySem.Spec
theorem valueAt_app (kvs : List (Str × Value)) (k nm : Str) (v : Value) : valueAt (kvs ++ [(k, v)]) nm = (valueAt kvs nm).or (if k = nm then some v else none) := by
  unfold valueAt
  rw [List.find?_append]
  cases kvs.find? fun kv => kv.1 = nm with
  | some x => rfl
  | none =>
    by_cases h : k = nm
    · simp [h]
    · simp [h]
theorem stored_free {kvs : List (Str × Value)} {k : Str} {v : Value} (h : valueAt kvs k = none) : stored kvs k v = kvs ++ [(k, v)] := by
  have hs := valueAt_isSome_eq_any kvs k
  rw [h] at hs
  unfold stored
  rw [← hs]
  rfl
theorem valueAt_old {kvs : List (Str × Value)} {k nm : Str} {v x : Value} (h : valueAt kvs nm = some x) : valueAt (kvs ++ [(k, v)]) nm = some x := by
  rw [valueAt_app, h]; rfl
theorem valueAt_new {kvs : List (Str × Value)} {k : Str} {v : Value} (h : valueAt kvs k = none) : valueAt (kvs ++ [(k, v)]) k = some v := by
  rw [valueAt_app, h]; simp
theorem valueAt_other {kvs : List (Str × Value)} {k nm : Str} {v : Value} (h : valueAt kvs nm = none) (hn : k ≠ nm) : valueAt (kvs ++ [(k, v)]) nm = none := by
  rw [valueAt_app, h]; simp [hn]

noncomputable abbrev offF (d : Addr) (led : List (Addr × Obj)) : List (Addr × Obj) := led.filter fun q => !(Nat.beq q.1 d)
theorem offF_mem {d : Addr} {led : List (Addr × Obj)} {q : Addr × Obj} (h : q ∈ led) (hn : @Ne Nat q.1 d) : q ∈ offF d led := by
  refine List.mem_filter.mpr ⟨h, ?_⟩
  cases e : Nat.beq q.1 d with
  | false => rfl
  | true => exact absurd (Nat.eq_of_beq_eq_true e) hn
theorem offF_sub {d : Addr} {led : List (Addr × Obj)} {q : Addr × Obj} (h : q ∈ offF d led) : q ∈ led := (List.mem_filter.mp h).1
theorem offF_ne {d : Addr} {led : List (Addr × Obj)} {q : Addr × Obj} (h : q ∈ offF d led) : q.1 ≠ d := by
  have h2 := (List.mem_filter.mp h).2
  intro e
  have e' : @Eq Nat q.1 d := e
  rw [show Nat.beq q.1 d = true by rw [e']; exact Nat.beq_refl _] at h2
  cases h2
section
variable {w : World} {led keep : List (Addr × Obj)} {T0 R : Addr} {xs : List Trip} {rows : List RowS} {h₀ h : Heap} {L : Addr}
theorem tree_filter {d : Addr} {o : Obj} (G : TreeG w led T0 R xs rows keep) (N : News h₀ L h led) (hd : (d, o) ∈ keep) (h1 : ∀ C, o.cls ≠ .ref C) (h2 : o.cls ≠ .type "dict") : TreeG w (offF d led) T0 R xs rows [] := by
  obtain ⟨hdl, hdR, hdx⟩ := G.kept _ hd
  obtain ⟨dT, kT, nR, a1, a2, a3⟩ := G.top
  have inst : ∀ {b C : Addr} {e : Addr}, (b, instObj C e) ∈ led → @Ne Nat b d := fun hb => news_fun N hb hdl fun e => h1 _ e.symm
  have dict : ∀ {b : Addr} {es : List DictEntry} {n : Nat}, (b, dictOf es n) ∈ led → @Ne Nat b d := fun hb => news_fun N hb hdl fun e => h2 e.symm
  refine ⟨⟨dT, kT, nR, offF_mem a1 (inst a1), offF_mem a2 (dict a2), offF_mem a3 (fun e => hdR e.symm)⟩, G.len, fun i x r e1 e2 => ?_, G.apR, G.apX, fun q hq => nomatch hq⟩
  obtain ⟨e, ns, k0, k1, k2, k3, k4, k5, k6, k7, k8, tk, tv, nm, ur, lc, pr, ksV, asV, nk, na, b1, b2, b3, b4, b5, b6⟩ := G.row i x r e1 e2
  have hx := hdx i x e1
  exact ⟨e, ns, k0, k1, k2, k3, k4, k5, k6, k7, k8, tk, tv, nm, ur, lc, pr, ksV, asV, nk, na, offF_mem b1 (inst b1), offF_mem b2 (dict b2), offF_mem b3 (fun e => hx.1 e.symm), b4, offF_mem b5 (fun e => hx.2 e.symm), b6⟩
theorem tree_filter2 {d d2 : Addr} {o o2 : Obj} (G : TreeG w led T0 R xs rows keep) (N : News h₀ L h led) (hd : (d, o) ∈ keep) (h1 : ∀ C, o.cls ≠ .ref C) (h2 : o.cls ≠ .type "dict") (hd2 : (d2, o2) ∈ keep) (h3 : ∀ C, o2.cls ≠ .ref C) (h4 : o2.cls ≠ .type "dict") : TreeG w (offF d (offF d2 led)) T0 R xs rows [] := by
  have G2 := tree_filter G N hd2 h3 h4
  have N2 : News h₀ L h (offF d2 led) := fun q hq => N q (offF_sub hq)
  by_cases hdd : @Eq Nat d d2
  · have e : offF d (offF d2 led) = offF d2 led := by
      refine List.filter_eq_self.mpr fun q hq => ?_
      have := offF_ne hq
      cases z : Nat.beq q.1 d with
      | false => rfl
      | true => exact absurd ((Nat.eq_of_beq_eq_true z).trans hdd) this
    rw [e]; exact G2
  · obtain ⟨a, b, c⟩ := G.kept _ hd
    refine tree_filter (keep := [(d, o)]) ⟨G2.top, G2.len, G2.row, G2.apR, G2.apX, fun q hq => ?_⟩ N2 (.head _) h1 h2
    rw [List.mem_singleton.mp hq]
    exact ⟨offF_mem a hdd, b, c⟩
end
section
variable {w : World} {p : Program} {loose : List Str} {mean : ExcName → Option Value} {mg mb : Str → Option Value}
    {dp un : Nat} {gd : Option (List Code)} {cn : Str} {cs : Scope} {a : Addr} {ccd : Value} {cl : List (Str × Addr)} {outer : List Env} {A₀ : Around} {base h₀ : Heap} {L : Addr} {m : Str → Option Value} {s : Shared}
    {Q E : Value → Shared → Prop}
theorem grown_G {src PT : Addr} {x y : Int} {tx ty : Tok} {n : Nat}
    (B : Below A₀ base outer h₀) (F : Fr h₀ L s.heap m) (X : (KK w.params).In h₀) (N : News h₀ L s.heap [(src, pool x y tx ty n), (PT, tabObj #[])])
    (T : Top p loose mean mg mb h₀) (hk : cs.kind = .function) (hd : dp + 30 ≤ 900) (hu : un + 400 ≤ 1000)
    (ret : ∀ (T0 R NL D p0 p1 p2 p3 p4 : Addr) xs led0 (t0 t1 t2 t3 t4 u0 u1 u2 u3 u4 : Tok) h' tk', Fr h₀ L h' m → News h₀ L h' ((D, tupO #[.ref T0, .ref NL]) :: (src, pool x y tx ty n) :: (PT, tabObj #[]) :: led0) →
      TreeG w led0 T0 R xs rowsE [] → (NL, listOf #[.ref p0, .ref p1, .ref p2, .ref p3, .ref p4] 0) ∈ led0 → (p4, tupO #[.int ((6 : Nat) : Int) t4, .str (Str.ofString "d") u4]) ∈ led0 →
        (p3, tupO #[.int ((4 : Nat) : Int) t3, .str (Str.ofString "c{") u3]) ∈ led0 → (p2, tupO #[.int ((3 : Nat) : Int) t2, .str (Str.ofString "b") u2]) ∈ led0 → (p1, tupO #[.int ((2 : Nat) : Int) t1, .str (Str.ofString "v") u1]) ∈ led0 → (p0, tupO #[.int ((1 : Nat) : Int) t0, .str (Str.ofString "bc{") u0]) ∈ led0 →
        (∀ q ∈ led0, q.1 ≠ src) → (∀ q ∈ led0, q.1 ≠ PT) → @Ne Nat D src → @Ne Nat D PT → @Ne Nat NL src → Q (.ref D) { s with heap := h', toks := tk' }) :
    wpAny (model PySem.Challenge.rw_xm0674_01.prog w) (ktrTop dp un gd cn cs L a ccd cl outer) (call (.ref 1294) []) Q E s := by
  refine grown_F (w := w) (p := p) (loose := loose) (mean := mean) (mg := mg) (mb := mb) (dp := dp) (un := un) (gd := gd) (cn := cn) (cs := cs) (a := a) (ccd := ccd) (cl := cl) (outer := outer) (A₀ := A₀) (base := base) (h₀ := h₀) (L := L) (m := m) (keep := _) (s := s) (Q := Q) (E := E) (B := B) (F := F) (X := X) (N := N) (T := T) (hk := hk) (hd := hd) (hu := hu)
    (ret := fun T0 R NL D p0 p1 p2 p3 p4 xs led' t0 t1 t2 t3 t4 u0 u1 u2 u3 u4 h' tk' F' N' G' => ?_)
  have c1 : ∀ C, (pool x y tx ty n).cls ≠ .ref C := fun C e => nomatch e
  have c2 : (pool x y tx ty n).cls ≠ .type "dict" := by show Value.type "list" ≠ Value.type "dict"; decide
  have c3 : ∀ C, (tabObj #[]).cls ≠ .ref C := fun C e => nomatch e
  have c4 : (tabObj #[]).cls ≠ .type "dict" := fun e => nomatch e
  have ks := (G'.kept _ (.head _)).1
  have kp := (G'.kept _ (.tail _ (.head _))).1
  have Nl : News h₀ L h' led' := fun q hq => N' q (.tail _ (.tail _ (.tail _ (.tail _ (.tail _ (.tail _ (.tail _ hq)))))))
  have G2 := tree_filter2 G' Nl (.head _) c1 c2 (.tail _ (.head _)) c3 c4
  have tupS : ∀ {b : Addr} {vs : Array Value}, (b, tupO vs) ∈ _ → @Ne Nat b src := fun hb => news_fun N' hb (.tail _ (.tail _ (.tail _ (.tail _ (.tail _ (.tail _ (.tail _ ks))))))) (by show Value.type "tuple" ≠ Value.type "list"; decide)
  have tupP : ∀ {b : Addr} {vs : Array Value}, (b, tupO vs) ∈ _ → @Ne Nat b PT := fun hb => news_fun N' hb (.tail _ (.tail _ (.tail _ (.tail _ (.tail _ (.tail _ (.tail _ kp))))))) (fun e => nomatch e)
  have hNS : @Ne Nat NL src := fun e => by
    have e1 := (N' _ (.tail _ (.head _))).1
    have e2 := (Nl _ ks).1
    dsimp only at e1 e2
    have e' : NL = src := e
    rw [e', e2] at e1
    injection e1 with e1
    injection e1 with _ _ e1 _
    injection e1 with e1 _
    simp at e1
  have hNP : @Ne Nat NL PT := news_fun N' (.tail _ (.head _)) (.tail _ (.tail _ (.tail _ (.tail _ (.tail _ (.tail _ (.tail _ kp))))))) (fun e => nomatch e)
  refine ret T0 R NL D p0 p1 p2 p3 p4 xs ((NL, listOf #[.ref p0, .ref p1, .ref p2, .ref p3, .ref p4] 0) :: (p4, tupO #[.int ((6 : Nat) : Int) t4, .str (Str.ofString "d") u4]) ::
        (p3, tupO #[.int ((4 : Nat) : Int) t3, .str (Str.ofString "c{") u3]) :: (p2, tupO #[.int ((3 : Nat) : Int) t2, .str (Str.ofString "b") u2]) :: (p1, tupO #[.int ((2 : Nat) : Int) t1, .str (Str.ofString "v") u1]) :: (p0, tupO #[.int ((1 : Nat) : Int) t0, .str (Str.ofString "bc{") u0]) :: offF src (offF PT led')) t0 t1 t2 t3 t4 u0 u1 u2 u3 u4 h' tk' F' ?_ ?_ (.head _) (.tail _ (.head _)) (.tail _ (.tail _ (.head _))) (.tail _ (.tail _ (.tail _ (.head _)))) (.tail _ (.tail _ (.tail _ (.tail _ (.head _))))) (.tail _ (.tail _ (.tail _ (.tail _ (.tail _ (.head _)))))) ?_ ?_ (tupS (.head _)) (tupP (.head _)) hNS
  · intro q hq
    simp only [List.mem_cons] at hq
    rcases hq with rfl | rfl | rfl | rfl | rfl | rfl | rfl | rfl | rfl | hq
    · exact N' _ (.head _)
    · exact Nl _ ks
    · exact Nl _ kp
    · exact N' _ (.tail _ (.head _))
    · exact N' _ (.tail _ (.tail _ (.head _)))
    · exact N' _ (.tail _ (.tail _ (.tail _ (.head _))))
    · exact N' _ (.tail _ (.tail _ (.tail _ (.tail _ (.head _)))))
    · exact N' _ (.tail _ (.tail _ (.tail _ (.tail _ (.tail _ (.head _))))))
    · exact N' _ (.tail _ (.tail _ (.tail _ (.tail _ (.tail _ (.tail _ (.head _)))))))
    · exact Nl _ (offF_sub (offF_sub hq))
  · exact G2.mono fun q hq => .tail _ (.tail _ (.tail _ (.tail _ (.tail _ (.tail _ hq)))))
  · intro q hq
    simp only [List.mem_cons] at hq
    rcases hq with rfl | rfl | rfl | rfl | rfl | rfl | hq
    · exact hNS
    · exact tupS (.tail _ (.tail _ (.head _)))
    · exact tupS (.tail _ (.tail _ (.tail _ (.head _))))
    · exact tupS (.tail _ (.tail _ (.tail _ (.tail _ (.head _)))))
    · exact tupS (.tail _ (.tail _ (.tail _ (.tail _ (.tail _ (.head _))))))
    · exact tupS (.tail _ (.tail _ (.tail _ (.tail _ (.tail _ (.tail _ (.head _)))))))
    · exact offF_ne hq
  · intro q hq
    simp only [List.mem_cons] at hq
    rcases hq with rfl | rfl | rfl | rfl | rfl | rfl | hq
    · exact hNP
    · exact tupP (.tail _ (.tail _ (.head _)))
    · exact tupP (.tail _ (.tail _ (.tail _ (.head _))))
    · exact tupP (.tail _ (.tail _ (.tail _ (.tail _ (.head _)))))
    · exact tupP (.tail _ (.tail _ (.tail _ (.tail _ (.tail _ (.head _))))))
    · exact tupP (.tail _ (.tail _ (.tail _ (.tail _ (.tail _ (.tail _ (.head _)))))))
    · exact offF_ne (offF_sub hq)
end
end

section -- Y1
open PySem PySem.W PyProof.Rows PySem.Calls PySem.Spec
section
variable {w : World} {p : Program} {loose : List Str} {mean : ExcName → Option Value} {mg mb : Str → Option Value}
    {dp un : Nat} {gd : Option (List Code)} {cn : Str} {cs : Scope} {a : Addr} {ccd : Value} {cl : List (Str × Addr)} {outer : List Env} {A₀ : Around} {base h₀ : Heap} {L : Addr} {m : Str → Option Value} {s : Shared}
    {Q E : Value → Shared → Prop}
theorem worth_U {src : Addr} {x y : Int} {tx ty : Tok} {n : Nat} {led : List (Addr × Obj)} {g : Obj → List (Addr × Obj)} {NL p0 p1 p2 p3 p4 : Addr} {t0 t1 t2 t3 t4 u0 u1 u2 u3 u4 : Tok}
    (B : Below A₀ base outer h₀) (F : Fr h₀ L s.heap m) (X : (KK w.params).In h₀) (N : News h₀ L s.heap led) (U : UpdF src (pool x y tx ty n) led g) (hNL : (NL, listOf #[.ref p0, .ref p1, .ref p2, .ref p3, .ref p4] 0) ∈ led) (hNs : NL ≠ src)
    (m0 : (p0, tupO #[.int ((1 : Nat) : Int) t0, .str (Str.ofString "bc{") u0]) ∈ led) (m1 : (p1, tupO #[.int ((2 : Nat) : Int) t1, .str (Str.ofString "v") u1]) ∈ led) (m2 : (p2, tupO #[.int ((3 : Nat) : Int) t2, .str (Str.ofString "b") u2]) ∈ led) (m3 : (p3, tupO #[.int ((4 : Nat) : Int) t3, .str (Str.ofString "c{") u3]) ∈ led) (m4 : (p4, tupO #[.int ((6 : Nat) : Int) t4, .str (Str.ofString "d") u4]) ∈ led)
    (T : Top p loose mean mg mb h₀) (hk : cs.kind = .function) (hx : Pool x y) (hd : dp + 24 ≤ 900) (hu : un + 300 ≤ 1000)
    (ret : ∀ (D : Addr) told z t T1 oT x' y' tx' ty' n' h' tk', Tells [(T1, oT)] told z → FreshT (g (pool x' y' tx' ty' n')) T1 → Fr h₀ L h' m → News h₀ L h' ((D, tupO #[told, .str z t]) :: (T1, oT) :: g (pool x' y' tx' ty' n')) → Pool x' y' → Q (.ref D) { s with heap := h', toks := tk' }) :
    wpAny (model PySem.Challenge.rw_xm0674_01.prog w) (ktrTop dp un gd cn cs L a ccd cl outer) (call (.ref 1306) [.ref src, .ref NL]) Q E s := by
  obtain ⟨pre, post, e1, e2, h1, h2⟩ := U.split
  have hs : (src, pool x y tx ty n) ∈ led := by rw [e1]; exact List.mem_append.mpr (.inr (.head _))
  have tup : ∀ {b : Addr} {vs : Array Value}, (b, tupO vs) ∈ led → b ≠ src := fun hb => news_fun N hb hs (by show Value.type "tuple" ≠ Value.type "list"; decide)
  have inR : ∀ {q : Addr × Obj}, q ∈ led → q.1 ≠ src → q ∈ pre ++ post := fun {q} hq hn => by
    rw [e1] at hq
    rcases List.mem_append.mp hq with hq | hq
    · exact List.mem_append.mpr (.inl hq)
    · rcases List.mem_cons.mp hq with rfl | hq
      · exact absurd rfl hn
      · exact List.mem_append.mpr (.inr hq)
  have toL : ∀ {o : Obj} {q : Addr × Obj}, q ∈ (src, o) :: (pre ++ post) → q ∈ pre ++ (src, o) :: post := fun {o q} hq => by
    rcases List.mem_cons.mp hq with rfl | hq
    · exact List.mem_append.mpr (.inr (.head _))
    · rcases List.mem_append.mp hq with hq | hq
      · exact List.mem_append.mpr (.inl hq)
      · exact List.mem_append.mpr (.inr (.tail _ hq))
  have toR : ∀ {o : Obj} {q : Addr × Obj}, q ∈ pre ++ (src, o) :: post → q ∈ (src, o) :: (pre ++ post) := fun {o q} hq => by
    rcases List.mem_append.mp hq with hq | hq
    · exact .tail _ (List.mem_append.mpr (.inl hq))
    · rcases List.mem_cons.mp hq with rfl | hq
      · exact .head _
      · exact .tail _ (List.mem_append.mpr (.inr hq))
  refine worth_F (w := w) (p := p) (loose := loose) (mean := mean) (mg := mg) (mb := mb) (dp := dp) (un := un) (gd := gd) (cn := cn) (cs := cs) (a := a) (ccd := ccd) (cl := cl) (outer := outer) (A₀ := A₀) (base := base) (h₀ := h₀) (L := L) (m := m) (rest := pre ++ post) (s := s) (Q := Q) (E := E) (src := src) (x := x) (y := y) (tx := tx) (ty := ty) (n := n) (NL := NL) (p0 := p0) (p1 := p1) (p2 := p2) (p3 := p3) (p4 := p4) (t0 := t0) (t1 := t1) (t2 := t2) (t3 := t3) (t4 := t4) (u0 := u0) (u1 := u1) (u2 := u2) (u3 := u3) (u4 := u4)
    (B := B) (F := F) (X := X) (N := fun q hq => N q (by rw [e1]; exact toL hq)) (h1 := fun q hq => ?_) (hNL := hNs) (hN := inR hNL hNs) (m0 := inR m0 (tup m0)) (m1 := inR m1 (tup m1)) (m2 := inR m2 (tup m2)) (m3 := inR m3 (tup m3)) (m4 := inR m4 (tup m4)) (T := T) (hk := hk) (hx := hx) (hd := hd) (hu := hu)
    (ret := fun D told z t T1 oT x' y' tx' ty' n' h' tk' ht hf F' N' P' => ret D told z t T1 oT x' y' tx' ty' n' h' tk' ht (fun q hq => hf q (toR (by rw [← e2]; exact hq))) F' (fun q hq => ?_) P')
  · rcases List.mem_append.mp hq with hq | hq
    · exact h1 q hq
    · exact h2 q hq
  · rcases List.mem_cons.mp hq with rfl | hq
    · exact N' _ (.tail _ (.head _))
    · rcases List.mem_cons.mp hq with rfl | hq
      · exact N' _ (.tail _ (.tail _ (.head _)))
      · have hq' : q ∈ (src, pool x' y' tx' ty' n') :: (pre ++ post) := toR (by rw [← e2]; exact hq)
        rcases List.mem_cons.mp hq' with rfl | hq'
        · exact N' _ (.head _)
        · exact N' _ (.tail _ (.tail _ (.tail _ hq')))
theorem sz_few {ps : List Value} {i : Nat} (h : ps.length = i) (hi : i < 5) : ps.toArray.size ≤ sizeLine := by
  rw [PySem.sizeLine_eq, List.size_toArray, h]; omega
theorem dict_cls {prog : Program} {w : World} {K : Type} [DecidableEq K] {knd : KeyKind prog w K} {o : Obj} {kvs : List (K × Value)} (h : o.IsDictOf knd kvs) : o.cls = .type "dict" := by
  obtain ⟨_, _, h, _⟩ := h
  exact h.1
theorem mLoop_of {m' m0 : Str → Option Value} {v : Value} (hdue : m' dueS = some v) (hm : ∀ y, y ≠ dueS → loopNames.contains y = false → m' y = m0 y) : m' = mLoop m' m0 v := by
  funext z
  show m' z = (if z = dueS then some v else if loopNames.contains z then m' z else m0 z)
  by_cases e : z = dueS
  · rw [if_pos e, e, hdue]
  · rw [if_neg e]
    cases c : loopNames.contains z with
    | true => rfl
    | false => rw [hm z e c]; rfl
theorem mLoop_off {u m0 : Str → Option Value} {v : Value} {y : Str} (h1 : y ≠ dueS) (h2 : loopNames.contains y = false) : mLoop u m0 v y = m0 y := by
  show (if y = dueS then some v else if loopNames.contains y then u y else m0 y) = m0 y
  rw [if_neg h1, h2]; rfl
theorem turn_fin {w : World} {h₀ h' : Heap} {L : Addr} {m0 m' : Str → Option Value} {src V P PT I : Addr} {led0 led all new : List (Addr × Obj)} {it oV oV2 : Obj} {kvs kvs2 : List (Str × Value)} {ps : List Value} {xs : List Str} {i np2 : Nat} {x y : Int} {tx ty : Tok} {n : Nat} {v : Value} {z : Str} {td : Tok} {s : Shared} {tk : Nat}
    (F : Fr h₀ L h' m') (N : News h₀ L h' all) (X : LoopLed w kvs oV ps xs i src V P PT I led0 led) (hx : Pool x y)
    (mI : (I, it) ∈ all) (mS : (src, pool x y tx ty n) ∈ all) (mV : (V, oV2) ∈ all) (mP : (P, listOf ((List.toArray ps).push v) np2) ∈ all) (mT : (PT, tabObj #[]) ∈ all) (mL : ∀ q ∈ led, q ∈ all)
    (lS : @LT.lt Nat _ src I) (lV : @LT.lt Nat _ V I) (lP : @LT.lt Nat _ P I) (lT : @LT.lt Nat _ PT I)
    (nw : ∀ q ∈ new, q ∈ all ∧ q.1 ≠ src ∧ q.1 ≠ V ∧ q.1 ≠ P ∧ q.1 ≠ PT ∧ q.1 ≠ I)
    (hd : oV2.IsDictOf (PySem.strKind PySem.Challenge.rw_xm0674_01.prog w) kvs2) (hsz : kvs2.length ≤ i + 1) (hold : ∀ nm v, valueAt kvs nm = some v → valueAt kvs2 nm = some v) (hfree : ∀ j, i + 1 ≤ j → j < 5 → valueAt kvs2 (nmV j) = none) (hW : valueAt kvs2 (Str.ofString "w") = none)
    (hpt : PartTells w (new ++ led) kvs2 v z) (hdue : m' dueS = some (.str (Str.join (Str.ofString "") xs ++ z) td)) (hm : ∀ y, y ≠ dueS → loopNames.contains y = false → m' y = m0 y) :
    UnrEnd h₀ L s I it (LoopInv w m0 src V P PT I led0 (i + 1)) { s with heap := h', toks := tk } := by
  have inN : ∀ {q : Addr × Obj}, q ∈ new ++ led → q ∈ all := fun {q} hq => by
    rcases List.mem_append.mp hq with hq | hq
    · exact (nw q hq).1
    · exact mL q hq
  rw [← join_snoc] at hdue
  refine ⟨h', tk, m', headsL src V P PT x y tx ty n oV2 (List.toArray (ps ++ [v])) np2 (new ++ led), rfl, F, fun q hq => ?_, fun q hq => ?_, m', x, y, tx, ty, n, oV2, kvs2, ps ++ [v], xs ++ [z], np2, td, new ++ led, mLoop_of hdue hm, rfl, hx,
    ⟨PartsV.snoc (X.parts.mono fun _ _ h => h.mono (fun q hq => List.mem_append.mpr (.inr hq)) hold) hpt, by simp [X.len], hd, hsz, hfree, hW, fun q hq => List.mem_append.mpr (.inr (X.base q hq)), ?_, ?_, ?_, ?_, ?_⟩⟩
  · simp only [List.mem_cons] at hq
    rcases hq with rfl | rfl | rfl | rfl | rfl | hq
    · exact N _ mI
    · exact N _ mS
    · exact N _ mV
    · rw [← List.push_toArray]; exact N _ mP
    · exact N _ mT
    · exact N _ (inN hq)
  · simp only [List.mem_cons] at hq
    rcases hq with rfl | rfl | rfl | rfl | hq
    · exact Nat.ne_of_lt lS
    · exact Nat.ne_of_lt lV
    · exact Nat.ne_of_lt lP
    · exact Nat.ne_of_lt lT
    · rcases List.mem_append.mp hq with hq | hq
      · exact (nw q hq).2.2.2.2.2
      · exact X.offI q hq
  all_goals
    intro q hq
    rcases List.mem_append.mp hq with hq | hq
  · exact (nw q hq).2.1
  · exact X.offS q hq
  · exact (nw q hq).2.2.1
  · exact X.offV q hq
  · exact (nw q hq).2.2.2.1
  · exact X.offP q hq
  · exact (nw q hq).2.2.2.2.1
  · exact X.offT q hq
  · exact (nw q hq).2.2.2.2.2
  · exact X.offI q hq
noncomputable abbrev OffH (src V P PT I : Addr) (q : Addr × Obj) : Prop := q.1 ≠ src ∧ q.1 ≠ V ∧ q.1 ≠ P ∧ q.1 ≠ PT ∧ q.1 ≠ I
theorem names_ne {y : Str} (h : loopNames.contains y = false) : y ≠ Str.ofString "turn" ∧ y ≠ Str.ofString "way" ∧ y ≠ Str.ofString "word" ∧ y ≠ Str.ofString "told" ∧ y ≠ Str.ofString "text" := by
  refine ⟨?_, ?_, ?_, ?_, ?_⟩ <;> (rintro rfl; revert h; decide +kernel)
theorem turn_fin4 {w : World} {h₀ h' : Heap} {L : Addr} {m0 m' : Str → Option Value} {src V P PT I : Addr} {led0 led rest : List (Addr × Obj)} {q1 q2 q3 q4 : Addr × Obj} {it oV oV2 : Obj} {kvs kvs2 : List (Str × Value)} {ps : List Value} {xs : List Str} {i np2 : Nat} {x y : Int} {tx ty : Tok} {n : Nat} {v : Value} {z : Str} {td : Tok} {s : Shared} {tk : Nat}
    (F : Fr h₀ L h' m') (N : News h₀ L h' (q1 :: q2 :: q3 :: q4 :: rest)) (X : LoopLed w kvs oV ps xs i src V P PT I led0 led) (hx : Pool x y)
    (mI : (I, it) ∈ rest) (mS : (src, pool x y tx ty n) ∈ rest) (mV : (V, oV2) ∈ rest) (mP : (P, listOf ((List.toArray ps).push v) np2) ∈ rest) (mT : (PT, tabObj #[]) ∈ rest) (mL : ∀ q ∈ led, q ∈ rest)
    (lS : @LT.lt Nat _ src I) (lV : @LT.lt Nat _ V I) (lP : @LT.lt Nat _ P I) (lT : @LT.lt Nat _ PT I)
    (n1 : OffH src V P PT I q1) (n2 : OffH src V P PT I q2) (n3 : OffH src V P PT I q3) (n4 : OffH src V P PT I q4)
    (hd : oV2.IsDictOf (PySem.strKind PySem.Challenge.rw_xm0674_01.prog w) kvs2) (hsz : kvs2.length ≤ i + 1) (hold : ∀ nm v, valueAt kvs nm = some v → valueAt kvs2 nm = some v) (hfree : ∀ j, i + 1 ≤ j → j < 5 → valueAt kvs2 (nmV j) = none) (hW : valueAt kvs2 (Str.ofString "w") = none)
    (hpt : PartTells w (q1 :: q2 :: q3 :: q4 :: led) kvs2 v z) (hdue : m' dueS = some (.str (Str.join (Str.ofString "") xs ++ z) td)) (hm : ∀ y, y ≠ dueS → loopNames.contains y = false → m' y = m0 y) :
    UnrEnd h₀ L s I it (LoopInv w m0 src V P PT I led0 (i + 1)) { s with heap := h', toks := tk } := by
  have up : ∀ {q : Addr × Obj}, q ∈ rest → q ∈ q1 :: q2 :: q3 :: q4 :: rest := fun h => .tail _ (.tail _ (.tail _ (.tail _ h)))
  refine turn_fin (new := [q1, q2, q3, q4]) F N X hx (up mI) (up mS) (up mV) (up mP) (up mT) (fun q hq => up (mL q hq)) lS lV lP lT (fun q hq => ?_) hd hsz hold hfree hW hpt hdue hm
  simp only [List.mem_cons, List.not_mem_nil, or_false] at hq
  rcases hq with rfl | rfl | rfl | rfl
  · exact ⟨.head _, n1⟩
  · exact ⟨.tail _ (.head _), n2⟩
  · exact ⟨.tail _ (.tail _ (.head _)), n3⟩
  · exact ⟨.tail _ (.tail _ (.tail _ (.head _))), n4⟩
theorem turn_fin1 {w : World} {h₀ h' : Heap} {L : Addr} {m0 m' : Str → Option Value} {src V P PT I : Addr} {led0 led rest : List (Addr × Obj)} {q1 : Addr × Obj} {it oV : Obj} {kvs : List (Str × Value)} {ps : List Value} {xs : List Str} {i np2 : Nat} {x y : Int} {tx ty : Tok} {n : Nat} {v : Value} {z : Str} {td : Tok} {s : Shared} {tk : Nat}
    (F : Fr h₀ L h' m') (N : News h₀ L h' (q1 :: rest)) (X : LoopLed w kvs oV ps xs i src V P PT I led0 led) (hx : Pool x y)
    (mI : (I, it) ∈ rest) (mS : (src, pool x y tx ty n) ∈ rest) (mV : (V, oV) ∈ rest) (mP : (P, listOf ((List.toArray ps).push v) np2) ∈ rest) (mT : (PT, tabObj #[]) ∈ rest) (mL : ∀ q ∈ led, q ∈ rest)
    (lS : @LT.lt Nat _ src I) (lV : @LT.lt Nat _ V I) (lP : @LT.lt Nat _ P I) (lT : @LT.lt Nat _ PT I)
    (n1 : OffH src V P PT I q1)
    (hpt : PartTells w (q1 :: led) kvs v z) (hdue : m' dueS = some (.str (Str.join (Str.ofString "") xs ++ z) td)) (hm : ∀ y, y ≠ dueS → loopNames.contains y = false → m' y = m0 y) :
    UnrEnd h₀ L s I it (LoopInv w m0 src V P PT I led0 (i + 1)) { s with heap := h', toks := tk } := by
  refine turn_fin (new := [q1]) F N X hx (.tail _ mI) (.tail _ mS) (.tail _ mV) (.tail _ mP) (.tail _ mT) (fun q hq => .tail _ (mL q hq)) lS lV lP lT (fun q hq => ?_) X.dict (by have := X.size; omega) (fun _ _ h => h) (fun j h1 h2 => X.free j (by omega) h2) X.noW hpt hdue hm
  rw [List.mem_singleton.mp hq]
  exact ⟨.head _, n1⟩
theorem store_facts {w : World} {kvs : List (Str × Value)} {oV o' : Obj} {ps : List Value} {xs : List Str} {i : Nat} {src V P PT I : Addr} {led0 led : List (Addr × Obj)} {told : Value} (X : LoopLed w kvs oV ps xs i src V P PT I led0 led) (hi : i < 5)
    (hd : o'.IsDictOf (PySem.strKind PySem.Challenge.rw_xm0674_01.prog w) (stored kvs (nmV i) told)) :
    o'.IsDictOf (PySem.strKind PySem.Challenge.rw_xm0674_01.prog w) (kvs ++ [(nmV i, told)]) ∧ (kvs ++ [(nmV i, told)]).length ≤ i + 1 ∧ (∀ nm v, valueAt kvs nm = some v → valueAt (kvs ++ [(nmV i, told)]) nm = some v) ∧ (∀ j, i + 1 ≤ j → j < 5 → valueAt (kvs ++ [(nmV i, told)]) (nmV j) = none) ∧ valueAt (kvs ++ [(nmV i, told)]) (Str.ofString "w") = none ∧ valueAt (kvs ++ [(nmV i, told)]) (nmV i) = some told := by
  have hf := X.free i (Nat.le_refl _) hi
  rw [stored_free hf] at hd
  refine ⟨hd, ?_, fun nm v h => valueAt_old h, fun j h1 h2 => valueAt_other (X.free j (by omega) h2) (nmV_inj hi h2 (by omega)), valueAt_other X.noW (nmV_ne_w hi), valueAt_new hf⟩
  rw [List.length_append]
  have := X.size
  simp only [List.length_cons, List.length_nil]
  omega
theorem ne_l3 {a b c : Prop} {R : Addr} {led : List (Addr × Obj)} (h : a ∧ b ∧ c ∧ AllLt R led) : ∀ q ∈ led, q.1 ≠ R := fun q hq => Nat.ne_of_lt (allLt_mem h.2.2.2 q hq)
theorem ne_l4 {a b c d : Prop} {R : Addr} {led : List (Addr × Obj)} (h : a ∧ b ∧ c ∧ d ∧ AllLt R led) : ∀ q ∈ led, q.1 ≠ R := fun q hq => Nat.ne_of_lt (allLt_mem h.2.2.2.2 q hq)
set_option maxHeartbeats 0 in
theorem values_U {PT src : Addr} {x y : Int} {tx ty : Tok} {n : Nat} (hPT : @Ne Nat PT src)
    (B : Below A₀ base outer h₀) (F : Fr h₀ L s.heap m) (X : (KK w.params).In h₀) (N : News h₀ L s.heap [(src, pool x y tx ty n), (PT, tabObj #[])])
    (CB : CodeHd base 999 PT) (T : Top p loose mean mg mb h₀) (XB : (KK w.params).In base) (TB : Top p loose mean mg mb base) (hk : cs.kind = .function) (hx : Pool x y) (hd : dp + 80 ≤ 900) (hu : un + 600 ≤ 1000)
    (ret : ∀ h₀' ps h' tk', UpFr (frs outer) h₀ h₀' → Below A₀ base outer h₀' → Fr h₀' L h' m → News h₀' L h' [(PT, tabObj ps)] → Q (.bool true) { s with heap := h', toks := tk' }) :
    wpAny (model PySem.Challenge.rw_xm0674_01.prog w) (ktrTop dp un gd cn cs L a ccd cl outer) (call (.ref 1320) [.ref src]) Q E s := by
  k_with_none
  k_with "memR" => (first | with_reducible assumption | exact List.Mem.head _ | (refine' List.Mem.tail _ ?_; k_extra "memR"))
  k_with "memD" => (first | exact List.Mem.head _ | assumption | (refine' List.Mem.tail _ ?_; k_extra "memD"))
  k_with "mem" => (first | k_extra "memR" | k_extra "memD")
  k_with "allR" => (first | with_reducible assumption | exact List.forall_mem_nil _ | (refine' List.forall_mem_cons.mpr ⟨?a, ?b⟩; (case a => first | with_reducible assumption | k_ne); (case b => k_extra "allR")))
  k_with "all" => (first | with_reducible assumption | exact List.forall_mem_nil _ | with_reducible (first | exact aa0 (by assumption) | exact aa1 (by assumption) | exact aa2 (by assumption) | exact aa3 (by assumption) | exact aa4 (by assumption) | exact aa5 (by assumption) | exact aa6 (by assumption) | exact aa7 (by assumption) | exact ab0 (by assumption) (by assumption) | exact ab1 (by assumption) (by assumption)) | k_extra "allR" | assumption)
  k_with "cj" => (with_reducible (first | assumption | exact cj0 (by assumption) | exact cj1 (by assumption) | exact cj2 (by assumption) | exact cj3 (by assumption) | exact cj4 (by assumption) | exact cj5 (by assumption) | exact cj6 (by assumption) | exact cj7 (by assumption) | exact cj8 (by assumption) | exact cj9 (by assumption) | exact cj10 (by assumption) | exact cj11 (by assumption) | exact cj12 (by assumption) | exact cj13 (by assumption) | exact cj14 (by assumption) | exact cj15 (by assumption) | exact cj16 (by assumption) | exact cl1 (by assumption) | exact cl2 (by assumption) | exact cl3 (by assumption) | exact cl4 (by assumption) | exact cl5 (by assumption) | exact cl6 (by assumption) | exact cl7 (by assumption) | exact cl8 (by assumption) | exact cl9 (by assumption) | exact cl10 (by assumption) | exact cl11 (by assumption) | exact cl12 (by assumption) | exact cl13 (by assumption) | exact cl14 (by assumption) | exact cl15 (by assumption) | exact cl16 (by assumption) | exact ct0t0x (by assumption) | exact ct0t1x (by assumption) | exact ct0t2x (by assumption) | exact ct1t0x (by assumption) | exact ct1t1x (by assumption) | exact ct1t2x (by assumption) | exact ct2t0x (by assumption) | exact ct2t1x (by assumption) | exact ct2t2x (by assumption) | exact ct3t0x (by assumption) | exact ct3t1x (by assumption) | exact ct3t2x (by assumption) | exact ct4t0x (by assumption) | exact ct4t1x (by assumption) | exact ct4t2x (by assumption)))
  k_with "ne" => ((refine neN ?_; (try dsimp only); first | with_reducible (first | assumption | exact ngt (by assumption) | exact nlt (by assumption) | exact Ne.symm (by assumption)) | with_reducible (first | exact al0 (by assumption) | exact ar0 (by assumption) | exact al1 (by assumption) | exact ar1 (by assumption) | exact al2 (by assumption) | exact ar2 (by assumption) | exact al3 (by assumption) | exact ar3 (by assumption) | exact al4 (by assumption) | exact ar4 (by assumption) | exact al5 (by assumption) | exact ar5 (by assumption) | exact al6 (by assumption) | exact ar6 (by assumption) | exact al7 (by assumption) | exact ar7 (by assumption) | exact al8 (by assumption) | exact ar8 (by assumption) | exact al9 (by assumption) | exact ar9 (by assumption) | exact al10 (by assumption) | exact ar10 (by assumption) | exact al11 (by assumption) | exact ar11 (by assumption) | exact al12 (by assumption) | exact ar12 (by assumption) | exact al13 (by assumption) | exact ar13 (by assumption) | exact al14 (by assumption) | exact ar14 (by assumption) | exact al15 (by assumption) | exact ar15 (by assumption)) | with_reducible (first | exact at0 (by assumption) (by assumption) | exact au0 (by assumption) (by assumption) | exact at1 (by assumption) (by assumption) | exact au1 (by assumption) (by assumption) | exact at2 (by assumption) (by assumption) | exact au2 (by assumption) (by assumption) | exact at3 (by assumption) (by assumption) | exact au3 (by assumption) (by assumption) | exact at4 (by assumption) (by assumption) | exact au4 (by assumption) (by assumption) | exact at5 (by assumption) (by assumption) | exact au5 (by assumption) (by assumption) | exact at6 (by assumption) (by assumption) | exact au6 (by assumption) (by assumption) | exact at7 (by assumption) (by assumption) | exact au7 (by assumption) (by assumption)) | with_reducible (first | exact av0 (by assumption) | exact avs0 (by assumption) | exact av1 (by assumption) | exact avs1 (by assumption) | exact av2 (by assumption) | exact avs2 (by assumption) | exact av3 (by assumption) | exact avs3 (by assumption) | exact av4 (by assumption) | exact avs4 (by assumption) | exact av5 (by assumption) | exact avs5 (by assumption) | exact aw0 (by assumption) | exact aws0 (by assumption) | exact aw1 (by assumption) | exact aws1 (by assumption) | exact aw2 (by assumption) | exact aws2 (by assumption) | exact aw3 (by assumption) | exact aws3 (by assumption) | exact aw4 (by assumption) | exact aws4 (by assumption) | exact aw5 (by assumption) | exact aws5 (by assumption)) | (refine nlt ?_; k_data) | (refine ngt ?_; k_data) | k_data | (refine Ne.symm ?_; k_data) | (refine ngt1 ?_; k_data) | (refine ngt2 ?_; k_data) | (refine nlt1 ?_; k_data) | (refine nlt2 ?_; k_data) | omega))
  k_with "room" => (first | exact room_le2 (by assumption) (by exact rfl) | exact room_lt2 (by assumption) (by exact rfl) | exact room_le1 (by assumption) (by exact rfl) | exact room_lt1 (by assumption) (by exact rfl) | exact room_le3 (by assumption) (by exact rfl) | exact room_lt3 (by assumption) (by exact rfl) | exact room_ltF (by assumption) (by exact rfl) (by exact rfl))
  k_with "units" => (first | exact unit_le2 (by assumption) (by exact rfl) | exact unit_lt2 (by assumption) (by exact rfl) | exact unit_le1 (by assumption) (by exact rfl) | exact unit_lt1 (by assumption) (by exact rfl) | exact unit_le3 (by assumption) (by exact rfl) | exact unit_lt3 (by assumption) (by exact rfl) | exact unit_ltE (by assumption) (by exact rfl) (by exact rfl) | exact unit_ltF (by assumption) (by exact rfl) (by exact rfl))
  k_with "callWith ref nil nil" => (k_here; k_dflt (refine' callWith_K ?k1 ?k2 ?_; (case k1 => k_asm); (case k2 => k_is); k_whole))
  k_with "eval Name" => (k_here; k_dflt (refine' nameX_L ?F ?v ?_ ?a ?b; (case b => exact rfl); (case F => k_asm); (case a => rfl); (case v => rfl); k_whole))
  k_with "eval Name" => (k_here; k_dflt (refine' nameX_K ?F ?X ?T ?e ?_ ?a ?b; (case b => exact rfl); (case F => k_asm); (case X => k_asm); (case T => k_asm); (case a => rfl); (case e => k_is); k_whole))
  k_with "eval Name" => (k_here; k_dflt (refine' nameX_B ?F ?X ?T ?e ?v ?n ?_ ?a ?b; (case b => exact rfl); (case F => k_asm); (case X => k_asm); (case T => k_asm); (case a => rfl); (case e => k_is); (case v => boot_fast); (case n => decide); k_whole))
  k_with "subscriptTail Name Constant ref int" => (k_here; (with_reducible show wpAny _ _ (subscriptTail _ _ (Value.ref _) (Value.int _ _)) _ _ _); k_dflt (first | (refine' item_tupleT ?t ?a ?b ?c ?d ?_; (case t => first | with_reducible assumption | exact News.isTup (by k_asm) (by k_mem)); (case a => decide); (case b => decide); (case c => rfl); (case d => rfl); k_whole) | (refine' topTup_K ?F ?X ?l ?a ?b ?c ?d ?_; (case F => k_asm); (case X => k_asm); (case l => k_is); (case a => decide); (case b => decide); (case c => rfl); (case d => rfl)) | (refine' topList_K ?F ?X ?l ?a ?b ?d ?_; (case F => k_asm); (case X => k_asm); (case l => k_is); (case a => decide); (case b => decide); (case d => rfl); k_whole)))
  k_with "subscriptTail Name Constant ref int" => (k_here; (with_reducible show wpAny _ _ (subscriptTail _ _ (Value.ref _) (Value.int _ _)) _ _ _); (with_unfolding_all refine' item_litK ?k1 ?k2 ?k3 ?k4 ?_ ?k6; (case k1 => is_list); (case k2 => decide); (case k3 => decide); (case k4 => rfl); (case k6 => with_unfolding_all rfl); k_whole))
  k_with "call builtin:list.pop" => (k_here; k_dflt ((with_reducible show wpAny _ _ (call (Value.builtin _) [Value.ref _]) _ _ _); refine' kl_pop ?F ?N ?e ?U ?z ?_; (case F => k_asm); (case N => k_asm); (case U => k_upd); (case e => rfl); (case z => kl_room)); kl_rest)
  k_with "lt" => with_reducible (first | assumption | exact ll0 (by assumption) | exact ll1 (by assumption) | exact ll2 (by assumption) | exact ll3 (by assumption) | exact ll4 (by assumption) | exact ll5 (by assumption) | exact ll6 (by assumption) | exact ll7 (by assumption) | exact ll8 (by assumption) | exact ll9 (by assumption) | exact ll10 (by assumption) | exact ll11 (by assumption) | exact ll12 (by assumption) | exact ll13 (by assumption) | exact la0 (by assumption) | exact la1 (by assumption) | exact la2 (by assumption) | exact la3 (by assumption) | exact la4 (by assumption) | exact la5 (by assumption) | exact la6 (by assumption) | exact la7 (by assumption))
  k_with "keeplt" => skip
  k_with "ite" => with_reducible (first | refine ite_tt ?_ | refine ite_ff ?_)
  k_with "subscriptTail Attribute Name Name ref int" => (walk_at "last subscriptTail")
  k_with "callWith ref cons nil" => (k_here; k_dflt (refine' callWith_K ?k1 ?k2 ?_; (case k1 => k_asm); (case k2 => k_is); k_whole))
  k_with "call ref" => (k_here; (with_reducible show wpAny _ _ (call (Value.ref 1268) _) _ _ _); k_dflt (refine' take_F _ _ _ _ _ _ _ _ _ _ _ _ _ _ _ _ _ _ _ _ _ _ _ _ _ _ _ _ _ _ _ _ _ ?k1 ?k2 ?k3 ?k4 ?k5 ?k6 ?k7 ?k8 ?k9 ?k10 ?k11 ?k12 ?_; (case k1 => k_asm); (case k2 => k_asm); (case k3 => k_asm); (case k4 => k_asm); (case k5 => first | assumption | k_updF); (case k6 => k_asm); (case k7 => first | exact rfl | assumption); (case k8 => assumption); (case k9 => first | with_reducible assumption | decide | omega); (case k10 => first | with_reducible assumption | decide | omega); (case k11 => ktr_room); (case k12 => ktr_units); intro k' t' x' tx' y' ty' n' h' tk' F' N' P' hk0' hk1'; (try dsimp only at N'); (try dsimp only); (try k_fold)))
  k_with "call builtin:list.append" => (k_here; (with_reducible show wpAny _ _ (call (Value.builtin _) [Value.ref _, _]) _ _ _); k_dflt (refine' append_K ?k1 ?k2 ?k3 ?_ ?z; (case k1 => k_asm); (case k2 => k_asm); (case k3 => k_upd); (case z => exact sz_few (by assumption) (by assumption)); k_whole); intro h' F' N'; (try k_sweep))
  k_with "call ref" => (k_here; (with_reducible show wpAny _ _ (call (Value.ref 1294) _) _ _ _); k_dflt (refine' grown_G ?B ?F ?X ?N ?T ?hk ?hd ?hu ?_; (case B => k_asm); (case F => k_asm); (case X => k_asm); (case N => k_asm); (case T => k_asm); (case hk => first | exact rfl | assumption); (case hd => ktr_room); (case hu => ktr_units); intro T0' R' NL' D' p0' p1' p2' p3' p4' xs' led0' t0' t1' t2' t3' t4' u0' u1' u2' u3' u4' h' tk' F' N' G' hNL' hm4' hm3' hm2' hm1' hm0' hoS' hoP' hDS' hDP' hNS'; (try dsimp only); (try k_fold)))
  k_with "call ref" => (k_here; (with_reducible show wpAny _ _ (call (Value.ref 1275) _) _ _ _); k_dflt (refine' one_F _ _ _ _ _ _ _ _ _ _ _ _ _ _ _ _ _ _ _ _ _ _ _ _ _ _ _ _ _ _ _ _ _ _ ?k1 ?k2 ?k3 ?k4 ?k5 ?k13 ?k14 ?k6 ?k7 ?k8 ?k9 ?k10 ?k11 ?k12 ?_; (case k1 => k_asm); (case k2 => k_asm); (case k3 => k_asm); (case k4 => k_asm); (case k5 => first | assumption | k_updF); (case k13 => k_mem); (case k14 => first | assumption | k_ne); (case k6 => k_asm); (case k7 => first | exact rfl | assumption); (case k8 => assumption); (case k9 => exact Nat.le_of_ble_eq_true rfl); (case k10 => exact Nat.le_of_ble_eq_true rfl); (case k11 => ktr_room); (case k12 => ktr_units); intro v' x' tx' y' ty' n' h' tk' hv' F' N' P'; (obtain ⟨s9', t9', e9', p9'⟩ := okS_str (by kernel_rfl) hv'); (subst e9'); (try dsimp only at N'); (try dsimp only); (try k_fold)))
  k_with "call ref" => (k_here; (with_reducible show wpAny _ _ (call (Value.ref 1301) _) _ _ _); k_dflt (refine' number_U _ _ _ _ _ _ _ _ _ _ _ _ _ _ _ _ _ _ _ _ _ _ _ _ _ _ _ _ _ _ _ ?k1 ?k2 ?k3 ?k4 ?k5 ?k6 ?k7 ?k8 ?k9 ?k10 ?_; (case k1 => k_asm); (case k2 => k_asm); (case k3 => k_asm); (case k4 => k_asm); (case k5 => first | assumption | k_updF); (case k6 => k_asm); (case k7 => first | exact rfl | assumption); (case k8 => assumption); (case k9 => ktr_room); (case k10 => ktr_units); intro D' b' i' j' z' ti' tj' t' x' y' tx' ty' n' h' tk' hz' F' N' P'; (try dsimp only at N'); (try dsimp only); (try k_fold)))
  k_with "call ref" => (k_here; (with_reducible show wpAny _ _ (call (Value.ref 1306) _) _ _ _); k_dflt (refine' worth_U ?B ?F ?X ?N ?U ?hNL ?hNs ?m0 ?m1 ?m2 ?m3 ?m4 ?T ?hk ?hx ?hd ?hu ?_; (case B => k_asm); (case F => k_asm); (case X => k_asm); (case N => k_asm); (case U => first | assumption | k_updF); (case hNL => k_mem); (case hNs => assumption); (case m0 => k_mem); (case m1 => k_mem); (case m2 => k_mem); (case m3 => k_mem); (case m4 => k_mem); (case T => k_asm); (case hk => first | exact rfl | assumption); (case hx => assumption); (case hd => ktr_room); (case hu => ktr_units); intro D' told' z' t' T1' oT' x' y' tx' ty' n' h' tk' hT' hf' F' N' P'; (try dsimp only at N' hf'); (try dsimp only); (try k_fold)))
  k_with "setItem ref str" => (k_here; k_dflt (refine' kda_set (knd := PySem.strKind _ _) ?F ?N ?U ?d (strKind_is _ _ _ _) ?z ?_; (case F => k_asm); (case N => k_asm); (case U => k_updF); (case d => assumption); (case z => assumption)); intro h' o' F' N' hd'; (try dsimp only at N'))
  k_with "pyIter ref" =>
    (rename Fr _ _ _ _ => lF')
    (rename News _ _ _ _ => lN')
    (rename IsRange _ _ _ _ _ _ _ _ => lR')
    (with_unfolding_all refine' loop_start (src := src) (PT := PT) ?hh lR' ?k0 ?k1 lF' lN' ?hv ?hp ?hdue ?hs ?hVm ?hPm ?hPT ?hled ?oS ?oV ?oP ?oT ?hVd ?hx ?turn ?fin)
    (case oS => k_dflt assumption)
    (case hv => k_dflt (exact rfl))
    (case hp => k_dflt (exact rfl))
    (case hdue => k_dflt (exact rfl))
    (case hs => k_dflt k_mem)
    (case hVm => k_dflt k_mem)
    (case hPm => k_dflt k_mem)
    (case hPT => k_dflt k_mem)
    (case hled => repeat (first | exact sub_self | refine sub_tail ?_))
    (case hh => k_dflt (exact rfl))
    (case k0 => k_dflt assumption)
    (case k1 => k_dflt assumption)
    (case oT => k_dflt assumption)
    (case oV => k_dflt (first | exact ne_l3 (by assumption) | k_all))
    (case oP => k_dflt (first | exact ne_l4 (by assumption) | k_all))
    (case hVd => k_dflt assumption)
    (case hx => k_dflt assumption)
    (intro I' i' u' x' y' tx' ty' n' oV' kvs' ps' xs' np' td' led' t' it' h' tk' hi' hic' P' hL' lS' lV' lP' lT' F' N')
    (rename (_, W.listOf #[Value.ref _, Value.ref _, Value.ref _, Value.ref _, Value.ref _] 0) ∈ _ => hq5)
    (rename (_, tupO #[Value.int ((1 : Nat) : Int) _, _]) ∈ _ => hq0)
    (rename (_, tupO #[Value.int ((2 : Nat) : Int) _, _]) ∈ _ => hq1)
    (rename (_, tupO #[Value.int ((3 : Nat) : Int) _, _]) ∈ _ => hq2)
    (rename (_, tupO #[Value.int ((4 : Nat) : Int) _, _]) ∈ _ => hq3)
    (rename (_, tupO #[Value.int ((6 : Nat) : Int) _, _]) ∈ _ => hq4)
    (have hb0 := hL'.base _ hq0)
    (have hb1 := hL'.base _ hq1)
    (have hb2 := hL'.base _ hq2)
    (have hb3 := hL'.base _ hq3)
    (have hb4 := hL'.base _ hq4)
    (have hb5 := hL'.base _ hq5)
    (have oS' := hL'.offS)
    (have oV2' := hL'.offV)
    (have oP' := hL'.offP)
    (have oI' := hL'.offI)
    (have hdl' := hL'.due)
    (have hlen' := hL'.len)
    (try dsimp only)
    rotate_left
    (intro I' i' u' x' y' tx' ty' n' oV' kvs' ps' xs' np' td' led' h' tk' hi' P' hL' F' N')
    (try dsimp only)
    rotate_left
  refine wpAny_call ?_
  k_dflt (refine' code_U ?k1 ?k2 ?k3 ?k4 ?k5 ?kA ?kF ?kK ?k6 ?k7 ?k8 ?k9 ?kB ?_ ?c2 ?c3 ?c4 ?c5; (case kA => exact rfl); (case kF => exact rfl); (case kK => assumption); (case k1 => k_asm); (case k2 => k_asm); (case k3 => assumption); (case k4 => k_asm); (case k5 => assumption); (case k6 => k_is); (case k7 => k_is); (case k8 => ktr_room); (case k9 => exact BindsTo.of_eq rfl); (case c5 => decide); (case kB => exact locs rfl); (case c2 => exact rfl); (case c3 => exact rfl); (case c4 => exact rfl); k_whole)
  intro g' L' h' FG' F' N' B' X' T'
  (try dsimp only)
  (try k_fold)
  iterate 62 (first | walk1 | (dsimp only; walk1) | skip)
  case turn =>
    repeat (fail_if_success (with_reducible show wpAny _ _ (call (Value.ref 1306) _) _ _ _)); (first | walk1 | (dsimp only; walk1))
    (rename News _ _ _ _ => lN9)
    (have hN9 := news_tail lN9)
    clear lN9
    iterate 9 (first | walk1 | (dsimp only; walk1) | skip)
    (rename News _ _ _ _ => lN9)
    (rename FreshT _ _ => hfT)
    (have hN8 := news_tail lN9)
    clear lN9
    have hTS := Ne.symm (hfT _ (.tail _ (.tail _ (.head _))) (show Value.type "list" ≠ Value.type "tuple" by decide))
    have hTI := Ne.symm (hfT _ (.tail _ (.head _)) (by show it'.cls ≠ Value.type "tuple"; rw [hic']; decide))
    have hTV := Ne.symm (hfT _ (.tail _ (.tail _ (.tail _ (.head _)))) (by show oV'.cls ≠ Value.type "tuple"; rw [dict_cls hL'.dict]; decide))
    have hTP := Ne.symm (hfT _ (.tail _ (.tail _ (.tail _ (.tail _ (.head _))))) (show Value.type "list" ≠ Value.type "tuple" by decide))
    have hTT := Ne.symm (hfT _ (.tail _ (.tail _ (.tail _ (.tail _ (.tail _ (.head _)))))) (by intro e; nomatch e))
    dsimp only at hTS hTI hTV hTP hTT
    have hsz9 : (List.toArray ps').size ≤ sizeLine := by rw [PySem.sizeLine_eq, List.size_toArray, hL'.len]; omega
    have hkz9 : List.length kvs' ≤ sizeLine := by rw [PySem.sizeLine_eq]; exact Nat.le_trans hL'.size (by omega)
    (rename Tells _ _ _ => hT9)
    have hTl := hT9.len
    have hVd9 := hL'.dict
    iterate 8 (first | walk1 | (dsimp only; walk1) | skip)
    · iterate 67 (first | walk1 | (dsimp only; walk1) | skip)
      (rename Obj.IsDictOf _ _ (stored _ _ _) => hd9)
      obtain ⟨e1, e2, e3, e4, e5, e6⟩ := store_facts hL' hi' hd9
      k_dflt (refine' turn_fin4 (by assumption) (by assumption) hL' (by assumption) ?mI ?mS ?mV ?mP ?mT ?mL lS' lV' lP' lT' ?n1 ?n2 ?n3 ?n4 e1 e2 e3 e4 e5 ?hpt ?hdue ?hm)
      (case mI => k_dflt k_mem)
      (case mS => k_dflt k_mem)
      (case mV => k_dflt k_mem)
      (case mP => k_dflt k_mem)
      (case mT => k_dflt k_mem)
      (case mL => repeat (first | exact sub_self | refine sub_tail ?_))
      (case n1 => refine ⟨?_, ?_, ?_, ?_, ?_⟩ <;> k_ne)
      (case n2 => refine ⟨?_, ?_, ?_, ?_, ?_⟩ <;> k_ne)
      (case n3 => refine ⟨?_, ?_, ?_, ?_, ?_⟩ <;> k_ne)
      (case n4 => exact ⟨hTS, hTV, hTP, hTT, hTI⟩)
      (case hpt => exact .path (.head _) (.var (.tail _ (.head _)) (.tail _ (.tail _ (.head _))) (nmV_ok hi') e6 (hT9.mono fun q hq => by rw [List.mem_singleton.mp hq]; exact .tail _ (.tail _ (.tail _ (.head _))))))
      (case hdue => exact if_pos rfl)
      (case hm => intro y h1 h2; obtain ⟨a1, a2, a3, a4, a5⟩ := names_ne h2; (repeat (first | exact mLoop_off h1 h2 | refine Eq.trans (if_neg (by assumption)) ?_)))
    · iterate 11 (first | walk1 | (dsimp only; walk1) | skip)
      · iterate 9 (first | walk1 | (dsimp only; walk1) | skip)
        (rename (_ ∈ numTab) => hz9)
        have hzl := numTab_len hz9
        iterate 8 (first | walk1 | (dsimp only; walk1) | skip)
        (rename News _ _ _ _ => lN9)
        (have hN9 := news_tail lN9)
        have hbS := news_fun hN9 (.head _) (.tail _ (.tail _ (.tail _ (.tail _ (.head _))))) (by show Value.type "tuple" ≠ Value.type "list"; decide)
        have hbI := news_fun hN9 (.head _) (.tail _ (.tail _ (.tail _ (.head _)))) (by show Value.type "tuple" ≠ it'.cls; rw [hic']; decide)
        have hbV := news_fun hN9 (.head _) (.tail _ (.tail _ (.tail _ (.tail _ (.tail _ (.head _)))))) (by show Value.type "tuple" ≠ oV'.cls; rw [dict_cls hL'.dict]; decide)
        have hbP := news_fun hN9 (.head _) (.tail _ (.tail _ (.tail _ (.tail _ (.tail _ (.tail _ (.head _))))))) (by show Value.type "tuple" ≠ Value.type "list"; decide)
        have hbT := news_fun hN9 (.head _) (.tail _ (.tail _ (.tail _ (.tail _ (.tail _ (.tail _ (.tail _ (.head _)))))))) (by intro e; nomatch e)
        clear lN9
        iterate 42 (first | walk1 | (dsimp only; walk1) | skip)
        k_dflt (refine' turn_fin4 (by assumption) (by assumption) hL' (by assumption) ?mIa ?mSa ?mVa ?mPa ?mTa ?mLa lS' lV' lP' lT' ?n1a ?n2a ?n3a ?n4a hVd9 (by have := hL'.size; omega) (fun _ _ h => h) (fun j h1 h2 => hL'.free j (by omega) h2) hL'.noW ?hpta ?hduea ?hma)
        (case mIa => k_dflt k_mem)
        (case mSa => k_dflt k_mem)
        (case mVa => k_dflt k_mem)
        (case mPa => k_dflt k_mem)
        (case mTa => k_dflt k_mem)
        (case mLa => repeat (first | exact sub_self | refine sub_tail ?_))
        (case n1a => refine ⟨?_, ?_, ?_, ?_, ?_⟩ <;> k_ne)
        (case n2a => refine ⟨?_, ?_, ?_, ?_, ?_⟩ <;> k_ne)
        (case n3a => refine ⟨?_, ?_, ?_, ?_, ?_⟩ <;> k_ne)
        (case n4a => exact ⟨hbS, hbV, hbP, hbT, hbI⟩)
        (case hpta => exact .path (.head _) (.num (.tail _ (.head _)) (.tail _ (.tail _ (.head _))) (.num (.tail _ (.tail _ (.tail _ (.head _)))) hz9)))
        (case hduea => exact if_pos rfl)
        (case hma => intro y h1 h2; obtain ⟨a1, a2, a3, a4, a5⟩ := names_ne h2; (repeat (first | exact mLoop_off h1 h2 | refine Eq.trans (if_neg (by assumption)) ?_)))
      · iterate 19 (first | walk1 | (dsimp only; walk1) | skip)
        · iterate 35 (first | walk1 | (dsimp only; walk1) | skip)
          k_dflt (refine' turn_fin4 (by assumption) (by assumption) hL' (by assumption) ?mIb ?mSb ?mVb ?mPb ?mTb ?mLb lS' lV' lP' lT' ?n1b ?n2b ?n3b ?n4b hVd9 (by have := hL'.size; omega) (fun _ _ h => h) (fun j h1 h2 => hL'.free j (by omega) h2) hL'.noW ?hptb ?hdueb ?hmb)
          (case mIb => k_dflt k_mem)
          (case mSb => k_dflt k_mem)
          (case mVb => k_dflt k_mem)
          (case mPb => k_dflt k_mem)
          (case mTb => k_dflt k_mem)
          (case mLb => repeat (first | exact sub_self | refine sub_tail ?_))
          (case n1b => refine ⟨?_, ?_, ?_, ?_, ?_⟩ <;> k_ne)
          (case n2b => refine ⟨?_, ?_, ?_, ?_, ?_⟩ <;> k_ne)
          (case n3b => refine ⟨?_, ?_, ?_, ?_, ?_⟩ <;> k_ne)
          (case n4b => exact ⟨hTS, hTV, hTP, hTT, hTI⟩)
          (case hptb => exact .path (.head _) (.lit (.tail _ (.head _)) (.tail _ (.tail _ (.head _))) (by assumption)))
          (case hdueb => exact if_pos rfl)
          (case hmb => intro y h1 h2; obtain ⟨a1, a2, a3, a4, a5⟩ := names_ne h2; (repeat (first | exact mLoop_off h1 h2 | refine Eq.trans (if_neg (by assumption)) ?_)))
        · iterate 8 (first | walk1 | (dsimp only; walk1) | skip)
          (rename News _ _ _ _ => lN9)
          have hbS := news_fun lN9 (.head _) (.tail _ (.tail _ (.tail _ (.tail _ (.head _))))) (by show Value.type "tuple" ≠ Value.type "list"; decide)
          have hbI := news_fun lN9 (.head _) (.tail _ (.tail _ (.tail _ (.head _)))) (by show Value.type "tuple" ≠ it'.cls; rw [hic']; decide)
          have hbV := news_fun lN9 (.head _) (.tail _ (.tail _ (.tail _ (.tail _ (.tail _ (.head _)))))) (by show Value.type "tuple" ≠ oV'.cls; rw [dict_cls hL'.dict]; decide)
          have hbP := news_fun lN9 (.head _) (.tail _ (.tail _ (.tail _ (.tail _ (.tail _ (.tail _ (.head _))))))) (by show Value.type "tuple" ≠ Value.type "list"; decide)
          have hbT := news_fun lN9 (.head _) (.tail _ (.tail _ (.tail _ (.tail _ (.tail _ (.tail _ (.tail _ (.head _)))))))) (by intro e; nomatch e)
          iterate 12 (first | walk1 | (dsimp only; walk1) | skip)
          k_dflt (refine' turn_fin1 (by assumption) (by assumption) hL' (by assumption) ?mIc ?mSc ?mVc ?mPc ?mTc ?mLc lS' lV' lP' lT' ?n1c ?hptc ?hduec ?hmc)
          (case mIc => k_dflt k_mem)
          (case mSc => k_dflt k_mem)
          (case mVc => k_dflt k_mem)
          (case mPc => k_dflt k_mem)
          (case mTc => k_dflt k_mem)
          (case mLc => repeat (first | exact sub_self | refine sub_tail ?_))
          (case n1c => exact ⟨hbS, hbV, hbP, hbT, hbI⟩)
          (case hptc => exact .text (.head _) (by assumption))
          (case hduec => exact if_pos rfl)
          (case hmc => intro y h1 h2; obtain ⟨a1, a2, a3, a4, a5⟩ := names_ne h2; (repeat (first | exact mLoop_off h1 h2 | refine Eq.trans (if_neg (by assumption)) ?_)))
  case fin =>
    (rename (_, W.listOf #[Value.ref _, Value.ref _, Value.ref _, Value.ref _, Value.ref _] 0) ∈ _ => hq5)
    (rename (_, tupO #[Value.int ((1 : Nat) : Int) _, _]) ∈ _ => hq0)
    (have hb0 := hL'.base _ hq0)
    (have hb5 := hL'.base _ hq5)
    have hVd9 := hL'.dict
    iterate 12 (first | walk1 | (dsimp only; walk1) | skip)
    k_dflt (refine' item_listL (News.isList ?L1 ?L2) ?L3 ?L4 ?L5 ?_)
    (case L1 => k_asm)
    (case L2 => k_dflt k_mem)
    (case L3 => decide)
    (case L4 => decide)
    (case L5 => exact rfl)
    iterate 1 (first | walk1 | (dsimp only; walk1) | skip)
    k_dflt (refine' item_tupleT (News.isTup ?T1 ?T2) ?T3 ?T4 ?T5 ?T6 ?_)
    (case T1 => k_asm)
    (case T2 => k_dflt k_mem)
    (case T3 => decide)
    (case T4 => decide)
    (case T5 => exact rfl)
    (case T6 => exact rfl)
    repeat (fail_if_success (with_reducible show wpAny _ _ (call (Value.ref 1313) _) _ _ _)); (first | walk1 | (dsimp only; walk1))
    (rename News _ _ _ _ => lN9)
    k_dflt (refine' value_ok (led := led') (kvs := kvs') (ps := ps') (xs := xs') ?vB ?vF ?vX ?vG (news_sub lN9 (sub_cons ?v1 (sub_cons ?v2 (sub_cons ?v3 (sub_cons ?v4 (sub_cons ?v5 ?v6)))))) ?vC hL'.offT ?w1 ?w2 ?w3 ?w4 hVd9 ?w5 hL'.parts ?w6 ?vT ?vk ?vd ?vu ?_)
    (case vB => k_asm)
    (case vF => k_asm)
    (case vX => k_asm)
    (case v1 => k_dflt k_mem)
    (case v2 => k_dflt k_mem)
    (case v3 => k_dflt k_mem)
    (case v4 => k_dflt k_mem)
    (case v5 => k_dflt k_mem)
    (case v6 => repeat (first | exact sub_self | refine sub_tail ?_))
    (case vG => exact TreeG.mono (by assumption) hL'.base)
    (case vC => assumption)
    (case w1 => k_ne)
    (case w2 => k_ne)
    (case w3 => k_ne)
    (case w4 => k_ne)
    (case w5 => assumption)
    (case w6 => (rw [hL'.len]; omega))
    (case vT => k_asm)
    (case vk => exact rfl)
    (case vd => ktr_room)
    (case vu => ktr_units)
    intro c9 oc9 vs9 qual9 tq9 u9 h9 tk9 hq9 hdat9 hvs9 F9 N9
    subst hq9
    iterate 9 (first | walk1 | (dsimp only; walk1) | skip)
    · rename (_ != _) = true => hne9
      exact absurd hne9 (by simp)
    · iterate 36 (first | walk1 | (dsimp only; walk1) | skip)
      (rename News _ _ _ _ => lN8)
      k_dflt (refine' kmk_add_lit (zs := ps' ++ [_]) ?a1 ?a2 (News.isList lN8 ?a3) (News.isList lN8 ?a4) rfl ?_ ?a5)
      (case a1 => k_asm)
      (case a2 => k_asm)
      (case a3 => k_dflt k_mem)
      (case a4 => k_dflt k_mem)
      (case a5 => (show List.length ps' + 1 ≤ sizeLine); rw [PySem.sizeLine_eq, hL'.len]; omega)
      intro D8 h8 F8 N8 l8
      (k_lt l8)
      iterate 4 (first | walk1 | (dsimp only; walk1) | skip)
      k_dflt (refine' value_no (ps := ps') (xs := xs') (kvs := kvs') ?uB ?uF ?uX ?uG (news_sub N8 (sub_cons ?u1 (sub_cons ?u2 (sub_cons ?u3 (sub_cons ?u4 (sub_cons ?u5 (sub_cons ?u6 (sub_cons ?u7 (sub_cons ?u8 (sub_cons ?u9 (l' := led') ?ua)))))))))) hdat9 hvs9 (.head _) (.tail _ (.head _)) (.tail _ (.tail _ (.head _))) w_ok ?ub ?uC ?uo ?q1 ?q2 ?q3 ?q4 hVd9 ?q5 ?q6 ?q7 ?uT ?uXB ?uTB ?uk ?ud ?uu ?_)
      (case uB => k_asm)
      (case uF => k_asm)
      (case uX => k_asm)
      (case u1 => k_dflt k_mem)
      (case u2 => k_dflt k_mem)
      (case u3 => k_dflt k_mem)
      (case u4 => k_dflt k_mem)
      (case u5 => k_dflt k_mem)
      (case u6 => k_dflt k_mem)
      (case u7 => k_dflt k_mem)
      (case u8 => k_dflt k_mem)
      (case u9 => k_dflt k_mem)
      (case ua => repeat (first | exact sub_self | refine sub_tail ?_))
      (case uG => exact TreeG.mono (by assumption) (fun q hq => .tail _ (.tail _ (.tail _ (hL'.base q hq)))))
      (case ub => (rw [hL'.noW]; rfl))
      (case uC => assumption)
      (case uo => exact List.forall_mem_cons.mpr ⟨by k_ne, List.forall_mem_cons.mpr ⟨by k_ne, List.forall_mem_cons.mpr ⟨by k_ne, hL'.offT⟩⟩⟩)
      (case q1 => k_ne)
      (case q2 => k_ne)
      (case q3 => k_ne)
      (case q4 => k_ne)
      (case q5 => assumption)
      (case q6 => exact hL'.parts.mono fun _ _ h => h.mono (fun q hq => .tail _ (.tail _ (.tail _ hq))) fun _ _ h => h)
      (case q7 => (rw [hL'.len]; omega))
      (case uT => k_asm)
      (case uXB => assumption)
      (case uTB => assumption)
      (case uk => exact rfl)
      (case ud => ktr_room)
      (case uu => ktr_units)
      intro g7 t7 h7 tk7 U7 B7 F7 N7
      iterate 4 (first | walk1 | (dsimp only; walk1) | skip)
      have e9 : (Str.ofString "refused" == Str.ofString "refused") = true := by decide +kernel
      simp only [e9]
      iterate 2 (first | walk1 | (dsimp only; walk1) | skip)
      k_dflt (refine' leaveU_ U7 ?k1 ?k2 ?_)
      (case k1 => k_dflt k_asm)
      (case k2 => k_dflt k_asm)
      intro h0' U0' B0' kF kN
      (try dsimp only)
      k_dflt (refine' ret _ _ _ _ U0' B0' kF (news_sub kN (sub_cons (.head _) sub_nil)))
end
end

section -- P1
open PySem PySem.W PyProof.Rows PySem.Calls
section
variable {w : World} {p : Program} {loose : List Str} {mean : ExcName → Option Value} {mg mb : Str → Option Value}
    {dp un : Nat} {gd : Option (List Code)} {cn : Str} {cs : Scope} {a : Addr} {ccd : Value} {cl : List (Str × Addr)} {outer : List Env} {A₀ : Around} {base h₀ : Heap} {L : Addr} {m : Str → Option Value} {s : Shared}
    {Q E : Value → Shared → Prop}
theorem pool_of {x y : Int} (h : 0 ≤ x) : Pool x (y.fmod 2147483647) := ⟨h, Int.fmod_nonneg_of_pos _ (by decide), Int.fmod_lt_of_pos _ (by decide)⟩
set_option maxHeartbeats 0 in
theorem pool_F {ns : List Int} {vs : List Value} {sc : Addr} {news : List (Addr × Obj)}
    (B : Below A₀ base outer h₀) (F : Fr h₀ L s.heap m) (X : (KK w.params).In h₀) (N : News h₀ L s.heap news) (hl : base.IsList sc vs.toArray) (hi : IntsAre vs ns) (hn : PyData.layable0 (.list (ns.map .int)) = true)
    (T : Top p loose mean mg mb h₀) (hk : cs.kind = .function) (hd : dp + 16 ≤ 900) (hu : un + 200 ≤ 1000)
    (ret : ∀ (l' : Addr) x y tx ty h' tk', Pool x y → Fr h₀ L h' m → News h₀ L h' ((l', pool x y tx ty 0) :: news) → (∀ q ∈ news, q.1 < l') → Q (.ref l') { s with heap := h', toks := tk' }) :
    wpAny (model PySem.Challenge.rw_xm0674_01.prog w) (ktrTop dp un gd cn cs L a ccd cl outer) (call (.ref 1261) [.ref sc]) Q E s := by
  k_with_none
  k_with "memR" => (first | with_reducible assumption | exact List.Mem.head _ | (refine' List.Mem.tail _ ?_; k_extra "memR"))
  k_with "memD" => (first | exact List.Mem.head _ | assumption | (refine' List.Mem.tail _ ?_; k_extra "memD"))
  k_with "mem" => (first | k_extra "memR" | k_extra "memD")
  k_with "allR" => (first | with_reducible assumption | exact List.forall_mem_nil _ | (refine' List.forall_mem_cons.mpr ⟨?a, ?b⟩; (case a => first | with_reducible assumption | k_ne); (case b => k_extra "allR")))
  k_with "all" => (first | with_reducible assumption | exact List.forall_mem_nil _ | with_reducible (first | exact aa0 (by assumption) | exact aa1 (by assumption) | exact aa2 (by assumption) | exact aa3 (by assumption) | exact aa4 (by assumption) | exact aa5 (by assumption) | exact aa6 (by assumption) | exact aa7 (by assumption) | exact ab0 (by assumption) (by assumption) | exact ab1 (by assumption) (by assumption)) | k_extra "allR" | assumption)
  k_with "cj" => (with_reducible (first | assumption | exact cj0 (by assumption) | exact cj1 (by assumption) | exact cj2 (by assumption) | exact cj3 (by assumption) | exact cj4 (by assumption) | exact cj5 (by assumption) | exact cj6 (by assumption) | exact cj7 (by assumption) | exact cj8 (by assumption) | exact cj9 (by assumption) | exact cj10 (by assumption) | exact cj11 (by assumption) | exact cj12 (by assumption) | exact cj13 (by assumption) | exact cj14 (by assumption) | exact cj15 (by assumption) | exact cj16 (by assumption) | exact cl1 (by assumption) | exact cl2 (by assumption) | exact cl3 (by assumption) | exact cl4 (by assumption) | exact cl5 (by assumption) | exact cl6 (by assumption) | exact cl7 (by assumption) | exact cl8 (by assumption) | exact cl9 (by assumption) | exact cl10 (by assumption) | exact cl11 (by assumption) | exact cl12 (by assumption) | exact cl13 (by assumption) | exact cl14 (by assumption) | exact cl15 (by assumption) | exact cl16 (by assumption) | exact ct0t0x (by assumption) | exact ct0t1x (by assumption) | exact ct0t2x (by assumption) | exact ct1t0x (by assumption) | exact ct1t1x (by assumption) | exact ct1t2x (by assumption) | exact ct2t0x (by assumption) | exact ct2t1x (by assumption) | exact ct2t2x (by assumption) | exact ct3t0x (by assumption) | exact ct3t1x (by assumption) | exact ct3t2x (by assumption) | exact ct4t0x (by assumption) | exact ct4t1x (by assumption) | exact ct4t2x (by assumption)))
  k_with "ne" => ((refine neN ?_; (try dsimp only); first | with_reducible (first | assumption | exact ngt (by assumption) | exact nlt (by assumption) | exact Ne.symm (by assumption)) | with_reducible (first | exact al0 (by assumption) | exact ar0 (by assumption) | exact al1 (by assumption) | exact ar1 (by assumption) | exact al2 (by assumption) | exact ar2 (by assumption) | exact al3 (by assumption) | exact ar3 (by assumption) | exact al4 (by assumption) | exact ar4 (by assumption) | exact al5 (by assumption) | exact ar5 (by assumption) | exact al6 (by assumption) | exact ar6 (by assumption) | exact al7 (by assumption) | exact ar7 (by assumption) | exact al8 (by assumption) | exact ar8 (by assumption) | exact al9 (by assumption) | exact ar9 (by assumption) | exact al10 (by assumption) | exact ar10 (by assumption) | exact al11 (by assumption) | exact ar11 (by assumption) | exact al12 (by assumption) | exact ar12 (by assumption) | exact al13 (by assumption) | exact ar13 (by assumption) | exact al14 (by assumption) | exact ar14 (by assumption) | exact al15 (by assumption) | exact ar15 (by assumption)) | with_reducible (first | exact at0 (by assumption) (by assumption) | exact au0 (by assumption) (by assumption) | exact at1 (by assumption) (by assumption) | exact au1 (by assumption) (by assumption) | exact at2 (by assumption) (by assumption) | exact au2 (by assumption) (by assumption) | exact at3 (by assumption) (by assumption) | exact au3 (by assumption) (by assumption) | exact at4 (by assumption) (by assumption) | exact au4 (by assumption) (by assumption) | exact at5 (by assumption) (by assumption) | exact au5 (by assumption) (by assumption) | exact at6 (by assumption) (by assumption) | exact au6 (by assumption) (by assumption) | exact at7 (by assumption) (by assumption) | exact au7 (by assumption) (by assumption)) | with_reducible (first | exact av0 (by assumption) | exact avs0 (by assumption) | exact av1 (by assumption) | exact avs1 (by assumption) | exact av2 (by assumption) | exact avs2 (by assumption) | exact av3 (by assumption) | exact avs3 (by assumption) | exact av4 (by assumption) | exact avs4 (by assumption) | exact av5 (by assumption) | exact avs5 (by assumption) | exact aw0 (by assumption) | exact aws0 (by assumption) | exact aw1 (by assumption) | exact aws1 (by assumption) | exact aw2 (by assumption) | exact aws2 (by assumption) | exact aw3 (by assumption) | exact aws3 (by assumption) | exact aw4 (by assumption) | exact aws4 (by assumption) | exact aw5 (by assumption) | exact aws5 (by assumption)) | (refine nlt ?_; k_data) | (refine ngt ?_; k_data) | k_data | (refine Ne.symm ?_; k_data) | (refine ngt1 ?_; k_data) | (refine ngt2 ?_; k_data) | (refine nlt1 ?_; k_data) | (refine nlt2 ?_; k_data) | omega))
  k_with "room" => (first | exact room_le2 (by assumption) (by exact rfl) | exact room_lt2 (by assumption) (by exact rfl) | exact room_le1 (by assumption) (by exact rfl) | exact room_lt1 (by assumption) (by exact rfl) | exact room_le3 (by assumption) (by exact rfl) | exact room_lt3 (by assumption) (by exact rfl) | exact room_ltF (by assumption) (by exact rfl) (by exact rfl))
  k_with "units" => (first | exact unit_le2 (by assumption) (by exact rfl) | exact unit_lt2 (by assumption) (by exact rfl) | exact unit_le1 (by assumption) (by exact rfl) | exact unit_lt1 (by assumption) (by exact rfl) | exact unit_le3 (by assumption) (by exact rfl) | exact unit_lt3 (by assumption) (by exact rfl) | exact unit_ltE (by assumption) (by exact rfl) (by exact rfl) | exact unit_ltF (by assumption) (by exact rfl) (by exact rfl))
  k_with "callWith ref nil nil" => (k_here; k_dflt (refine' callWith_K ?k1 ?k2 ?_; (case k1 => k_asm); (case k2 => k_is); k_whole))
  k_with "eval Name" => (k_here; k_dflt (refine' nameX_L ?F ?v ?_ ?a ?b; (case b => exact rfl); (case F => k_asm); (case a => rfl); (case v => rfl); k_whole))
  k_with "eval Name" => (k_here; k_dflt (refine' nameX_K ?F ?X ?T ?e ?_ ?a ?b; (case b => exact rfl); (case F => k_asm); (case X => k_asm); (case T => k_asm); (case a => rfl); (case e => k_is); k_whole))
  k_with "eval Name" => (k_here; k_dflt (refine' nameX_B ?F ?X ?T ?e ?v ?n ?_ ?a ?b; (case b => exact rfl); (case F => k_asm); (case X => k_asm); (case T => k_asm); (case a => rfl); (case e => k_is); (case v => boot_fast); (case n => decide); k_whole))
  k_with "subscriptTail Name Constant ref int" => (k_here; (with_reducible show wpAny _ _ (subscriptTail _ _ (Value.ref _) (Value.int _ _)) _ _ _); k_dflt (first | (refine' item_tupleT ?t ?a ?b ?c ?d ?_; (case t => first | with_reducible assumption | exact News.isTup (by k_asm) (by k_mem)); (case a => decide); (case b => decide); (case c => rfl); (case d => rfl); k_whole) | (refine' topTup_K ?F ?X ?l ?a ?b ?c ?d ?_; (case F => k_asm); (case X => k_asm); (case l => k_is); (case a => decide); (case b => decide); (case c => rfl); (case d => rfl)) | (refine' topList_K ?F ?X ?l ?a ?b ?d ?_; (case F => k_asm); (case X => k_asm); (case l => k_is); (case a => decide); (case b => decide); (case d => rfl); k_whole)))
  k_with "subscriptTail Name Constant ref int" => (k_here; (with_reducible show wpAny _ _ (subscriptTail _ _ (Value.ref _) (Value.int _ _)) _ _ _); (with_unfolding_all refine' item_litK ?k1 ?k2 ?k3 ?k4 ?_ ?k6; (case k1 => is_list); (case k2 => decide); (case k3 => decide); (case k4 => rfl); (case k6 => with_unfolding_all rfl); k_whole))
  k_with "call builtin:list.pop" => (k_here; k_dflt ((with_reducible show wpAny _ _ (call (Value.builtin _) [Value.ref _]) _ _ _); refine' kl_pop ?F ?N ?e ?U ?z ?_; (case F => k_asm); (case N => k_asm); (case U => k_upd); (case e => rfl); (case z => kl_room)); kl_rest)
  k_with "lt" => with_reducible (first | assumption | exact ll0 (by assumption) | exact ll1 (by assumption) | exact ll2 (by assumption) | exact ll3 (by assumption) | exact ll4 (by assumption) | exact ll5 (by assumption) | exact ll6 (by assumption) | exact ll7 (by assumption) | exact ll8 (by assumption) | exact ll9 (by assumption) | exact ll10 (by assumption) | exact ll11 (by assumption) | exact ll12 (by assumption) | exact ll13 (by assumption) | exact la0 (by assumption) | exact la1 (by assumption) | exact la2 (by assumption) | exact la3 (by assumption) | exact la4 (by assumption) | exact la5 (by assumption) | exact la6 (by assumption) | exact la7 (by assumption))
  k_with "keeplt" => skip
  k_with "ite" => with_reducible (first | refine ite_tt ?_ | refine ite_ff ?_)
  k_with "subscriptTail Attribute Name Name ref int" => (walk_at "last subscriptTail")
  k_with "callWith ref cons nil" => (k_here; k_dflt (refine' callWith_K ?k1 ?k2 ?_; (case k1 => k_asm); (case k2 => k_is); k_whole))
  refine wpAny_call ?_
  k_dflt ktr_enter
  (rename Below _ _ _ _ => lB9)
  k_lift lB9
  k_steps
  all_goals
    refine ret _ _ _ _ _ _ _ ?_ (by assumption) (by assumption) (by assumption)
    exact pool_of (by first | assumption | decide | omega)
end
end

open PySem PySem.W PyProof.Rows PySem.Calls PySem.Spec
theorem place_T : PlaceT := by
  intro w p loose mean mg mb dp un gd cn cs a ccd cl outer A₀ base h₀ L m led s Q E text t1 k t2 B F X N T XB TB hk hl hkl hd hu ret
  exact place_U w p loose mean mg mb dp un gd cn cs a ccd cl outer A₀ base h₀ L m led s Q E text t1 k t2 B F X N T XB TB hk hl hkl hd hu ret
theorem pool_T : PoolT := by
  intro w p loose mean mg mb dp un gd cn cs a ccd cl outer A₀ base h₀ L m s Q E ns vs sc news B F X N hl hi hn T hk hd hu ret
  exact pool_F B F X N hl hi hn T hk hd hu ret
theorem ends_T : EndsT := by
  intro w p loose mean mg mb dp un gd cn cs a ccd cl outer A₀ base h₀ L m s Q E src x y tx ty n PT hPT B F X N T XB TB hk hx hd hu ret
  exact ends_P w p loose mean mg mb dp un gd cn cs a ccd cl outer A₀ base h₀ L m s Q E src x y tx ty n hPT B F X N T XB TB hk hx hd hu ret
theorem values_T : ValuesT := by
  intro w p loose mean mg mb dp un gd cn cs a ccd cl outer A₀ base h₀ L m s Q E PT src x y tx ty n hPT B F X N CB T XB TB hk hx hd hu ret
  exact values_U hPT B F X N CB T XB TB hk hx hd hu ret
end Mine
theorem PySem.Challenge.cw_xm0674_01_holds : PySem.Challenge.rw_xm0674_01.Holds :=
  Mine.top ⟨Mine.place_T, Mine.pool_T, Mine.ends_T, Mine.values_T⟩
