import PyProof.Rows.All
import Wide.All
import OpenK.AllK
import Wide.FinOn
import PySem.Challenge.RW_pc0241_01
open PySem PySem.W PyProof.Rows
set_option Elab.async false
section
local macro_rules | `(tactic| o_head $_) => `(tactic| assumption)
set_option maxRecDepth 100000 in
set_option maxHeartbeats 8000000 in
theorem Mine.h0 (_ : PySem.Challenge.rw_pc0241_01.row.Holds) : PySem.Challenge.rw_pc0241_01.row.Holds := by k_head
end
section
set_option maxRecDepth 100000
set_option linter.unusedVariables false
namespace Mine
noncomputable def hK (P : Params) : Frag := by
  refine (?f : (_ : h0.heap_1 P = (?a2, ?o2) :: (?a3, ?o3) :: ?p15 :: ?p22 :: ?p24 :: ?p25 :: (?a27, ?o27) :: (?a28, ?o28) :: ?p29 :: (?a30, ?o30) :: (?a31, ?o31) :: (?a32, ?o32) :: ?p35 :: ?p42 :: (?a43, ?o43) :: (?a44, ?o44) :: ?p47 :: ?p49 :: ?p50 :: (?a52, ?o52) :: (?a53, ?o53) :: ?p54 :: ?p56 :: ?p57 :: (?a59, ?o59) :: (?a60, ?o60) :: ?p61 :: ?p63 :: ?p64 :: (?a66, ?o66) :: (?a67, ?o67) :: ?p68 :: ?p70 :: ?p71 :: (?a73, ?o73) :: (?a74, ?o74) :: ?p75 :: ?p77 :: ?p78 :: (?a80, ?o80) :: (?a81, ?o81) :: ?p82 :: ?p84 :: ?p85 :: (?a87, ?o87) :: (?a88, ?o88) :: ?p89 :: ?p91 :: ?p92 :: (?a94, ?o94) :: (?a95, ?o95) :: ?p96 :: ?p98 :: ?p99 :: (?a101, ?o101) :: (?a102, ?o102) :: ?p103 :: ?p105 :: ?p106 :: (?a108, ?o108) :: (?a109, ?o109) :: ?p110 :: ?p112 :: ?p113 :: (?a115, ?o115) :: (?a116, ?o116) :: ?p117 :: ?p119 :: ?p120 :: (?a122, ?o122) :: (?a123, ?o123) :: ?p124 :: ?p126 :: ?p127 :: (?a129, ?o129) :: (?a130, ?o130) :: ?p131 :: ?p133 :: ?p134 :: (?a136, ?o136) :: (?a137, ?o137) :: ?p138 :: ?p140 :: ?p141 :: (?a143, ?o143) :: (?a144, ?o144) :: ?p145 :: ?p147 :: ?p148 :: (?a150, ?o150) :: (?a151, ?o151) :: ?p152 :: (?a155, ?o155) :: (?a156, ?o156) :: ?p157 :: (?a160, ?o160) :: (?a161, ?o161) :: ?p162 :: ?p164 :: ?p165 :: (?a167, ?o167) :: (?a168, ?o168) :: ?p169 :: ?p171 :: ?p172 :: (?a174, ?o174) :: (?a175, ?o175) :: ?p176 :: ?p178 :: ?p179 :: (?a181, ?o181) :: (?a182, ?o182) :: ?p183 :: ?p185 :: ?p186 :: (?a188, ?o188) :: (?a189, ?o189) :: ?p190 :: ?p192 :: ?p193 :: (?a195, ?o195) :: (?a196, ?o196) :: ?p197 :: (?a200, ?o200) :: (?a201, ?o201) :: ?p202 :: ?p204 :: ?p205 :: (?a207, ?o207) :: (?a208, ?o208) :: ?p209 :: ?p211 :: ?p212 :: (?a214, ?o214) :: (?a215, ?o215) :: ?p216 :: ?p218 :: ?p219 :: (?a221, ?o221) :: (?a222, ?o222) :: ?p223 :: (?a226, ?o226) :: (?a227, ?o227) :: ?p228 :: ?p230 :: ?p231 :: (?a233, ?o233) :: (?a234, ?o234) :: []) → Frag) ?h
  (case f => exact fun _ => (?a2, ?o2) :: (?a3, ?o3) :: (?a27, ?o27) :: (?a28, ?o28) :: (?a30, ?o30) :: (?a31, ?o31) :: (?a32, ?o32) :: (?a43, ?o43) :: (?a44, ?o44) :: (?a52, ?o52) :: (?a53, ?o53) :: (?a59, ?o59) :: (?a60, ?o60) :: (?a66, ?o66) :: (?a67, ?o67) :: (?a73, ?o73) :: (?a74, ?o74) :: (?a80, ?o80) :: (?a81, ?o81) :: (?a87, ?o87) :: (?a88, ?o88) :: (?a94, ?o94) :: (?a95, ?o95) :: (?a101, ?o101) :: (?a102, ?o102) :: (?a108, ?o108) :: (?a109, ?o109) :: (?a115, ?o115) :: (?a116, ?o116) :: (?a122, ?o122) :: (?a123, ?o123) :: (?a129, ?o129) :: (?a130, ?o130) :: (?a136, ?o136) :: (?a137, ?o137) :: (?a143, ?o143) :: (?a144, ?o144) :: (?a150, ?o150) :: (?a151, ?o151) :: (?a155, ?o155) :: (?a156, ?o156) :: (?a160, ?o160) :: (?a161, ?o161) :: (?a167, ?o167) :: (?a168, ?o168) :: (?a174, ?o174) :: (?a175, ?o175) :: (?a181, ?o181) :: (?a182, ?o182) :: (?a188, ?o188) :: (?a189, ?o189) :: (?a195, ?o195) :: (?a196, ?o196) :: (?a200, ?o200) :: (?a201, ?o201) :: (?a207, ?o207) :: (?a208, ?o208) :: (?a214, ?o214) :: (?a215, ?o215) :: (?a221, ?o221) :: (?a222, ?o222) :: (?a226, ?o226) :: (?a227, ?o227) :: (?a233, ?o233) :: (?a234, ?o234) :: [])
  (case h => exact rfl)
noncomputable def d2 (P : Params) : Obj := by
  refine (?f : (_ : List.drop 0 (h0.heap_1 P) = (_, ?o) :: ?r) → Obj) ?h
  (case f => exact fun _ => ?o)
  (case h => exact rfl)
noncomputable def d3 (P : Params) : Obj := by
  refine (?f : (_ : List.drop 1 (h0.heap_1 P) = (_, ?o) :: ?r) → Obj) ?h
  (case f => exact fun _ => ?o)
  (case h => exact rfl)
noncomputable def d27 (P : Params) : Obj := by
  refine (?f : (_ : List.drop 6 (h0.heap_1 P) = (_, ?o) :: ?r) → Obj) ?h
  (case f => exact fun _ => ?o)
  (case h => exact rfl)
noncomputable def d28 (P : Params) : Obj := by
  refine (?f : (_ : List.drop 7 (h0.heap_1 P) = (_, ?o) :: ?r) → Obj) ?h
  (case f => exact fun _ => ?o)
  (case h => exact rfl)
noncomputable def d30 (P : Params) : Obj := by
  refine (?f : (_ : List.drop 9 (h0.heap_1 P) = (_, ?o) :: ?r) → Obj) ?h
  (case f => exact fun _ => ?o)
  (case h => exact rfl)
noncomputable def d31 (P : Params) : Obj := by
  refine (?f : (_ : List.drop 10 (h0.heap_1 P) = (_, ?o) :: ?r) → Obj) ?h
  (case f => exact fun _ => ?o)
  (case h => exact rfl)
noncomputable def d32 (P : Params) : Obj := by
  refine (?f : (_ : List.drop 11 (h0.heap_1 P) = (_, ?o) :: ?r) → Obj) ?h
  (case f => exact fun _ => ?o)
  (case h => exact rfl)
noncomputable def d43 (P : Params) : Obj := by
  refine (?f : (_ : List.drop 14 (h0.heap_1 P) = (_, ?o) :: ?r) → Obj) ?h
  (case f => exact fun _ => ?o)
  (case h => exact rfl)
noncomputable def d44 (P : Params) : Obj := by
  refine (?f : (_ : List.drop 15 (h0.heap_1 P) = (_, ?o) :: ?r) → Obj) ?h
  (case f => exact fun _ => ?o)
  (case h => exact rfl)
noncomputable def d52 (P : Params) : Obj := by
  refine (?f : (_ : List.drop 19 (h0.heap_1 P) = (_, ?o) :: ?r) → Obj) ?h
  (case f => exact fun _ => ?o)
  (case h => exact rfl)
noncomputable def d53 (P : Params) : Obj := by
  refine (?f : (_ : List.drop 20 (h0.heap_1 P) = (_, ?o) :: ?r) → Obj) ?h
  (case f => exact fun _ => ?o)
  (case h => exact rfl)
noncomputable def d59 (P : Params) : Obj := by
  refine (?f : (_ : List.drop 24 (h0.heap_1 P) = (_, ?o) :: ?r) → Obj) ?h
  (case f => exact fun _ => ?o)
  (case h => exact rfl)
noncomputable def d60 (P : Params) : Obj := by
  refine (?f : (_ : List.drop 25 (h0.heap_1 P) = (_, ?o) :: ?r) → Obj) ?h
  (case f => exact fun _ => ?o)
  (case h => exact rfl)
noncomputable def d66 (P : Params) : Obj := by
  refine (?f : (_ : List.drop 29 (h0.heap_1 P) = (_, ?o) :: ?r) → Obj) ?h
  (case f => exact fun _ => ?o)
  (case h => exact rfl)
noncomputable def d67 (P : Params) : Obj := by
  refine (?f : (_ : List.drop 30 (h0.heap_1 P) = (_, ?o) :: ?r) → Obj) ?h
  (case f => exact fun _ => ?o)
  (case h => exact rfl)
noncomputable def d73 (P : Params) : Obj := by
  refine (?f : (_ : List.drop 34 (h0.heap_1 P) = (_, ?o) :: ?r) → Obj) ?h
  (case f => exact fun _ => ?o)
  (case h => exact rfl)
noncomputable def d74 (P : Params) : Obj := by
  refine (?f : (_ : List.drop 35 (h0.heap_1 P) = (_, ?o) :: ?r) → Obj) ?h
  (case f => exact fun _ => ?o)
  (case h => exact rfl)
noncomputable def d80 (P : Params) : Obj := by
  refine (?f : (_ : List.drop 39 (h0.heap_1 P) = (_, ?o) :: ?r) → Obj) ?h
  (case f => exact fun _ => ?o)
  (case h => exact rfl)
noncomputable def d81 (P : Params) : Obj := by
  refine (?f : (_ : List.drop 40 (h0.heap_1 P) = (_, ?o) :: ?r) → Obj) ?h
  (case f => exact fun _ => ?o)
  (case h => exact rfl)
noncomputable def d87 (P : Params) : Obj := by
  refine (?f : (_ : List.drop 44 (h0.heap_1 P) = (_, ?o) :: ?r) → Obj) ?h
  (case f => exact fun _ => ?o)
  (case h => exact rfl)
noncomputable def d88 (P : Params) : Obj := by
  refine (?f : (_ : List.drop 45 (h0.heap_1 P) = (_, ?o) :: ?r) → Obj) ?h
  (case f => exact fun _ => ?o)
  (case h => exact rfl)
noncomputable def d94 (P : Params) : Obj := by
  refine (?f : (_ : List.drop 49 (h0.heap_1 P) = (_, ?o) :: ?r) → Obj) ?h
  (case f => exact fun _ => ?o)
  (case h => exact rfl)
noncomputable def d95 (P : Params) : Obj := by
  refine (?f : (_ : List.drop 50 (h0.heap_1 P) = (_, ?o) :: ?r) → Obj) ?h
  (case f => exact fun _ => ?o)
  (case h => exact rfl)
noncomputable def d101 (P : Params) : Obj := by
  refine (?f : (_ : List.drop 54 (h0.heap_1 P) = (_, ?o) :: ?r) → Obj) ?h
  (case f => exact fun _ => ?o)
  (case h => exact rfl)
noncomputable def d102 (P : Params) : Obj := by
  refine (?f : (_ : List.drop 55 (h0.heap_1 P) = (_, ?o) :: ?r) → Obj) ?h
  (case f => exact fun _ => ?o)
  (case h => exact rfl)
noncomputable def d108 (P : Params) : Obj := by
  refine (?f : (_ : List.drop 59 (h0.heap_1 P) = (_, ?o) :: ?r) → Obj) ?h
  (case f => exact fun _ => ?o)
  (case h => exact rfl)
noncomputable def d109 (P : Params) : Obj := by
  refine (?f : (_ : List.drop 60 (h0.heap_1 P) = (_, ?o) :: ?r) → Obj) ?h
  (case f => exact fun _ => ?o)
  (case h => exact rfl)
noncomputable def d115 (P : Params) : Obj := by
  refine (?f : (_ : List.drop 64 (h0.heap_1 P) = (_, ?o) :: ?r) → Obj) ?h
  (case f => exact fun _ => ?o)
  (case h => exact rfl)
noncomputable def d116 (P : Params) : Obj := by
  refine (?f : (_ : List.drop 65 (h0.heap_1 P) = (_, ?o) :: ?r) → Obj) ?h
  (case f => exact fun _ => ?o)
  (case h => exact rfl)
noncomputable def d122 (P : Params) : Obj := by
  refine (?f : (_ : List.drop 69 (h0.heap_1 P) = (_, ?o) :: ?r) → Obj) ?h
  (case f => exact fun _ => ?o)
  (case h => exact rfl)
noncomputable def d123 (P : Params) : Obj := by
  refine (?f : (_ : List.drop 70 (h0.heap_1 P) = (_, ?o) :: ?r) → Obj) ?h
  (case f => exact fun _ => ?o)
  (case h => exact rfl)
noncomputable def d129 (P : Params) : Obj := by
  refine (?f : (_ : List.drop 74 (h0.heap_1 P) = (_, ?o) :: ?r) → Obj) ?h
  (case f => exact fun _ => ?o)
  (case h => exact rfl)
noncomputable def d130 (P : Params) : Obj := by
  refine (?f : (_ : List.drop 75 (h0.heap_1 P) = (_, ?o) :: ?r) → Obj) ?h
  (case f => exact fun _ => ?o)
  (case h => exact rfl)
noncomputable def d136 (P : Params) : Obj := by
  refine (?f : (_ : List.drop 79 (h0.heap_1 P) = (_, ?o) :: ?r) → Obj) ?h
  (case f => exact fun _ => ?o)
  (case h => exact rfl)
noncomputable def d137 (P : Params) : Obj := by
  refine (?f : (_ : List.drop 80 (h0.heap_1 P) = (_, ?o) :: ?r) → Obj) ?h
  (case f => exact fun _ => ?o)
  (case h => exact rfl)
noncomputable def d143 (P : Params) : Obj := by
  refine (?f : (_ : List.drop 84 (h0.heap_1 P) = (_, ?o) :: ?r) → Obj) ?h
  (case f => exact fun _ => ?o)
  (case h => exact rfl)
noncomputable def d144 (P : Params) : Obj := by
  refine (?f : (_ : List.drop 85 (h0.heap_1 P) = (_, ?o) :: ?r) → Obj) ?h
  (case f => exact fun _ => ?o)
  (case h => exact rfl)
noncomputable def d150 (P : Params) : Obj := by
  refine (?f : (_ : List.drop 89 (h0.heap_1 P) = (_, ?o) :: ?r) → Obj) ?h
  (case f => exact fun _ => ?o)
  (case h => exact rfl)
noncomputable def d151 (P : Params) : Obj := by
  refine (?f : (_ : List.drop 90 (h0.heap_1 P) = (_, ?o) :: ?r) → Obj) ?h
  (case f => exact fun _ => ?o)
  (case h => exact rfl)
noncomputable def d155 (P : Params) : Obj := by
  refine (?f : (_ : List.drop 92 (h0.heap_1 P) = (_, ?o) :: ?r) → Obj) ?h
  (case f => exact fun _ => ?o)
  (case h => exact rfl)
noncomputable def d156 (P : Params) : Obj := by
  refine (?f : (_ : List.drop 93 (h0.heap_1 P) = (_, ?o) :: ?r) → Obj) ?h
  (case f => exact fun _ => ?o)
  (case h => exact rfl)
noncomputable def d160 (P : Params) : Obj := by
  refine (?f : (_ : List.drop 95 (h0.heap_1 P) = (_, ?o) :: ?r) → Obj) ?h
  (case f => exact fun _ => ?o)
  (case h => exact rfl)
noncomputable def d161 (P : Params) : Obj := by
  refine (?f : (_ : List.drop 96 (h0.heap_1 P) = (_, ?o) :: ?r) → Obj) ?h
  (case f => exact fun _ => ?o)
  (case h => exact rfl)
noncomputable def d167 (P : Params) : Obj := by
  refine (?f : (_ : List.drop 100 (h0.heap_1 P) = (_, ?o) :: ?r) → Obj) ?h
  (case f => exact fun _ => ?o)
  (case h => exact rfl)
noncomputable def d168 (P : Params) : Obj := by
  refine (?f : (_ : List.drop 101 (h0.heap_1 P) = (_, ?o) :: ?r) → Obj) ?h
  (case f => exact fun _ => ?o)
  (case h => exact rfl)
noncomputable def d174 (P : Params) : Obj := by
  refine (?f : (_ : List.drop 105 (h0.heap_1 P) = (_, ?o) :: ?r) → Obj) ?h
  (case f => exact fun _ => ?o)
  (case h => exact rfl)
noncomputable def d175 (P : Params) : Obj := by
  refine (?f : (_ : List.drop 106 (h0.heap_1 P) = (_, ?o) :: ?r) → Obj) ?h
  (case f => exact fun _ => ?o)
  (case h => exact rfl)
noncomputable def d181 (P : Params) : Obj := by
  refine (?f : (_ : List.drop 110 (h0.heap_1 P) = (_, ?o) :: ?r) → Obj) ?h
  (case f => exact fun _ => ?o)
  (case h => exact rfl)
noncomputable def d182 (P : Params) : Obj := by
  refine (?f : (_ : List.drop 111 (h0.heap_1 P) = (_, ?o) :: ?r) → Obj) ?h
  (case f => exact fun _ => ?o)
  (case h => exact rfl)
noncomputable def d188 (P : Params) : Obj := by
  refine (?f : (_ : List.drop 115 (h0.heap_1 P) = (_, ?o) :: ?r) → Obj) ?h
  (case f => exact fun _ => ?o)
  (case h => exact rfl)
noncomputable def d189 (P : Params) : Obj := by
  refine (?f : (_ : List.drop 116 (h0.heap_1 P) = (_, ?o) :: ?r) → Obj) ?h
  (case f => exact fun _ => ?o)
  (case h => exact rfl)
noncomputable def d195 (P : Params) : Obj := by
  refine (?f : (_ : List.drop 120 (h0.heap_1 P) = (_, ?o) :: ?r) → Obj) ?h
  (case f => exact fun _ => ?o)
  (case h => exact rfl)
noncomputable def d196 (P : Params) : Obj := by
  refine (?f : (_ : List.drop 121 (h0.heap_1 P) = (_, ?o) :: ?r) → Obj) ?h
  (case f => exact fun _ => ?o)
  (case h => exact rfl)
noncomputable def d200 (P : Params) : Obj := by
  refine (?f : (_ : List.drop 123 (h0.heap_1 P) = (_, ?o) :: ?r) → Obj) ?h
  (case f => exact fun _ => ?o)
  (case h => exact rfl)
noncomputable def d201 (P : Params) : Obj := by
  refine (?f : (_ : List.drop 124 (h0.heap_1 P) = (_, ?o) :: ?r) → Obj) ?h
  (case f => exact fun _ => ?o)
  (case h => exact rfl)
noncomputable def d207 (P : Params) : Obj := by
  refine (?f : (_ : List.drop 128 (h0.heap_1 P) = (_, ?o) :: ?r) → Obj) ?h
  (case f => exact fun _ => ?o)
  (case h => exact rfl)
noncomputable def d208 (P : Params) : Obj := by
  refine (?f : (_ : List.drop 129 (h0.heap_1 P) = (_, ?o) :: ?r) → Obj) ?h
  (case f => exact fun _ => ?o)
  (case h => exact rfl)
noncomputable def d214 (P : Params) : Obj := by
  refine (?f : (_ : List.drop 133 (h0.heap_1 P) = (_, ?o) :: ?r) → Obj) ?h
  (case f => exact fun _ => ?o)
  (case h => exact rfl)
noncomputable def d215 (P : Params) : Obj := by
  refine (?f : (_ : List.drop 134 (h0.heap_1 P) = (_, ?o) :: ?r) → Obj) ?h
  (case f => exact fun _ => ?o)
  (case h => exact rfl)
noncomputable def d221 (P : Params) : Obj := by
  refine (?f : (_ : List.drop 138 (h0.heap_1 P) = (_, ?o) :: ?r) → Obj) ?h
  (case f => exact fun _ => ?o)
  (case h => exact rfl)
noncomputable def d222 (P : Params) : Obj := by
  refine (?f : (_ : List.drop 139 (h0.heap_1 P) = (_, ?o) :: ?r) → Obj) ?h
  (case f => exact fun _ => ?o)
  (case h => exact rfl)
noncomputable def d226 (P : Params) : Obj := by
  refine (?f : (_ : List.drop 141 (h0.heap_1 P) = (_, ?o) :: ?r) → Obj) ?h
  (case f => exact fun _ => ?o)
  (case h => exact rfl)
noncomputable def d227 (P : Params) : Obj := by
  refine (?f : (_ : List.drop 142 (h0.heap_1 P) = (_, ?o) :: ?r) → Obj) ?h
  (case f => exact fun _ => ?o)
  (case h => exact rfl)
noncomputable def d233 (P : Params) : Obj := by
  refine (?f : (_ : List.drop 146 (h0.heap_1 P) = (_, ?o) :: ?r) → Obj) ?h
  (case f => exact fun _ => ?o)
  (case h => exact rfl)
noncomputable def d234 (P : Params) : Obj := by
  refine (?f : (_ : List.drop 147 (h0.heap_1 P) = (_, ?o) :: ?r) → Obj) ?h
  (case f => exact fun _ => ?o)
  (case h => exact rfl)
noncomputable def e0 (P : Params) : List (Nat × Obj) := [(2, d2 P), (3, d3 P), (27, d27 P), (28, d28 P), (30, d30 P), (31, d31 P), (32, d32 P), (43, d43 P), (44, d44 P)]
noncomputable def e1 (P : Params) : List (Nat × Obj) := [(52, d52 P), (53, d53 P), (59, d59 P), (60, d60 P), (66, d66 P), (67, d67 P), (73, d73 P), (74, d74 P), (80, d80 P)]
noncomputable def e2 (P : Params) : List (Nat × Obj) := [(81, d81 P), (87, d87 P), (88, d88 P), (94, d94 P), (95, d95 P), (101, d101 P), (102, d102 P), (108, d108 P), (109, d109 P)]
noncomputable def e3 (P : Params) : List (Nat × Obj) := [(115, d115 P), (116, d116 P), (122, d122 P), (123, d123 P), (129, d129 P), (130, d130 P), (136, d136 P), (137, d137 P), (143, d143 P)]
noncomputable def e4 (P : Params) : List (Nat × Obj) := [(144, d144 P), (150, d150 P), (151, d151 P), (155, d155 P), (156, d156 P), (160, d160 P), (161, d161 P), (167, d167 P), (168, d168 P)]
noncomputable def e5 (P : Params) : List (Nat × Obj) := [(174, d174 P), (175, d175 P), (181, d181 P), (182, d182 P), (188, d188 P), (189, d189 P), (195, d195 P), (196, d196 P), (200, d200 P)]
noncomputable def e6 (P : Params) : List (Nat × Obj) := [(201, d201 P), (207, d207 P), (208, d208 P), (214, d214 P), (215, d215 P), (221, d221 P), (222, d222 P), (226, d226 P), (227, d227 P)]
noncomputable def e7 (P : Params) : List (Nat × Obj) := [(233, d233 P), (234, d234 P)]
noncomputable def KC (P : Params) : Frag := List.append (e0 P) (List.append (e1 P) (List.append (e2 P) (List.append (e3 P) (List.append (e4 P) (List.append (e5 P) (List.append (e6 P) (e7 P)))))))
theorem KC_eq (P : Params) : KC P = hK P := by kernel_rfl
end Mine
local macro_rules | `(tactic| k_head) => `(tactic| o_head (kHook Mine.KC [2, 3, 27, 28, 30, 31, 32, 43, 44, 52, 53, 59, 60, 66, 67, 73, 74, 80, 81, 87, 88, 94, 95, 101, 102, 108, 109, 115, 116, 122, 123, 129, 130, 136, 137, 143, 144, 150, 151, 155, 156, 160, 161, 167, 168, 174, 175, 181, 182, 188, 189, 195, 196, 200, 201, 207, 208, 214, 215, 221, 222, 226, 227, 233, 234] (fun _ => by kernel_rfl)))
set_option maxRecDepth 100000 in
set_option maxHeartbeats 8000000 in
open_top Mine.hd for PySem.Challenge.rw_pc0241_01
end
local macro_rules | `(tactic| walk_at $s:str) => `(tactic| k_extra $s)
section
open PySem PySem.W PySem.Calls PyProof.Rows PySem.Builtin.Str
set_option maxRecDepth 100000
namespace Mine

/-! texts as lists of codes -/
abbrev co (x : Str) : List Nat := x.cps.toList
theorem co_len (x : Str) : (co x).length = x.length := by simp [co, Str.length]
theorem str_ext {x y : Str} (h : co x = co y) : x = y := by
  obtain ⟨a⟩ := x; obtain ⟨b⟩ := y
  simp only [co] at h
  rw [Array.toList_inj.mp h]
theorem co_append (x y : Str) : co (x ++ y) = co x ++ co y := by
  show (x.cps ++ y.cps).toList = _
  simp

theorem clampI {a : Int} {A len : Nat} (h0 : 0 ≤ a) (h1 : A = min a.toNat len) : max 0 (min (if a < 0 then a + len else a) (len : Int)) = (A : Int) := by
  obtain ⟨n, rfl⟩ := Int.eq_ofNat_of_zero_le h0
  rw [Int.toNat_natCast] at h1
  rw [if_neg (Int.not_lt.mpr h0), h1]
  rcases Nat.le_total n len with h | h
  · rw [Nat.min_eq_left h, Int.min_eq_left (Int.ofNat_le.mpr h), Int.max_eq_right h0]
  · rw [Nat.min_eq_right h, Int.min_eq_right (Int.ofNat_le.mpr h), Int.max_eq_right (Int.natCast_nonneg _)]
theorem idx_eq (lo hi : Option Int) (A B len : Nat)
    (hl : (match lo with | none => A = 0 | some a => 0 ≤ a ∧ A = min a.toNat len))
    (hh : (match hi with | none => B = len | some b => 0 ≤ b ∧ B = min b.toNat len)) :
    strSliceIndices lo hi 1 len = (List.range (B - A)).map (fun k => A + k) := by
  have e1 : (match lo with | none => (0:Int) | some i => max 0 (min (if i < 0 then i + len else i) len)) = (A : Int) := by
    cases lo with
    | none => simp at hl; simp [hl]
    | some a => exact clampI hl.1 hl.2
  have e2 : (match hi with | none => (len:Int) | some i => max 0 (min (if i < 0 then i + len else i) len)) = (B : Int) := by
    cases hi with
    | none => simp at hh; simp [hh]
    | some a => exact clampI hh.1 hh.2
  simp only [strSliceIndices, show ((1 : Int) > 0) = True by simp, if_true]
  have e3 : sliceRange (A : Int) (B : Int) 1 = (List.range (B - A)).map (fun k => A + k) := by
    by_cases hlt : (A : Int) < B
    · have e4 : (((B : Int) - A + 1 - 1) / 1).toNat = B - A := by rw [Int.ediv_one, Int.add_sub_cancel, Int.toNat_sub]
      simp only [sliceRange, show ((1 : Int) > 0) = True by simp, if_true, hlt, e4]
      refine List.map_congr_left fun k _ => ?_
      rw [Int.one_mul, ← Int.natCast_add, Int.toNat_natCast]
    · have : B - A = 0 := Nat.sub_eq_zero_of_le (Int.ofNat_le.mp (Int.not_lt.mp hlt))
      simp [sliceRange, hlt, this]
  rw [← e3, ← e1, ← e2]
  cases lo <;> cases hi <;> rfl
theorem picked (x : Str) (A B : Nat) (hB : B ≤ x.length) :
    ((List.range (B - A)).map (fun k => A + k)).filterMap (x.cps[·]?) = ((co x).take B).drop A := by
  by_cases h : A ≤ B
  · have := StrLaws.picks (co x) (B - A) A (by rw [co_len]; omega)
    rw [List.drop_take]
    simpa using this
  · have : B - A = 0 := by omega
    simp [this, List.drop_eq_nil_iff]
    omega
theorem co_slice (x : Str) (lo hi : Option Int) (A B : Nat)
    (hl : (match lo with | none => A = 0 | some a => 0 ≤ a ∧ A = min a.toNat x.length))
    (hh : (match hi with | none => B = x.length | some b => 0 ≤ b ∧ B = min b.toNat x.length)) :
    co (Txt.slice x lo hi) = ((co x).take B).drop A := by
  have hB : B ≤ x.length := by cases hi <;> simp at hh <;> omega
  have e := idx_eq lo hi A B x.length hl hh
  have p := picked x A B hB
  unfold Txt.slice
  rw [e]
  split
  · rename_i h
    simp only [beq_self_eq_true, Bool.true_and, List.length_map, List.length_range, beq_iff_eq] at h
    have hA : A = 0 ∨ x.length = 0 := by omega
    rcases hA with rfl | h0
    · have hb : B = x.length := by omega
      rw [hb, ← co_len, List.take_length]; rfl
    · have : co x = [] := List.eq_nil_of_length_eq_zero (by rw [co_len]; exact h0)
      simp [this]
  · exact p
theorem co_slice_ss (x : Str) {a b : Int} (ha : 0 ≤ a) (hb : 0 ≤ b) : co (Txt.slice x (some a) (some b)) = ((co x).take b.toNat).drop a.toNat := by
  rw [co_slice x (some a) (some b) (min a.toNat x.length) (min b.toNat x.length) ⟨ha, rfl⟩ ⟨hb, rfl⟩]
  have h1 : (co x).take (min b.toNat x.length) = (co x).take b.toNat := by
    rw [← co_len]; simp [List.take_eq_take_iff]
  rw [h1]
  by_cases h : a.toNat ≤ x.length
  · rw [Nat.min_eq_left h]
  · rw [List.drop_eq_nil_iff.mpr, List.drop_eq_nil_iff.mpr] <;> (simp only [List.length_take, co_len]; omega)
theorem co_slice_sn (x : Str) {a : Int} (ha : 0 ≤ a) : co (Txt.slice x (some a) none) = (co x).drop a.toNat := by
  rw [co_slice x (some a) none (min a.toNat x.length) x.length ⟨ha, rfl⟩ rfl, ← co_len, List.take_length]
  by_cases h : a.toNat ≤ (co x).length
  · rw [Nat.min_eq_left h]
  · rw [List.drop_eq_nil_iff.mpr, List.drop_eq_nil_iff.mpr] <;> omega
theorem co_slice_ns (x : Str) {b : Int} (hb : 0 ≤ b) : co (Txt.slice x none (some b)) = (co x).take b.toNat := by
  rw [co_slice x none (some b) 0 (min b.toNat x.length) rfl ⟨hb, rfl⟩, List.drop_zero, ← co_len]
  simp [List.take_eq_take_iff]
theorem co_item (x : Str) {k : Int} (h0 : 0 ≤ k) (h1 : k < x.length) : co (Txt.item x k) = [(co x).getD k.toNat 0] := by
  have h2 : k.toNat < x.cps.size := by unfold Str.length at h1; omega
  have : ¬ k < 0 := by omega
  have h3 : k < (x.cps.size : Int) := h1
  simp [co, Txt.item, Txt.charAt, seqIndex?, h0, h3, this, h2, Str.length]

/-! single signs -/
noncomputable def dig (c : Nat) : Bool := decide (48 ≤ c) && decide (c ≤ 57)
noncomputable def blk (c : Nat) : Bool := c == 32 || c == 9 || c == 10 || c == 13 || c == 11 || c == 12
noncomputable def sgn (c : Nat) : Bool := c == 43 || c == 45
noncomputable def isE (c : Nat) : Bool := c == 101 || c == 69
noncomputable def atIs (p : Nat → Bool) (x : Str) (k : Int) : Bool := match (co x)[k.toNat]? with | some c => p c | none => false

theorem atIs_lt {p : Nat → Bool} {x : Str} {k : Int} (h0 : 0 ≤ k) (h : atIs p x k = true) : k < x.length := by
  unfold atIs at h
  split at h
  · rename_i c hc
    have := (List.getElem?_eq_some_iff.mp hc).1
    rw [co_len] at this
    omega
  · cases h
theorem atIs_of {p : Nat → Bool} {x : Str} {k : Int} (h0 : 0 ≤ k) (h1 : k < x.length) : atIs p x k = p ((co x).getD k.toNat 0) := by
  have h2 : k.toNat < (co x).length := by rw [co_len]; omega
  unfold atIs
  rw [List.getElem?_eq_getElem h2, List.getD_eq_getElem?_getD, List.getElem?_eq_getElem h2]
  rfl
theorem atIs_out {p : Nat → Bool} {x : Str} {k : Int} (h1 : ¬ k < x.length) : atIs p x k = false := by
  have h2 : (co x)[k.toNat]? = none := by rw [List.getElem?_eq_none]; rw [co_len]; omega
  unfold atIs
  rw [h2]
theorem ofS (c : Nat) (s : String) (h : Str.ofString s = ⟨#[c]⟩) : co (Str.ofString s) = [c] := by rw [h]
theorem slice1_is (x : Str) {k : Int} (h0 : 0 ≤ k) (c : Nat) {y : Str} (hy : y = ⟨#[c]⟩) : (y == Txt.slice x (some k) (some (k + 1))) = atIs (· == c) x k := by
  subst hy
  rw [Bool.eq_iff_iff, beq_iff_eq]
  have hs := co_slice_ss x (a := k) (b := k + 1) h0 (by omega)
  have e : (k + 1).toNat = k.toNat + 1 := by lia
  rw [e] at hs
  by_cases h1 : k < x.length
  · have h2 : k.toNat < (co x).length := by rw [co_len]; omega
    rw [atIs_of h0 h1, beq_iff_eq]
    have e2 : ((co x).take (k.toNat + 1)).drop k.toNat = [(co x).getD k.toNat 0] := by
      rw [List.getD_eq_getElem?_getD, List.getElem?_eq_getElem h2, List.take_succ_eq_append_getElem h2]
      rw [List.drop_append_of_le_length (by rw [List.length_take]; omega)]
      rw [List.drop_eq_nil_iff.mpr (by rw [List.length_take]; omega)]
      rfl
    rw [e2] at hs
    constructor
    · intro h
      rw [← h] at hs
      simpa [co] using hs.symm
    · intro h
      refine str_ext ?_
      rw [hs, h]
  · rw [atIs_out h1]
    have e2 : ((co x).take (k.toNat + 1)).drop k.toNat = [] := List.drop_eq_nil_iff.mpr (by rw [List.length_take, co_len]; omega)
    rw [e2] at hs
    constructor
    · intro h
      rw [← h] at hs
      simp [co] at hs
    · intro h; cases h
theorem item_is (x : Str) {k : Int} (h0 : 0 ≤ k) (h1 : k < x.length) (c : Nat) {y : Str} (hy : y = ⟨#[c]⟩) : (y == Txt.item x k) = atIs (· == c) x k := by
  subst hy
  rw [Bool.eq_iff_iff, beq_iff_eq, atIs_of h0 h1, beq_iff_eq]
  have hs := co_item x h0 h1
  constructor
  · intro h
    rw [← h] at hs
    simpa [co] using hs.symm
  · intro h
    refine str_ext ?_
    rw [hs, h]
theorem atIs_or (p q : Nat → Bool) (x : Str) (k : Int) : atIs (fun c => p c || q c) x k = (atIs p x k || atIs q x k) := by
  unfold atIs; split <;> rfl
end Mine
end
section
open PySem PySem.W PySem.Calls PyProof.Rows PySem.Builtin.Str
set_option maxRecDepth 100000
namespace Mine
noncomputable def pEnd (p : Nat → Bool) (x : Str) (k : Int) : Int := k + (((co x).drop k.toNat).takeWhile p).length
theorem pEnd_ge (p : Nat → Bool) (x : Str) (k : Int) : k ≤ pEnd p x k := by unfold pEnd; omega
theorem pEnd_le {p : Nat → Bool} {x : Str} {k : Int} (h0 : 0 ≤ k) (h : k ≤ x.length) : pEnd p x k ≤ x.length := by
  unfold pEnd
  have := (List.takeWhile_sublist (l := (co x).drop k.toNat) p).length_le
  rw [List.length_drop, co_len] at this
  omega
theorem pEnd_step {p : Nat → Bool} {x : Str} {k : Int} (h0 : 0 ≤ k) (h : atIs p x k = true) : pEnd p x (k + 1) = pEnd p x k := by
  have h1 := atIs_lt h0 h
  have h2 : k.toNat < (co x).length := by rw [co_len]; omega
  rw [atIs_of h0 h1] at h
  unfold pEnd
  have e : (k + 1).toNat = k.toNat + 1 := by lia
  rw [e, List.drop_eq_getElem_cons h2, List.takeWhile_cons]
  rw [List.getD_eq_getElem?_getD, List.getElem?_eq_getElem h2] at h
  simp only [Option.getD_some] at h
  rw [if_pos h, List.length_cons]
  lia
theorem pEnd_stop {p : Nat → Bool} {x : Str} {k : Int} (h0 : 0 ≤ k) (h : atIs p x k = false) : pEnd p x k = k := by
  unfold pEnd
  by_cases h1 : k < x.length
  · have h2 : k.toNat < (co x).length := by rw [co_len]; omega
    rw [atIs_of h0 h1] at h
    rw [List.getD_eq_getElem?_getD, List.getElem?_eq_getElem h2] at h
    simp only [Option.getD_some] at h
    rw [List.drop_eq_getElem_cons h2, List.takeWhile_cons, if_neg (by rw [h]; exact Bool.false_ne_true)]
    simp
  · rw [List.drop_eq_nil_iff.mpr (by rw [co_len]; omega)]
    simp
noncomputable def eEnd (x : Str) (k : Int) : Int :=
  if atIs isE x k then
    (if atIs sgn x (k + 1) then (if atIs dig x (k + 1 + 1) then pEnd dig x (k + 1 + 1) else k) else (if atIs dig x (k + 1) then pEnd dig x (k + 1) else k))
  else k
theorem eEnd_ge (x : Str) (k : Int) : k ≤ eEnd x k := by
  unfold eEnd
  have h1 := pEnd_ge dig x (k + 1 + 1)
  have h2 := pEnd_ge dig x (k + 1)
  (repeat' split) <;> lia
noncomputable def dv (l : List Nat) : Int := l.foldl (fun (v : Int) (c : Nat) => v * 10 + (c : Int) - 48) 0
noncomputable def sat (v : Int) : Int := if v > 9223372036854775808 then 9223372036854775809 else v
noncomputable def signedF (neg : Bool) (v : Int) : Option Int :=
  if (if neg then -v else v) < -9223372036854775808 ∨ (if neg then -v else v) > 9223372036854775807 then none else some (if neg then -v else v)

theorem inE (x : Str) {k : Int} (h0 : 0 ≤ k) : ([Str.ofString "e", Str.ofString "E"].any fun y => y == Txt.slice x (some k) (some (k + 1))) = atIs isE x k := by
  simp only [List.any_cons, List.any_nil, Bool.or_false, slice1_is x h0 101 (y := Str.ofString "e") (by decide +kernel), slice1_is x h0 69 (y := Str.ofString "E") (by decide +kernel)]
  exact (atIs_or _ _ x k).symm
theorem inSgn (x : Str) {k : Int} (h0 : 0 ≤ k) : ([Str.ofString "+", Str.ofString "-"].any fun y => y == Txt.slice x (some k) (some (k + 1))) = atIs sgn x k := by
  simp only [List.any_cons, List.any_nil, Bool.or_false, slice1_is x h0 43 (y := Str.ofString "+") (by decide +kernel), slice1_is x h0 45 (y := Str.ofString "-") (by decide +kernel)]
  exact (atIs_or _ _ x k).symm
theorem inBlk (x : Str) {k : Int} (h0 : 0 ≤ k) (h1 : k < x.length) :
    ([Str.ofString " ", Str.ofString "\t", Str.ofString "\n", Str.ofString "\r", Str.ofString "\x0b", Str.ofString "\x0c"].any fun y => y == Txt.item x k) = atIs blk x k := by
  simp only [List.any_cons, List.any_nil, Bool.or_false, item_is x h0 h1 32 (y := Str.ofString " ") (by decide +kernel), item_is x h0 h1 9 (y := Str.ofString "\t") (by decide +kernel), item_is x h0 h1 10 (y := Str.ofString "\n") (by decide +kernel), item_is x h0 h1 13 (y := Str.ofString "\r") (by decide +kernel), item_is x h0 h1 11 (y := Str.ofString "\x0b") (by decide +kernel), item_is x h0 h1 12 (y := Str.ofString "\x0c") (by decide +kernel)]
  rw [← atIs_or, ← atIs_or, ← atIs_or, ← atIs_or, ← atIs_or]
  unfold atIs blk
  split
  · simp only [Bool.or_assoc]
  · rfl
theorem item_dig_lo (x : Str) {k : Int} (h0 : 0 ≤ k) (h1 : k < x.length) : decide ((Txt.item x k).cps.toList < (Str.ofString "0").cps.toList) = decide ((co x).getD k.toNat 0 < 48) := by
  have e : (Txt.item x k).cps.toList = [(co x).getD k.toNat 0] := co_item x h0 h1
  have e2 : (Str.ofString "0").cps.toList = [48] := by decide +kernel
  rw [e, e2, StrLaws.lt_cons_cons, StrLaws.lt_nil_nil]
  simp
theorem item_dig_hi (x : Str) {k : Int} (h0 : 0 ≤ k) (h1 : k < x.length) : decide ((Str.ofString "9").cps.toList < (Txt.item x k).cps.toList) = decide (57 < (co x).getD k.toNat 0) := by
  have e : (Txt.item x k).cps.toList = [(co x).getD k.toNat 0] := co_item x h0 h1
  have e2 : (Str.ofString "9").cps.toList = [57] := by decide +kernel
  rw [e, e2, StrLaws.lt_cons_cons, StrLaws.lt_nil_nil]
  simp
theorem dig_a {x : Str} {k : Int} (h0 : 0 ≤ k) (h1 : k < x.length) (h : (Txt.item x k).cps.toList < (Str.ofString "0").cps.toList) : atIs dig x k = false := by
  have := item_dig_lo x h0 h1
  rw [decide_eq_true h] at this
  have := of_decide_eq_true this.symm
  rw [atIs_of h0 h1]
  unfold dig
  simp only [Bool.and_eq_false_imp, decide_eq_true_eq, decide_eq_false_iff_not]
  omega
theorem dig_b {x : Str} {k : Int} (h0 : 0 ≤ k) (h1 : k < x.length) (h : ¬ (Txt.item x k).cps.toList < (Str.ofString "0").cps.toList) : (!decide ((Str.ofString "9").cps.toList < (Txt.item x k).cps.toList)) = atIs dig x k := by
  have h2 := item_dig_lo x h0 h1
  rw [decide_eq_false h] at h2
  have h3 := of_decide_eq_false h2.symm
  rw [item_dig_hi x h0 h1, atIs_of h0 h1]
  unfold dig
  rw [Bool.eq_iff_iff]
  simp only [Bool.not_eq_true', decide_eq_false_iff_not, Bool.and_eq_true, decide_eq_true_eq]
  omega
end Mine
namespace Mine
theorem endLess {p : Nat → Bool} {x : Str} {j : Int} (h0 : 0 ≤ j) (h : atIs p x j = true) : ((x.length : Int) - (j + 1)).toNat < ((x.length : Int) - j).toNat := by
  have := atIs_lt h0 h
  omega
end Mine
end
section
open PySem PySem.W PySem.Calls PyProof.Rows PySem.Builtin.Str
set_option maxRecDepth 100000
namespace Mine
section
variable {x : Str} {k : Int}
theorem eEnd_1 (h0 : 0 ≤ k) (h1 : ([Str.ofString "e", Str.ofString "E"].any fun y => y == Txt.slice x (some k) (some (k + 1))) = false) : k = eEnd x k := by
  rw [inE x h0] at h1; unfold eEnd; rw [h1]; rfl
theorem eEnd_2 (h0 : 0 ≤ k) (h1 : ([Str.ofString "e", Str.ofString "E"].any fun y => y == Txt.slice x (some k) (some (k + 1))) = true)
    (h2 : ([Str.ofString "+", Str.ofString "-"].any fun y => y == Txt.slice x (some (k + 1)) (some (k + 1 + 1))) = true) (h3 : atIs dig x (k + 1 + 1) = true) : pEnd dig x (k + 1 + 1) = eEnd x k := by
  rw [inE x h0] at h1; rw [inSgn x (by omega)] at h2; unfold eEnd; rw [h1, h2, h3]; rfl
theorem eEnd_3 (h0 : 0 ≤ k) (h1 : ([Str.ofString "e", Str.ofString "E"].any fun y => y == Txt.slice x (some k) (some (k + 1))) = true)
    (h2 : ([Str.ofString "+", Str.ofString "-"].any fun y => y == Txt.slice x (some (k + 1)) (some (k + 1 + 1))) = true) (h3 : atIs dig x (k + 1 + 1) = false) : k = eEnd x k := by
  rw [inE x h0] at h1; rw [inSgn x (by omega)] at h2; unfold eEnd; rw [h1, h2, h3]; rfl
theorem eEnd_4 (h0 : 0 ≤ k) (h1 : ([Str.ofString "e", Str.ofString "E"].any fun y => y == Txt.slice x (some k) (some (k + 1))) = true)
    (h2 : ([Str.ofString "+", Str.ofString "-"].any fun y => y == Txt.slice x (some (k + 1)) (some (k + 1 + 1))) = false) (h3 : atIs dig x (k + 1) = true) : pEnd dig x (k + 1) = eEnd x k := by
  rw [inE x h0] at h1; rw [inSgn x (by omega)] at h2; unfold eEnd; rw [h1, h2, h3]; rfl
theorem eEnd_5 (h0 : 0 ≤ k) (h1 : ([Str.ofString "e", Str.ofString "E"].any fun y => y == Txt.slice x (some k) (some (k + 1))) = true)
    (h2 : ([Str.ofString "+", Str.ofString "-"].any fun y => y == Txt.slice x (some (k + 1)) (some (k + 1 + 1))) = false) (h3 : atIs dig x (k + 1) = false) : k = eEnd x k := by
  rw [inE x h0] at h1; rw [inSgn x (by omega)] at h2; unfold eEnd; rw [h1, h2, h3]; rfl
theorem blk_step (h0 : 0 ≤ k) (h1 : k < x.length) (h : ([Str.ofString " ", Str.ofString "\t", Str.ofString "\n", Str.ofString "\r", Str.ofString "\x0b", Str.ofString "\x0c"].any fun y => y == Txt.item x k) = true) :
    pEnd blk x (k + 1) = pEnd blk x k := by
  rw [inBlk x h0 h1] at h; exact pEnd_step h0 h
theorem blk_stop (h0 : 0 ≤ k) (h1 : k < x.length) (h : ([Str.ofString " ", Str.ofString "\t", Str.ofString "\n", Str.ofString "\r", Str.ofString "\x0b", Str.ofString "\x0c"].any fun y => y == Txt.item x k) = false) :
    k = pEnd blk x k := by
  rw [inBlk x h0 h1] at h; exact (pEnd_stop h0 h).symm
theorem pEnd_out {p : Nat → Bool} (h0 : 0 ≤ k) (h1 : ¬ k < x.length) : k = pEnd p x k := (pEnd_stop h0 (atIs_out h1)).symm
theorem sgNone {b : Bool} {v : Int} (h : (b = true ∧ (-v < -9223372036854775808 ∨ 9223372036854775807 < -v)) ∨ (b = false ∧ (v < -9223372036854775808 ∨ 9223372036854775807 < v))) : signedF b v = Option.none := by
  unfold signedF
  rcases h with ⟨rfl, h⟩ | ⟨rfl, h⟩
  · rw [if_pos rfl, if_pos (by omega)]
  · rw [if_neg Bool.false_ne_true, if_pos (by omega)]
theorem sgSome {b : Bool} {v n : Int} (h : (b = true ∧ n = -v) ∨ (b = false ∧ n = v)) (h1 : ¬ n < -9223372036854775808) (h2 : ¬ 9223372036854775807 < n) : signedF b v = Option.some n := by
  unfold signedF
  rcases h with ⟨rfl, rfl⟩ | ⟨rfl, rfl⟩
  · rw [if_pos rfl, if_neg (by omega)]
  · rw [if_neg Bool.false_ne_true, if_neg (by omega)]
end
end Mine
end
section
open PySem PySem.W PySem.Calls PyProof.Rows PySem.Builtin.Str
set_option maxRecDepth 100000
namespace Mine
theorem dv_snoc (l : List Nat) (c : Nat) : dv (l ++ [c]) = dv l * 10 + (c : Int) - 48 := by
  unfold dv; rw [List.foldl_append]; rfl
theorem dv_nonneg : ∀ (l : List Nat), l.all dig = true → 0 ≤ dv l := by
  suffices H : ∀ (l : List Nat) (v : Int), 0 ≤ v → l.all dig = true → 0 ≤ l.foldl (fun (v : Int) (c : Nat) => v * 10 + (c : Int) - 48) v from fun l h => H l 0 (Int.le_refl _) h
  intro l
  induction l with
  | nil => intro v hv _; exact hv
  | cons c r ih =>
    intro v hv h
    rw [List.all_cons, Bool.and_eq_true] at h
    have hc := h.1
    unfold dig at hc
    simp only [Bool.and_eq_true, decide_eq_true_eq] at hc
    have h9 : 0 ≤ v * 10 + (c : Int) - 48 := by omega
    exact ih _ h9 h.2
theorem dv_mono (l r : List Nat) (hl : l.all dig = true) (hr : r.all dig = true) : dv l ≤ dv (l ++ r) := by
  induction r generalizing l with
  | nil => rw [List.append_nil]; exact Int.le_refl _
  | cons c r ih =>
    rw [List.all_cons, Bool.and_eq_true] at hr
    have hc := hr.1
    have e : l ++ c :: r = (l ++ [c]) ++ r := by simp
    have h0 := dv_nonneg l hl
    rw [e]
    refine Int.le_trans ?_ (ih (l ++ [c]) (by simp [hl, hc]) hr.2)
    rw [dv_snoc]
    unfold dig at hc
    simp only [Bool.and_eq_true, decide_eq_true_eq] at hc
    omega
section
variable {x : Str} {f b : Int}
abbrev seg (x : Str) (f b : Int) : List Nat := ((co x).drop f.toNat).take (b - f).toNat
theorem item_code {k : Int} (h0 : 0 ≤ k) (h1 : k < x.length) : (Txt.item x k).cps.getD 0 0 = (co x).getD k.toNat 0 := by
  have := co_item x h0 h1
  have e : (Txt.item x k).cps.getD 0 0 = (co (Txt.item x k)).getD 0 0 := by
    unfold co
    simp [Array.getD_eq_getD_getElem?]
  rw [e, this]
  rfl
theorem take_next {n : Nat} (h0 : 0 ≤ f) (h1 : f + n < x.length) : ((co x).drop f.toNat).take (n + 1) = ((co x).drop f.toNat).take n ++ [(co x).getD (f + n).toNat 0] := by
  have h2 : n < ((co x).drop f.toNat).length := by rw [List.length_drop, co_len]; omega
  have e : (f + n).toNat = f.toNat + n := by omega
  have h3 : f.toNat + n < (co x).length := by rw [co_len]; omega
  rw [List.take_succ_eq_append_getElem h2, List.getElem_drop, List.getD_eq_getElem?_getD, e, List.getElem?_eq_getElem h3]
  rfl
theorem seg_all (h0 : 0 ≤ f) (h2 : b ≤ x.length) (hdg : ∀ i : Int, f ≤ i → i < b → atIs dig x i = true) : ∀ n : Nat, n ≤ (b - f).toNat → (((co x).drop f.toNat).take n).all dig = true
  | 0, _ => by simp
  | n + 1, h => by
    rw [take_next h0 (by omega), List.all_append, seg_all h0 h2 hdg n (by omega)]
    have := hdg (f + n) (by omega) (by omega)
    rw [atIs_of (by omega) (by omega)] at this
    simp only [List.all_cons, List.all_nil, Bool.true_and, Bool.and_true]
    exact this
theorem dvStart : (0 : Int) ≤ 0 ∧ (0 : Int) ≤ 9223372036854775808 ∧ (0 : Int) = dv (((co x).drop f.toNat).take ([] : List Int).length) := ⟨by decide, by decide, by simp [dv]⟩
theorem two63 : (2 : Int) ^ Int.toNat 63 = 9223372036854775808 := by decide
theorem dvTurn {kN v : Int} {pre : List Int} (h0 : 0 ≤ f) (h2 : b ≤ x.length) (hdg : ∀ i : Int, f ≤ i → i < b → atIs dig x i = true)
    (e : kN = f + (pre.length : Int)) (lt : pre.length < (b - f).toNat) (hv : v = dv (((co x).drop f.toNat).take pre.length))
    (hn : ¬ (2 : Int) ^ Int.toNat 63 < v * 10 + ((Txt.item x kN).cps.getD 0 0 : Nat) - 48) :
    0 ≤ v * 10 + ((Txt.item x kN).cps.getD 0 0 : Nat) - 48 ∧ v * 10 + ((Txt.item x kN).cps.getD 0 0 : Nat) - 48 ≤ 9223372036854775808 ∧ v * 10 + ((Txt.item x kN).cps.getD 0 0 : Nat) - 48 = dv (((co x).drop f.toNat).take (pre ++ [kN]).length) := by
  rw [two63] at hn
  have e1 : v * 10 + ((Txt.item x kN).cps.getD 0 0 : Nat) - 48 = dv (((co x).drop f.toNat).take (pre ++ [kN]).length) := by
    rw [List.length_append, List.length_singleton, take_next h0 (by omega), dv_snoc, ← hv, item_code (by omega) (by omega), e]
  refine ⟨?_, by omega, e1⟩
  rw [e1]
  refine dv_nonneg _ (seg_all h0 h2 hdg _ ?_)
  rw [List.length_append, List.length_singleton]
  omega
theorem dvOver {kN v : Int} {pre : List Int} (h0 : 0 ≤ f) (h2 : b ≤ x.length) (hdg : ∀ i : Int, f ≤ i → i < b → atIs dig x i = true)
    (e : kN = f + (pre.length : Int)) (lt : pre.length < (b - f).toNat) (hv : v = dv (((co x).drop f.toNat).take pre.length))
    (hn : (2 : Int) ^ Int.toNat 63 < v * 10 + ((Txt.item x kN).cps.getD 0 0 : Nat) - 48) : (2 : Int) ^ Int.toNat 63 + 1 = sat (dv (seg x f b)) := by
  rw [two63] at hn ⊢
  have e1 : v * 10 + ((Txt.item x kN).cps.getD 0 0 : Nat) - 48 = dv (((co x).drop f.toNat).take (pre.length + 1)) := by
    rw [take_next h0 (by omega), dv_snoc, ← hv, item_code (by omega) (by omega), e]
  have e2 : seg x f b = ((co x).drop f.toNat).take (pre.length + 1) ++ (seg x f b).drop (pre.length + 1) := by
    have : ((co x).drop f.toNat).take (pre.length + 1) = (seg x f b).take (pre.length + 1) := by
      show _ = (((co x).drop f.toNat).take (b - f).toNat).take (pre.length + 1)
      rw [List.take_take, Nat.min_eq_left (by omega)]
    rw [this, List.take_append_drop]
  have hall := seg_all h0 h2 hdg (b - f).toNat (Nat.le_refl _)
  have hall2 : ((seg x f b).drop (pre.length + 1)).all dig = true := by
    rw [List.all_eq_true] at hall ⊢
    exact fun c hc => hall c (List.mem_of_mem_drop hc)
  have := dv_mono _ _ (seg_all h0 h2 hdg (pre.length + 1) (by omega)) hall2
  rw [← e2, ← e1] at this
  unfold sat
  rw [if_pos (by omega)]
  rfl
theorem dvDone {v : Int} (h1 : v ≤ 9223372036854775808) (hv : v = dv (((co x).drop f.toNat).take (rangeKs f (b - f).toNat).length)) : v = sat (dv (seg x f b)) := by
  rw [rangeKs_length] at hv
  unfold sat seg
  rw [← hv, if_neg (by lia)]
end
end Mine
end
section
open PySem PySem.W PySem.Calls PyProof.Rows PySem.Builtin.Str
set_option maxRecDepth 100000
namespace Mine
theorem dig_of_pEnd {x : Str} {f : Int} (h0 : 0 ≤ f) : ∀ i : Int, f ≤ i → i < pEnd dig x f → atIs dig x i = true := by
  intro i h1 h2
  unfold pEnd at h2
  have hlen := (List.takeWhile_sublist (l := (co x).drop f.toNat) dig).length_le
  rw [List.length_drop, co_len] at hlen
  have h3 : i < x.length := by omega
  rw [atIs_of (by omega) h3]
  have h4 : (i - f).toNat < (((co x).drop f.toNat).takeWhile dig).length := by omega
  have h5 : (((co x).drop f.toNat).takeWhile dig)[(i - f).toNat]? = (co x)[i.toNat]? := by
    have hp := List.takeWhile_prefix (l := (co x).drop f.toNat) dig
    obtain ⟨r, hr⟩ := hp
    have : ((co x).drop f.toNat)[(i - f).toNat]? = (((co x).drop f.toNat).takeWhile dig)[(i - f).toNat]? := by
      conv => lhs; rw [← hr]
      rw [List.getElem?_append_left h4]
    rw [← this, List.getElem?_drop]
    congr 1
    lia
  rw [List.getElem?_eq_getElem h4] at h5
  rw [List.getD_eq_getElem?_getD, ← h5]
  have hm : (((co x).drop f.toNat).takeWhile dig)[(i - f).toNat] ∈ ((co x).drop f.toNat).takeWhile dig := List.getElem_mem h4
  exact List.all_eq_true.mp (List.all_takeWhile (l := (co x).drop f.toNat) (p := dig)) _ hm

/-! numeric's reading by places -/
noncomputable def nF (x : Str) : Int := pEnd blk x 0
noncomputable def nS (x : Str) : Int := if atIs sgn x (nF x) then nF x + 1 else nF x
noncomputable def nB (x : Str) : Int := pEnd dig x (nS x)
noncomputable def nPt (x : Str) : Bool := atIs (· == 46) x (nB x) && (decide (nS x < nB x) || atIs dig x (nB x + 1))
noncomputable def nFar0 (x : Str) : Int := if nPt x then pEnd dig x (nB x + 1) else nB x
noncomputable def nFar (x : Str) : Int := eEnd x (nFar0 x)
noncomputable def nVal (x : Str) : Option Int := if nFar x = nB x then signedF (atIs (· == 45) x (nF x)) (sat (dv (seg x (nS x) (nB x)))) else none
noncomputable def numP (x : Str) : Int × Option Int :=
  if nB x = nS x ∧ nPt x = false then (0, some 0) else if pEnd blk x (nFar x) = x.length then (2, nVal x) else (1, nVal x)
theorem nF_ge (x : Str) : 0 ≤ nF x := pEnd_ge _ _ _
theorem nS_ge (x : Str) : nF x ≤ nS x := by unfold nS; split <;> lia
theorem nS_le (x : Str) : nS x ≤ x.length := by
  unfold nS
  split
  · rename_i h
    have := atIs_lt (nF_ge x) h
    omega
  · exact pEnd_le (by decide) (by omega)
theorem nB_ge (x : Str) : nS x ≤ nB x := pEnd_ge _ _ _
theorem nB_le (x : Str) : nB x ≤ x.length := pEnd_le (by have := nF_ge x; have := nS_ge x; omega) (nS_le x)
theorem nFar0_ge (x : Str) : nB x ≤ nFar0 x := by
  unfold nFar0
  have := pEnd_ge dig x (nB x + 1)
  split <;> lia
theorem nS_of {x : Str} {r : Int} (h : (([Str.ofString "+", Str.ofString "-"].any fun y => y == Txt.slice x (some (nF x)) (some (nF x + 1))) = true ∧ r = nF x + 1) ∨ (([Str.ofString "+", Str.ofString "-"].any fun y => y == Txt.slice x (some (nF x)) (some (nF x + 1))) = false ∧ r = nF x)) : r = nS x := by
  rw [inSgn x (nF_ge x)] at h
  unfold nS
  rcases h with ⟨h, rfl⟩ | ⟨h, rfl⟩
  · rw [h]; rfl
  · rw [h]; rfl
theorem nFar0_of {x : Str} {r : Int} (h : (nPt x = true ∧ r = pEnd dig x (nB x + 1)) ∨ (nPt x = false ∧ r = nB x)) : r = nFar0 x := by
  unfold nFar0
  rcases h with ⟨h, rfl⟩ | ⟨h, rfl⟩ <;> rw [h] <;> rfl
theorem minus_is (x : Str) {k : Int} (h0 : 0 ≤ k) : (Txt.slice x (some k) (some (k + 1)) == Str.ofString "-") = atIs (· == 45) x k := by
  rw [Bool.beq_comm]; exact slice1_is x h0 45 (by decide +kernel)
theorem dot_is (x : Str) {k : Int} (h0 : 0 ≤ k) : (Txt.slice x (some k) (some (k + 1)) == Str.ofString ".") = atIs (· == 46) x k := by
  rw [Bool.beq_comm]; exact slice1_is x h0 46 (by decide +kernel)
theorem dotEq (x : Str) {k : Int} (h0 : 0 ≤ k) : decide (Txt.slice x (some k) (some (k + 1)) = Str.ofString ".") = atIs (· == 46) x k := by
  rw [← dot_is x h0, Bool.eq_iff_iff]; simp
end Mine
namespace Mine
theorem pt_1 {x : Str} (h : (Txt.slice x (some (nB x)) (some (nB x + 1)) == Str.ofString ".") = true) (h2 : nS x < nB x) : true = nPt x := by
  rw [dot_is x (by have := nF_ge x; have := nS_ge x; have := nB_ge x; omega)] at h
  unfold nPt; rw [h, decide_eq_true h2]; rfl
theorem pt_2 {x : Str} (h : (Txt.slice x (some (nB x)) (some (nB x + 1)) == Str.ofString ".") = true) (h2 : ¬ nS x < nB x) : atIs dig x (nB x + 1) = nPt x := by
  rw [dot_is x (by have := nF_ge x; have := nS_ge x; have := nB_ge x; omega)] at h
  unfold nPt; rw [h, decide_eq_false h2]; rfl
theorem pt_3 {x : Str} (h : (Txt.slice x (some (nB x)) (some (nB x + 1)) == Str.ofString ".") = false) : false = nPt x := by
  rw [dot_is x (by have := nF_ge x; have := nS_ge x; have := nB_ge x; omega)] at h
  unfold nPt; rw [h]; rfl
end Mine
namespace Mine
theorem numP_0 {x : Str} (h : (decide (nB x = nS x) && !nPt x) = true) : numP x = (0, some 0) := by
  simp only [Bool.and_eq_true, decide_eq_true_eq, Bool.not_eq_true'] at h
  unfold numP; rw [if_pos h]
theorem numP_2 {x : Str} (h : ¬ (decide (nB x = nS x) && !nPt x) = true) (h2 : pEnd blk x (nFar x) = x.length) : numP x = (2, nVal x) := by
  simp only [Bool.and_eq_true, decide_eq_true_eq, Bool.not_eq_true'] at h
  unfold numP; rw [if_neg h, if_pos h2]
theorem numP_1 {x : Str} (h : ¬ (decide (nB x = nS x) && !nPt x) = true) (h2 : pEnd blk x (nFar x) ≠ x.length) : numP x = (1, nVal x) := by
  simp only [Bool.and_eq_true, decide_eq_true_eq, Bool.not_eq_true'] at h
  unfold numP; rw [if_neg h, if_neg h2]
theorem nVal_1 {x : Str} (h : nFar x = nB x) : signedF (Txt.slice x (some (nF x)) (some (nF x + 1)) == Str.ofString "-") (sat (dv (seg x (nS x) (nB x)))) = nVal x := by
  rw [minus_is x (nF_ge x)]; unfold nVal; rw [if_pos h]
theorem nVal_2 {x : Str} (h : nFar x ≠ nB x) : nVal x = none := by
  unfold nVal; rw [if_neg h]
end Mine
end
section
open PySem PySem.W PySem.Calls PyProof.Rows
set_option maxRecDepth 100000
namespace Mine

theorem KC_in {P : Params} {h : Heap} (X : (KC P).In h) : (hK P).In h := KC_eq P ▸ X

theorem lkF {base h : Heap} {L : Addr} {l l' : List (Str × Value)} (F : Fr base L h (fun y => List.lookup y l)) (e : l = l') : Fr base L h (fun y => List.lookup y l') := e ▸ F
theorem sz0 {a n m : Nat} (h : a < n) (e : Nat.ble n m = true) : a ≤ m := Nat.le_of_lt (Nat.lt_of_lt_of_le h (Nat.le_of_ble_eq_true e))
theorem room0 {dp a r : Nat} (h : dp + a < r) : dp < r := Nat.lt_of_le_of_lt (Nat.le_add_right _ _) h
theorem room1 {d dp a c : Nat} (h : dp + a < recursionLimit) (e : d = dp + 1) (le : Nat.ble (1 + c) a = true) : d + c < recursionLimit := by
  subst e
  exact Nat.lt_of_le_of_lt (by rw [Nat.add_assoc]; exact Nat.add_le_add_left (Nat.le_of_ble_eq_true le) dp) h
theorem units3 {u un a c : Nat} (h : un + a < cLine) (e : u = un + 3) (le : Nat.ble (3 + c) a = true) : u + c < cLine := by
  subst e
  exact Nat.lt_of_le_of_lt (by rw [Nat.add_assoc]; exact Nat.add_le_add_left (Nat.le_of_ble_eq_true le) un) h
noncomputable def ConP (w : World) (f : Addr) (vs : List Value) (nd : Nat) (v : Tok → Value) (G : Prop) : Prop :=
  ∀ (mean : ExcName → Option Value) (mg mb : Str → Option Value) (dp un : Nat) (gd : Option (List Code)) (cn : Str) (cs : Scope) (a : Addr) (ccd : Value) (cl : List (Str × Addr)) (outer : List Env) (A₀ : Around) (base h₀ : Heap) (L : Addr) (m : Str → Option Value) (news : List (Addr × Obj)) (s : Shared) (Q E : Value → Shared → Prop),
    Below A₀ base outer h₀ → Fr h₀ L s.heap m → (hK w.params).In h₀ → News h₀ L s.heap news → Top hd.view_39 (looseW hd.view_39 []) mean mg mb h₀ → cs.kind = .function →
    dp + nd < recursionLimit → un + 8 * nd < cLine →
    (∀ t h' tk', G → Fr h₀ L h' m → News h₀ L h' news → Q (v t) { s with heap := h', toks := tk' }) →
    wpAny (model PySem.Challenge.rw_pc0241_01.row.prog w) (ktrTop dp un gd cn cs L a ccd cl outer) (call (.ref f) vs) Q E s

theorem useP {w : World} {f : Addr} {vs : List Value} {nd : Nat} {v : Tok → Value} {G : Prop} (C : ConP w f vs nd v G)
    {mean : ExcName → Option Value} {mg mb : Str → Option Value} {dp un : Nat} {gd : Option (List Code)} {cn : Str} {cs : Scope} {a : Addr} {ccd : Value} {cl : List (Str × Addr)} {outer : List Env} {A₀ : Around} {base h₀ : Heap} {L : Addr} {m : Str → Option Value} {news : List (Addr × Obj)} {s : Shared} {Q E : Value → Shared → Prop}
    (B : Below A₀ base outer h₀) (F : Fr h₀ L s.heap m) (X : (hK w.params).In h₀) (N : News h₀ L s.heap news) (T : Top hd.view_39 (looseW hd.view_39 []) mean mg mb h₀) (hk : cs.kind = .function)
    (hd : dp + nd < recursionLimit) (hu : un + 8 * nd < cLine)
    (ret : ∀ t h' tk', G → Fr h₀ L h' m → News h₀ L h' news → Q (v t) { s with heap := h', toks := tk' }) :
    wpAny (model PySem.Challenge.rw_pc0241_01.row.prog w) (ktrTop dp un gd cn cs L a ccd cl outer) (call (.ref f) vs) Q E s :=
  C _ _ _ _ _ _ _ _ _ _ _ _ _ _ _ _ _ _ _ _ _ B F X N T hk hd hu ret

noncomputable def ConS (w : World) (f : Addr) (vs : List Value) (nd : Nat) (v : Tok → Value) : Prop :=
  ∀ (mean : ExcName → Option Value) (mg mb : Str → Option Value) (dp un : Nat) (gd : Option (List Code)) (cn : Str) (cs : Scope) (a : Addr) (ccd : Value) (outer : List Env) (A₀ : Around) (base g₀ h₀ : Heap) (L : Addr) (m : Str → Option Value) (news : List (Addr × Obj)) (s : Shared) (Q E : Value → Shared → Prop),
    Below A₀ base outer h₀ → Fr h₀ L s.heap m → (hK w.params).In h₀ → News h₀ L s.heap news → Top hd.view_39 (looseW hd.view_39 []) mean mg mb h₀ →
    (hK w.params).In base → Top hd.view_39 (looseW hd.view_39 []) mean mg mb base → KtsDicts (outer.filterMap (·.frame)) h₀ → KtsTurn (outer.filterMap (·.frame)) g₀ h₀ → cs.kind = .function →
    dp + nd < recursionLimit → un + 8 * nd < cLine →
    (∀ t h₀' h' tk', KtsTurn (outer.filterMap (·.frame)) g₀ h₀' → Fr h₀' L h' m → News h₀' L h' news → Below A₀ base outer h₀' → (hK w.params).In h₀' → Top hd.view_39 (looseW hd.view_39 []) mean mg mb h₀' → KtsDicts (outer.filterMap (·.frame)) h₀' → Q (v t) { s with heap := h', toks := tk' }) →
    wpAny (model PySem.Challenge.rw_pc0241_01.row.prog w) (ktrTop dp un gd cn cs L a ccd [] outer) (call (.ref f) vs) Q E s

theorem retP {h₀ : Heap} {L : Addr} {m : Str → Option Value} {news : List (Addr × Obj)} {s : Shared} {Q : Value → Shared → Prop} {v : Tok → Value} {G : Prop}
    (hret : ∀ t h' tk', G → Fr h₀ L h' m → News h₀ L h' news → Q (v t) { s with heap := h', toks := tk' }) {r : Value} {h' : Heap} {tk' : Nat} (t : Tok)
    (F : Fr h₀ L h' m) (N : News h₀ L h' news) (e : r = v t) (g : G) : Q r { s with heap := h', toks := tk' } := by
  subst e
  exact hret t h' tk' g F N

noncomputable def ConT (w : World) (f : Addr) (vs : List Value) (nd : Nat) (v1 v2 : Tok → Value) : Prop :=
  ∀ (mean : ExcName → Option Value) (mg mb : Str → Option Value) (dp un : Nat) (gd : Option (List Code)) (cn : Str) (cs : Scope) (a : Addr) (ccd : Value) (cl : List (Str × Addr)) (outer : List Env) (A₀ : Around) (base h₀ : Heap) (L : Addr) (m : Str → Option Value) (news : List (Addr × Obj)) (s : Shared) (Q E : Value → Shared → Prop),
    Below A₀ base outer h₀ → Fr h₀ L s.heap m → (hK w.params).In h₀ → News h₀ L s.heap news → Top hd.view_39 (looseW hd.view_39 []) mean mg mb h₀ → cs.kind = .function →
    dp + nd < recursionLimit → un + 8 * nd < cLine →
    (∀ (D : Addr) (t u : Tok) (h' : Heap) (tk' : Nat), Fr h₀ L h' m → News h₀ L h' ((D, ({ cls := .type "tuple", data := .seq #[v1 t, v2 u] } : Obj)) :: news) → AllLt D news → Q (.ref D) { s with heap := h', toks := tk' }) →
    wpAny (model PySem.Challenge.rw_pc0241_01.row.prog w) (ktrTop dp un gd cn cs L a ccd cl outer) (call (.ref f) vs) Q E s

theorem useT {w : World} {f : Addr} {vs : List Value} {nd : Nat} {v1 v2 : Tok → Value} (C : ConT w f vs nd v1 v2)
    {mean : ExcName → Option Value} {mg mb : Str → Option Value} {dp un : Nat} {gd : Option (List Code)} {cn : Str} {cs : Scope} {a : Addr} {ccd : Value} {cl : List (Str × Addr)} {outer : List Env} {A₀ : Around} {base h₀ : Heap} {L : Addr} {m : Str → Option Value} {news : List (Addr × Obj)} {s : Shared} {Q E : Value → Shared → Prop}
    (B : Below A₀ base outer h₀) (F : Fr h₀ L s.heap m) (X : (hK w.params).In h₀) (N : News h₀ L s.heap news) (T : Top hd.view_39 (looseW hd.view_39 []) mean mg mb h₀) (hk : cs.kind = .function)
    (hd : dp + nd < recursionLimit) (hu : un + 8 * nd < cLine)
    (ret : ∀ (D : Addr) (t u : Tok) (h' : Heap) (tk' : Nat), Fr h₀ L h' m → News h₀ L h' ((D, ({ cls := .type "tuple", data := .seq #[v1 t, v2 u] } : Obj)) :: news) → AllLt D news → Q (.ref D) { s with heap := h', toks := tk' }) :
    wpAny (model PySem.Challenge.rw_pc0241_01.row.prog w) (ktrTop dp un gd cn cs L a ccd cl outer) (call (.ref f) vs) Q E s :=
  C _ _ _ _ _ _ _ _ _ _ _ _ _ _ _ _ _ _ _ _ _ B F X N T hk hd hu ret

theorem retT {h₀ : Heap} {L : Addr} {m : Str → Option Value} {news news' : List (Addr × Obj)} {s : Shared} {Q : Value → Shared → Prop} {v1 v2 : Tok → Value}
    (hret : ∀ (D : Addr) (t u : Tok) (h' : Heap) (tk' : Nat), Fr h₀ L h' m → News h₀ L h' ((D, ({ cls := .type "tuple", data := .seq #[v1 t, v2 u] } : Obj)) :: news) → AllLt D news → Q (.ref D) { s with heap := h', toks := tk' })
    {D : Addr} {r1 r2 : Value} {h' : Heap} {tk' : Nat} (t u : Tok)
    (F : Fr h₀ L h' m) (N : News h₀ L h' news') (hm : (D, ({ cls := .type "tuple", data := .seq #[r1, r2] } : Obj)) ∈ news') (hn : ∀ p ∈ news, p ∈ news') (hl : AllLt D news) (e1 : r1 = v1 t) (e2 : r2 = v2 u) : Q (.ref D) { s with heap := h', toks := tk' } := by
  subst e1; subst e2
  refine hret D t u h' tk' F (fun p hp => ?_) hl
  rcases List.mem_cons.mp hp with rfl | hp
  · exact N _ hm
  · exact N p (hn p hp)

noncomputable def optV (o : Option Int) (t : Tok) : Value := match o with | some n => .int n t | none => .none

theorem optV_none {o : Option Int} (h : o = none) (t : Tok) : Value.none = optV o t := by rw [h]; rfl
theorem optV_some {o : Option Int} {n : Int} {t : Tok} (h : o = some n) : Value.int n t = optV o t := by rw [h]; rfl

structure JV {α : Type} (v : α) (h₀ : Heap) (L : Addr) (m : Str → Option Value) (news : List (Addr × Obj)) (s : Shared) (r : α) (s' : Shared) : Prop where
  out : r = v
  here : KJoinAt h₀ L m news s s'
theorem joinV {α : Type} (v : α) {M : Model} {A : Around} {E : Value → Shared → Prop} {s : Shared} {h₀ : Heap} {L : Addr} {m : Str → Option Value} {news : List (Addr × Obj)} {tree : Sem α} {Q : α → Shared → Prop}
    (_F : Fr h₀ L s.heap m) (_N : News h₀ L s.heap news)
    (h : wpAny M A tree (fun r s₂ => JV v h₀ L m news s r s₂) E s)
    (k : ∀ h tk, Fr h₀ L h m → News h₀ L h news → Q v { s with heap := h, toks := tk }) : wpAny M A tree Q E s := by
  refine wpAny_mono h (fun r s₂ q => ?_) fun _ _ x => x
  obtain ⟨rfl, ⟨h', tk', rfl, F', N'⟩⟩ := q
  exact k h' tk' F' N'

theorem fill (w : World) : (hK w.params).In default → PySem.Challenge.rw_pc0241_01 = PySem.Challenge.rw_pc0241_01 := by
  w_top off
  k_fill
  intro _; rfl
end Mine
end
local macro_rules | `(tactic| ktr_room) => `(tactic| exact Mine.room0 (by with_reducible assumption))
local macro_rules | `(tactic| units_room) => `(tactic| exact Mine.units3 (by with_reducible assumption) (by exact rfl) (by exact rfl))
local macro_rules | `(tactic| size_fits) => `(tactic| exact Mine.sz0 (by with_reducible assumption) (by exact rfl))
section
open PySem PySem.W PySem.Calls PyProof.Rows
set_option maxRecDepth 100000
set_option maxHeartbeats 4000000
namespace Mine
abbrev bmL : List Value := [.ref 31, .type "Exception", .type "BaseException", .type "object"]
theorem lk44 (P : Params) : List.lookup 44 (hK P) = some (excClassObj "LeftOut" "LeftOut" 44 43 [.ref 31] bmL true [] [] false none none (some (.ref 35)) none (some (.str "LeftOut" 218)) (some (.str "LeftOut" 226)) (some (.bool true)) "Exception.__new__") := rfl
theorem lk31 (P : Params) : List.lookup 31 (hK P) = some (excClassObj "PhpFault" "PhpFault" 31 30 [.type "Exception"] [.type "Exception", .type "BaseException", .type "object"] true [] [.ref 44] false none none (some (.ref 15)) none (some (.str "PhpFault" 189)) (some (.str "PhpFault" 197)) (some (.bool true)) "Exception.__new__") := rfl
section
variable {M : Model} {A : Around} {E : Value → Shared → Prop} {h : Heap} {g : Array GenState} {d : Drawn} {t : Nat} {os : OsState}
theorem check_init {e : Addr} {oe : Obj} {rest : List Value} {Q : Unit → Shared → Prop} (hB : bmL.contains (.type "Exception") = true)
    (hC : h.get? 44 = some (excClassObj "LeftOut" "LeftOut" 44 43 [.ref 31] bmL true [] [] false none none (some (.ref 35)) none (some (.str "LeftOut" 218)) (some (.str "LeftOut" 226)) (some (.bool true)) "Exception.__new__")) (he : h.get? e = some oe) (hcls : oe.cls = .ref 44) (hq : Q () ⟨h, g, d, t, os⟩) :
    wpAny M A (checkBuiltinCall "Exception.__init__" ⟨.ref e :: rest, []⟩) Q E ⟨h, g, d, t, os⟩ := by
  have F := PySem.F.excBase_Exception
  have hcB : (Value.ref 44 :: bmL).contains (.type "Exception") = true := by rw [List.contains_cons, hB, Bool.or_true]
  have hshort := F.noStar
  simp only [checkBuiltinCall, F.initKind, F.initSplit, F.initRow]
  repeat (first | (with_reducible refine wpAny_loadPart_at he ?_; rw [hcls]) | with_reducible refine wpAny_loadPart_at hC ?_ | (with_reducible refine wpAny_isSubtype_exc hC ?_; rw [hcB]) | wp_step)
  refine wpAny_onRaise ?_
  rw [show ∀ (a b : String) (n : Nat), Bind.check ⟨.positional, "*", "Exception", .self, [⟨"args", .varPos, false⟩]⟩ a b n (List.map (fun x => x.fst) ({ pos := Value.ref e :: rest } : Args).kw) = pure () from
    fun a b n => check_star_args _ _ _ _ _ _]
  exact wpAny_pure hq
end
section
variable {prog : Program} {w : World} {A : Around} {E : Value → Shared → Prop} {s : Shared} {h₀ : Heap} {L : Addr} {m : Str → Option Value} {news : List (Addr × Obj)}
theorem call_init {e t0 : Addr} {a : Value} {Q : Value → Shared → Prop} (F : Fr h₀ L s.heap m) (X : (hK w.params).In h₀)
    (N : News h₀ L s.heap ((e, ({ cls := .ref 44, data := .fields #[.ref t0, .none, .none, .none, .bool false, .none] } : Obj)) :: news)) (hne : ∀ p ∈ news, p.1 ≠ e)
    (hq : ∀ t1 h', Fr h₀ L h' m → News h₀ L h' ((e, ({ cls := .ref 44, data := .fields #[.ref t1, .none, .none, .none, .bool false, .none] } : Obj)) :: (t1, ({ cls := .type "tuple", data := .seq #[a] } : Obj)) :: news) → t1 ≠ e → (∀ p ∈ news, p.1 < t1) → Q .none { s with heap := h' }) :
    wpAny (model prog w) A (call (.builtin "Exception.__init__") [.ref e, a]) Q E s := by
  have FE := PySem.F.excBase_Exception
  have hC := (X.keeps F.keep) _ _ (lk44 w.params)
  have he := (N _ (.head _)).1
  obtain ⟨hp, g, d, tk, os⟩ := s
  refine wpAny_call (codeAny_call_builtin FE.init.plain FE.initEntry (check_init (by decide) hC he rfl ?_))
  wp_walk
  have F₁ := F.push ({ cls := .type "tuple", data := .seq #[a] } : Obj)
  have N₁ := N.push F ({ cls := .type "tuple", data := .seq #[a] } : Obj)
  have he₁ := (N₁ _ (.tail _ (.head _)))
  have hlt : e < hp.objs.size := Heap.lt_size he
  have hs : Heap.SameBut e (hp.push { cls := Value.type "tuple", data := Data.seq #[a] }) ((hp.push { cls := Value.type "tuple", data := Data.seq #[a] }).update e (Obj.mapFields fun x => x.setIfInBounds 0 (Value.ref hp.objs.size))) := by
    exact ⟨Heap.size_after_update .., fun b hb => Heap.get?_update_other _ _ (Ne.symm hb)⟩
  refine hq hp.objs.size _ (F₁.change hs he₁.2.1 he₁.2.2) (fun p hp' => ?_) (Nat.ne_of_gt hlt) (fun p hp' => Heap.lt_size (N p (.tail _ hp')).1)
  rcases List.mem_cons.mp hp' with rfl | hp'
  · exact ⟨Heap.get?_update_self _ he₁.1 rfl, he₁.2⟩
  · rcases List.mem_cons.mp hp' with rfl | hp'
    · exact ⟨(hs.2 _ (Nat.ne_of_gt hlt)).trans (N₁ _ (.head _)).1, (N₁ _ (.head _)).2⟩
    · have := N₁ p (.tail _ (.tail _ hp'))
      exact ⟨(hs.2 _ (hne p hp')).trans this.1, this.2⟩
end
end Mine
end
section
open PySem PySem.W PySem.Calls PyProof.Rows
set_option maxRecDepth 100000
set_option maxHeartbeats 4000000
namespace Mine
theorem a1 (P : Params) : findIn (hK P) (.ref 44) "__setattr__" = some (some (.builtin "object.__setattr__")) := by k_is
theorem a5 (P : Params) : takerIn (hK P) 44 "why" = some none := by k_is
theorem a8 (P : Params) : findIn (hK P) (.ref 44) "why" = some none := by k_is
theorem a9 (P : Params) : mroIn (hK P) 44 (.type "object") = some true := by k_is
theorem refuse_exc (self : Value) : refuseLoop self "__setattr__" [.type "Exception", .type "BaseException", .type "object"] = pure () := by kernel_rfl
section
variable {prog : Program} {w : World} {A : Around} {E : Value → Shared → Prop} {s : Shared} {h₀ : Heap} {L : Addr} {m : Str → Option Value} {news : List (Addr × Obj)}
theorem set_why {e : Addr} {vs : Array Value} {v : Value} {Q : Unit → Shared → Prop} (F : Fr h₀ L s.heap m) (X₀ : (hK w.params).In h₀)
    (N : News h₀ L s.heap ((e, ({ cls := .ref 44, data := .fields vs } : Obj)) :: news)) (hne : ∀ p ∈ news, p.1 ≠ e)
    (hq : ∀ dx h' tk', Fr h₀ L h' m → News h₀ L h' ((e, ({ cls := .ref 44, dict := some dx, data := .fields vs } : Obj)) :: news) → Q () { s with heap := h', toks := tk' }) :
    wpAny (model prog w) A (setAttr (.ref e) "why" v) Q E s := by
  have X := X₀.keeps F.keep
  have hC := X _ _ (lk44 w.params)
  have he := (N _ (.head _)).1
  have I : PySem.W.InstAt s.heap e ({ cls := .ref 44, data := .fields vs } : Obj) 44 none := ⟨he, rfl, rfl, trivial⟩
  have SF := PySem.F.store_object
  refine set_plain X I (a1 _) ?_
  have I' : PySem.W.InstAt ({ s with toks := s.toks + 1 } : Shared).heap e ({ cls := .ref 44, data := .fields vs } : Obj) 44 none := I
  have X' : (hK w.params).In ({ s with toks := s.toks + 1 } : Shared).heap := X
  have sub : Looks (model prog w) ({ s with toks := s.toks + 1 } : Shared).heap (isInstance (.ref e) (.type "object")) true := I'.type.andThen (looks_mroIn X' (a9 _))
  refine codeAny_call_builtin SF.slot.plain SF.entry (@check_slot (model prog w) _ _ ({ s with toks := s.toks + 1 } : Shared) "object.__setattr__" "object" "__setattr__" (.ref e) [.str "why" s.toks, v] [] _ SF.kind SF.split sub (SF.args (.ref e) (.str "why" s.toks) v) ?_)
  rw [osa_eq, refuse_eq]
  have hc : clsIn (hK w.params) 44 = some { name := "LeftOut", bases := [.ref 31], mro := .ref 44 :: bmL, ns := 43, qualname := "LeftOut" } := rfl
  have hm : Looks (model prog w) ({ s with toks := s.toks + 1 } : Shared).heap (mroOf (.ref 44)) (.ref 44 :: bmL) := (looks_clsIn X' hc).andThen .now
  have L3 : Looks (model prog w) ({ s with toks := s.toks + 1 } : Shared).heap (Builtin.ObjectAttr.storeTaker? none) none := .now
  refine wpAny_bind (wpAny_bind (I'.type.here (wpAny_bind (hm.here ?_))))
  rw [show refuseLoop (Value.ref e) (Str.ofString "__setattr__") (.ref 44 :: bmL) = pure () by rw [refuseLoop_ref]; unfold bmL; rw [refuseLoop_ref]; exact refuse_exc _]
  refine wpAny_pure (wpAny_bind (I'.type.here (wpAny_bind ((looks_findIn X' (a8 _)).here (wpAny_bind (L3.here ?_))))))
  obtain ⟨hp, g, d, tk, os⟩ := s
  dsimp only at he hC ⊢
  unfold Builtin.ObjectAttr.storeInOwnDict Builtin.ObjectAttr.ownDictForStores instanceDict ownStreamTells
  repeat (first | with_reducible refine wpAny_loadPart_at he ?_ | with_reducible refine wpAny_loadPart_at hC ?_ | wp_step)
  let od : Obj := { cls := Value.type "dict", data := Data.dict #[] }
  let h1 := hp.push od
  let h2 := h1.update e fun o => { cls := o.cls, dict := some hp.objs.size, data := o.data, slots := o.slots }
  have hlt : e < hp.objs.size := Heap.lt_size he
  have N₁ : News h₀ L h1 _ := N.push F od
  have F₁ : Fr h₀ L h1 m := F.push od
  have he₁ := N₁ _ (.tail _ (.head _))
  have hd₁ := N₁ _ (.head _)
  have s1 : Heap.SameBut e h1 h2 := Heap.SameBut.update ..
  have F₂ : Fr h₀ L h2 m := F₁.change s1 he₁.2.1 he₁.2.2
  have D : h2.get? hp.objs.size = some od := (s1.2 _ (Nat.ne_of_gt hlt)).trans hd₁.1
  have he₂ : h2.get? e = some { cls := .ref 44, dict := some hp.objs.size, data := .fields vs } := Heap.get?_update_self _ he₁.1 rfl
  refine wpAny_askSetting (wpAny_pure (wpAny_bind (wpAny_mkText (wpAny_bind (wpAny_loadPart D ?_)))))
  show wpAny _ _ (if aRefKeyMayBeTheName (Str.ofString "why") #[] = true then _ else _) _ _ _
  rw [if_neg (by decide +kernel)]
  refine wpAny_updatePart D ?_
  have s2 : Heap.SameBut hp.objs.size h2 (h2.update hp.objs.size (Obj.putName (Str.ofString "why") (if (Str.ofString "why").cps.isEmpty = true then 0 else reduceHash (({ program := (model prog w).prog, params := (model prog w).w.params } : Setting).params.strHash (Str.ofString "why").cps)) (.str (Str.ofString "why") (tk + 1)) v)) := Heap.SameBut.update ..
  have D' := Heap.get?_update_self (Obj.putName (Str.ofString "why") (if (Str.ofString "why").cps.isEmpty = true then 0 else reduceHash (({ program := (model prog w).prog, params := (model prog w).w.params } : Setting).params.strHash (Str.ofString "why").cps)) (.str (Str.ofString "why") (tk + 1)) v) D (by rw [show od = dictOf [] 0 from rfl, putName_dict]; rfl)
  refine wpAny_bind (wpAny_lookBehind D' (by rw [show od = dictOf [] 0 from rfl, putName_dict]; exact pastItsLine_dict (Nat.le_add_left 1 _)) ?_)
  refine wpAny_pure (hq hp.objs.size _ _ (F₂.change s2 hd₁.2.1 hd₁.2.2) fun p hp' => ?_)
  rcases List.mem_cons.mp hp' with rfl | hp'
  · exact ⟨(s2.2 _ (Nat.ne_of_lt hlt)).trans he₂, he₁.2⟩
  · have hp₀ := N p (.tail _ hp')
    have hp₁ := N₁ p (.tail _ (.tail _ hp'))
    exact ⟨(s2.2 _ (Nat.ne_of_lt (Heap.lt_size hp₀.1))).trans ((s1.2 _ (hne p hp')).trans hp₁.1), hp₁.2⟩
end
end Mine
end
section
open PySem PySem.W PySem.Calls PyProof.Rows
set_option maxRecDepth 100000
set_option maxHeartbeats 4000000
namespace Mine
theorem a7 (P : Params) : findIn (hK P) (.ref 44) "__init__" = some (some (.ref 28)) := by k_is
theorem a11 (P : Params) : typeIn (hK P) (.ref 28) = some (.type "function") := by k_is
section
variable {M : Model} {A : Around} {E : Value → Shared → Prop} {h : Heap} {g : Array GenState} {d : Drawn} {t : Nat} {os : OsState}
theorem check_new {rest : List Value} {Q : Unit → Shared → Prop} (hB : bmL.contains (.type "Exception") = true)
    (hC : h.get? 44 = some (excClassObj "LeftOut" "LeftOut" 44 43 [.ref 31] bmL true [] [] false none none (some (.ref 35)) none (some (.str "LeftOut" 218)) (some (.str "LeftOut" 226)) (some (.bool true)) "Exception.__new__")) (hq : Q () ⟨h, g, d, t, os⟩) :
    wpAny M A (checkBuiltinCall "Exception.__new__" ⟨.ref 44 :: rest, []⟩) Q E ⟨h, g, d, t, os⟩ := by
  have F := PySem.F.excBase_Exception
  have hcont : (Value.ref 44 :: bmL).contains (.type "Exception") = true := by rw [List.contains_cons, hB, Bool.or_true]
  have hstar := F.noStar
  simp only [checkBuiltinCall, F.newKind, F.newSplit, F.newRow]
  repeat (first | refine wpAny_loadPart_at hC ?_ | (refine wpAny_isSubtype_exc hC ?_; rw [hcont]) | refine wpAny_staticBase_exc hC ?_ | refine wpAny_madeBy_exc hC ?_ | simp only [bne_self_eq_false, Bool.false_eq_true, if_false] | wp_step)
  exact hq
end
section
variable {prog : Program} {w : World} {A : Around} {R : Result → Shared → Prop} {h : Heap} {g : Array GenState} {d : Drawn} {t : Nat} {os : OsState}
theorem exc_new {rest : List Value} (hB : bmL.contains (.type "Exception") = true) (hA : bmL.contains (.type "AttributeError") = false) (hN : bmL.contains (.type "NameError") = false)
    (hC : h.get? 44 = some (excClassObj "LeftOut" "LeftOut" 44 43 [.ref 31] bmL true [] [] false none none (some (.ref 35)) none (some (.str "LeftOut" 218)) (some (.str "LeftOut" 226)) (some (.bool true)) "Exception.__new__"))
    (hq : R (.ok (.ret (.ref (h.objs.size + 1)))) ⟨(h.push { cls := .type "tuple", data := .seq rest.toArray }).push
      { cls := .ref 44, data := .fields #[.ref h.objs.size, .none, .none, .none, .bool false, .none] }, g, d, t, os⟩) (hrest : rest.length ≤ sizeLine := by size_fits) :
    codeAny (model prog w) A (.builtin "Exception.__new__" ⟨.ref 44 :: rest, []⟩) R ⟨h, g, d, t, os⟩ := by
  have F := PySem.F.excBase_Exception
  have hends := F.ends
  have hcB : (Value.ref 44 :: bmL).contains (.type "Exception") = true := by rw [List.contains_cons, hB, Bool.or_true]
  have hcA : (Value.ref 44 :: bmL).contains (.type "AttributeError") = false := by rw [List.contains_cons, hA]; rfl
  have hcN : (Value.ref 44 :: bmL).contains (.type "NameError") = false := by rw [List.contains_cons, hN]; rfl
  refine codeAny_builtinAt F.entry ?_
  unfold Builtin.«BaseException.__new__»
  refine PySem.wpAt_bind ?_
  show PySem.wpAt _ _ _ (stack >>= _) _ _ _
  refine PySem.wpAt_bind (PySem.wpAt_stack fun p below => PySem.wpAt_of_wpAny ?_)
  wp_walk
  refine PySem.wpAt_of_wpAny ?_
  rw [F.owner]
  repeat (first | with_reducible refine wpAny_madeHere_exc F.canon hC ?_ | with_reducible refine wpAny_loadPart_at hC ?_ | (with_reducible refine wpAny_isSubtype_exc hC ?_; first | rw [hcB] | rw [hcA] | rw [hcN]) | wp_step)
  show R _ _
  rw [Heap.size_push]
  exact hq
end
section
variable {prog : Program} {w : World} {A : Around} {E : Value → Shared → Prop} {s : Shared} {h₀ : Heap} {L : Addr} {m : Str → Option Value} {news : List (Addr × Obj)}
theorem type_call {rest : List Value} {Q : Fin → Shared → Prop} {h : Heap} {g : Array GenState} {d : Drawn} {t : Nat} {os : OsState} (F : Fr h₀ L h m) (X₀ : (hK w.params).In h₀) (N : News h₀ L h news)
    (hq : ∀ e t0 h', Fr h₀ L h' m → News h₀ L h' ((e, ({ cls := .ref 44, data := .fields #[.ref t0, .none, .none, .none, .bool false, .none] } : Obj)) :: (t0, ({ cls := .type "tuple", data := .seq rest.toArray } : Obj)) :: news) → (∀ p ∈ news, p.1 < t0) → t0 < e →
      (∀ b o, h.get? b = some o → h'.get? b = some o) → h.get? e = none →
      wpAny (model prog w) A (call (.ref 28) (.ref e :: rest)) (fun r s' => r = .none ∧ Q (.done (.ret (.ref e))) s') E ⟨h', g, d, t, os⟩) (hrest : rest.length ≤ sizeLine) :
    wpAny (model prog w) A (Builtin.«type.__call__» ⟨.ref 44 :: rest, []⟩) Q E ⟨h, g, d, t, os⟩ := by
  have FE := PySem.F.excBase_Exception
  have hX := X₀.keeps F.keep
  have hC := hX _ _ (lk44 w.params)
  repeat (first | with_reducible refine wpAny_loadPart_at hC ?_ | with_reducible refine wpAny_madeBy_exc hC ?_ | wp_step)
  refine codeAny_call_builtin_code (Code.quiet_builtin _ FE.quiet) (check_new (by decide) hC ?_)
  refine exc_new (by decide) (by decide) (by decide) hC ?_ hrest
  show wpAny _ _ _ _ _ _
  have F1 := (F.push ({ cls := .type "tuple", data := .seq rest.toArray } : Obj)).push ({ cls := .ref 44, data := .fields #[.ref h.objs.size, .none, .none, .none, .bool false, .none] } : Obj)
  have N1 := (N.push F ({ cls := .type "tuple", data := .seq rest.toArray } : Obj)).push (F.push ({ cls := .type "tuple", data := .seq rest.toArray } : Obj)) ({ cls := .ref 44, data := .fields #[.ref h.objs.size, .none, .none, .none, .bool false, .none] } : Obj)
  have hX1 := X₀.keeps F1.keep
  have hC₁ := Heap.get?_push_of_some { cls := .ref 44, data := .fields #[.ref h.objs.size, .none, .none, .none, .bool false, .none] }
    (Heap.get?_push_of_some { cls := .type "tuple", data := .seq rest.toArray } hC)
  rw [Heap.size_push] at N1
  have hget : ((h.push { cls := .type "tuple", data := .seq rest.toArray }).push
      { cls := .ref 44, data := .fields #[.ref h.objs.size, .none, .none, .none, .bool false, .none] }).get? (h.objs.size + 1) = some
      { cls := .ref 44, data := .fields #[.ref h.objs.size, .none, .none, .none, .bool false, .none] } := (N1 _ (.head _)).1
  have hcC : (Value.ref 44 :: bmL).contains (.ref 44) = true := by decide
  unfold isInstance
  repeat (first | with_reducible refine wpAny_loadPart_at hget ?_ | (with_reducible refine wpAny_isSubtype_exc hC₁ ?_; rw [hcC]) | wp_step)
  show wpAny _ _ (typeLookup (.ref 44) _) _ _ _
  refine (looks_findIn hX1 (a7 _)).here ?_
  refine wpAny_holding (wpAny_bind ?_)
  refine (bind_fn hX1 _ (a11 _)).here ?_
  refine wpAny_bind (wpAny_mono (hq (h.objs.size + 1) h.objs.size _ F1 N1 (fun p hp => Heap.lt_size (N p hp).1) (Nat.lt_succ_self _)
    (fun b o hb => Heap.get?_push_of_some _ (Heap.get?_push_of_some _ hb)) (Heap.get?_none_of_le (Nat.le_succ _))) (fun r s' hr => ?_) fun _ _ x => x)
  obtain ⟨rfl, hQ⟩ := hr
  wp_walk
  exact hQ
theorem call_leftout {rest : List Value} {Q : Value → Shared → Prop} (F : Fr h₀ L s.heap m) (X₀ : (hK w.params).In h₀) (N : News h₀ L s.heap news)
    (hq : ∀ e t0 h', Fr h₀ L h' m → News h₀ L h' ((e, ({ cls := .ref 44, data := .fields #[.ref t0, .none, .none, .none, .bool false, .none] } : Obj)) :: (t0, ({ cls := .type "tuple", data := .seq rest.toArray } : Obj)) :: news) → (∀ p ∈ news, p.1 < t0) → t0 < e →
      (∀ b o, s.heap.get? b = some o → h'.get? b = some o) → s.heap.get? e = none →
      wpAny (model prog w) (A.under (.builtin "type.__call__" ⟨.ref 44 :: rest, []⟩)) (call (.ref 28) (.ref e :: rest)) (fun r s' => r = .none ∧ Q (.ref e) s') E { s with heap := h' }) (hrest : rest.length ≤ sizeLine) :
    wpAny (model prog w) A (call (.ref 44) rest) Q E s := by
  have hX := X₀.keeps F.keep
  have hC := hX _ _ (lk44 w.params)
  obtain ⟨h, g, d, t, os⟩ := s
  dsimp only at hC hX F N
  have f1 := tc_lookup
  have f2 := tc_bind (.ref 44)
  have hT : (⟨h, g, d, t, os⟩ : Shared).TypeIs (.ref 44) "type" := ⟨_, hC, rfl⟩
  refine wpAny_call (codeAny_of_tree ?_)
  show wpAny _ _ (callAny (.ref 44) _) _ _ _
  repeat (any_goals (first | assumption | with_reducible refine wpAny_loadPart_at hC ?_ | wp_step))
  refine ⟨rfl, ?_⟩
  exact codeAny_call_builtin_at (Code.quiet_builtin _ (by decide +kernel)) entry_typeCall (wpAny_check_type_call_sub hC (type_call F X₀ N hq hrest))
end
end Mine
end
section
open PySem PySem.W PySem.Calls PyProof.Rows
set_option maxRecDepth 100000
set_option maxHeartbeats 4000000
namespace Mine
section
variable {M : Model} {A : Around} {E : Value → Shared → Prop} {s : Shared} {env : Env}
theorem raise_made {x : Sem Value} {Q : Flow → Shared → Prop} (hh : A.handled = none) {P : Params}
    (h : wpAny M A x (fun v s₁ => ∃ e dd t, v = .ref e ∧ (hK P).In s₁.heap ∧
      s₁.heap.get? e = some { cls := .ref 44, dict := dd, data := .fields #[.ref t, .none, .none, .none, .bool false, .none] } ∧ E (.ref e) s₁) E s) :
    wpAny M A (raiseStmt env (some x) none) Q E s := by
  have hcB : (Value.ref 44 :: bmL).contains (.type "BaseException") = true := by decide
  unfold raiseStmt
  refine wpAny_bind (wpAny_mono h (fun v s₁ h₁ => ?_) fun _ _ x => x)
  obtain ⟨e, dd, t, rfl, X, he, hE⟩ := h₁
  have hC := X _ _ (lk44 P)
  obtain ⟨hp, g, d, tk, os⟩ := s₁
  repeat (first | with_reducible refine wpAny_loadPart_at he ?_ | with_reducible refine wpAny_loadPart_at hC ?_ | (with_reducible refine wpAny_isSubtype_exc hC ?_; rw [hcB]) | wp_step)
  exact wpAny_raiseNew_none hh hE
noncomputable def RaiseMade (P : Params) (E : Value → Shared → Prop) (v : Value) (s₁ : Shared) : Prop := ∃ e dd t, v = .ref e ∧ (hK P).In s₁.heap ∧
      s₁.heap.get? e = some { cls := .ref 44, dict := dd, data := .fields #[.ref t, .none, .none, .none, .bool false, .none] } ∧ E (.ref e) s₁
theorem raiseMade {P : Params} {E : Value → Shared → Prop} {s₁ : Shared} {h₀ : Heap} {L e t : Addr} {m : Str → Option Value} {dd : Option Addr} {news : List (Addr × Obj)} (F : Fr h₀ L s₁.heap m) (X : (hK P).In h₀)
    (N : News h₀ L s₁.heap ((e, ({ cls := .ref 44, dict := dd, data := .fields #[.ref t, .none, .none, .none, .bool false, .none] } : Obj)) :: news)) (h : E (.ref e) s₁) : RaiseMade P E (.ref e) s₁ := ⟨e, dd, t, rfl, X.keeps F.keep, (N _ (.head _)).1, h⟩
theorem exec_raise {x : Expr} {pos : Pos} {Q : Flow → Shared → Prop} (hh : A.handled = none) {P : Params} {h₀ : Heap} (_X : (hK P).In h₀)
    (h : wpAny M A (eval x env) (fun v s₁ => RaiseMade P E v s₁) E s) :
    wpAny M A (exec (.Raise (some x) none pos) env) Q E s := by
  rw [arm_exec_Raise]
  refine wpAny_bind (wpAny_standAt (raise_made hh (P := P) (wpAny_bind (wpAny_mono h (fun v s₁ h₁ => wpAny_bind (wpAny_standAt (wpAny_pure h₁))) fun _ _ x => x))))
end
section
variable {M : Model} {A : Around} {E : Value → Shared → Prop} {s' : Shared} {base g : Heap} {outer : List Env} {L a e t : Addr} {m : Str → Option Value} {name : Str} {scope : Scope} {cd : Value} {Q : Unit → Shared → Prop} {news : List (Addr × Obj)}
theorem leave_raiseD {cls : Value} {vs : List Value} {dd : Option Addr} (K : Below A base outer g) (F : Fr g L s'.heap m)
    (N : News g L s'.heap ((e, ({ cls := cls, dict := dd, data := .fields #[.ref t, .none, .none, .none, .bool false, .none] } : Obj)) :: (t, ({ cls := .type "tuple", data := .seq vs.toArray } : Obj)) :: news)) (hne : ∀ p ∈ news, p.1 ≠ e ∧ p.1 ≠ t)
    (hQ : ∀ h', RaisedS base g outer e cls t vs news h' → RaisedK base outer e cls t vs news h' → g.UpToSlots h' → Q () { s' with heap := h' }) (hk : scope.kind = .function := by rfl) :
    wpAny M (A.deeper (envOf name scope L a cd)) (leaving (envOf name scope L a cd) (.ref e)) Q E s' := by
  have K' := K.push (name := name) (a := a) (cd := cd) F hk
  have Ne := N _ (.head _)
  have Nt := N _ (.tail _ (.head _))
  let as : List Addr := e :: t :: (envOf name scope L a cd :: outer).filterMap (·.frame)
  have hin : ∀ env ∈ (envOf name scope L a cd :: outer), ∀ b, env.frame = some b → b ∈ as := fun env he b hb => .tail _ (.tail _ (List.mem_filterMap.mpr ⟨env, he, hb⟩))
  have mem : ∀ b, b ∈ as → b = e ∨ b = t ∨ b ∈ (envOf name scope L a cd :: outer).filterMap (·.frame) := fun b hb => by
    rcases List.mem_cons.mp hb with h | hb
    · exact .inl h
    · rcases List.mem_cons.mp hb with h | hb
      · exact .inr (.inl h)
      · exact .inr (.inr hb)
  have st : base.StaysIn (hideAll s'.heap as) := fun b o q => hideAll_get _ (K'.stays b o q) fun hm => by
    rcases mem b hm with rfl | rfl | hm
    · have := K.stays _ _ q; rw [Ne.2.2] at this; cases this
    · have := K.stays _ _ q; rw [Nt.2.2] at this; cases this
    · rw [(K'.frames.mem hm).1] at q; cases q
  have sg : ∀ b o, g.get? b = some o → b ∉ outer.filterMap (·.frame) → (hideAll s'.heap as).get? b = some o := fun b o q nm => hideAll_get _ (F.keep b o q) fun hm => by
    rcases mem b hm with rfl | rfl | hm
    · rw [Ne.2.2] at q; cases q
    · rw [Nt.2.2] at q; cases q
    · rcases kts_mem hm with z | z
      · rw [z, kts_self F] at q; cases q
      · exact nm z
  have hl : ∀ q ∈ news, (hideAll s'.heap as).get? q.1 = some q.2 ∧ g.get? q.1 = none ∧ base.get? q.1 = none := fun q hq => by
    have Nq := N q (.tail _ (.tail _ hq))
    refine ⟨hideAll_get _ Nq.1 fun hm => ?_, Nq.2.2, fresh_of_stays K.stays Nq.2.2⟩
    rcases mem _ hm with h | h | hm
    · exact (hne q hq).1 h
    · exact (hne q hq).2 h
    · rcases kts_mem hm with z | z
      · exact Nq.2.1 z
      · obtain ⟨o, ho, _⟩ := (K.frames.mem z).2
        rw [Nq.2.2] at ho; cases ho
  have hen : (hideAll s'.heap as).get? e = none := hideAll_none _ (.head _)
  have htn : (hideAll s'.heap as).get? t = none := hideAll_none _ (.tail _ (.head _))
  refine wpAny_leaving_firstW (a0 := .ref t) K'.stack (funFrames_hide K'.frames hin) rfl Ne.1 (fun b o q => of_hideAll _ q) hen rfl rfl rfl fun h' hL => ?_
  obtain ⟨k1, ⟨_, _, k2⟩, k3, k4⟩ := hL
  have R : RaisedS base g outer e cls t vs news h' := ⟨⟨_, st, sg, hl, ⟨k1, hen, k2, k3⟩, htn⟩, Heap.TupAt.of_slots ⟨_, _, Nt.1, rfl, rfl⟩ k4⟩
  exact hQ h' R R.toK ((Heap.UpToSlots.of_keeps F.keep).trans k4)
end
end Mine
end
section
open PySem PySem.W PySem.Calls PyProof.Rows
set_option maxRecDepth 100000
set_option maxHeartbeats 4000000
namespace Mine

theorem is_digit_con (w : World) (x : Str) (tx : Tok) (k : Int) (tk : Tok) (hx : x.length < 1000) (h0 : 0 ≤ k) :
   ConP w 67 [.str x tx, .int k tk] 1 (fun _ => .bool (atIs dig x k)) (atIs dig x k = true → k < x.length) := by
  unfold ConP
  intro mean mg mb dp un gd cn cs a ccd cl outer A₀ base h₀ L m news s Q E B F X N T hk hd hu hret
  k_with_none
  refine wpAny_call ?_
  k_dflt ktr_enter
  (rename Fr _ _ _ _ => F0); have F1 := lkF F0 (l' := [(Str.ofString "at", Value.int k tk), (Str.ofString "text", Value.str x tx)]) (by kernel_rfl); clear F0
  k_steps
  · exact retP hret 0 (by k_asm) (by k_asm) (by rw [dig_a h0 (by assumption) (by assumption), decide_eq_true (by assumption)]; rfl) (atIs_lt h0)
  · exact retP hret 0 (by k_asm) (by k_asm) (by rw [dig_b h0 (by assumption) (by assumption)]) (atIs_lt h0)
  · exact retP hret 0 (by k_asm) (by k_asm) (by rw [atIs_out (by assumption), decide_eq_false (by assumption)]) (atIs_lt h0)

theorem digits_behind_con (w : World) (x : Str) (tx : Tok) (k : Int) (tk : Tok) (hx : x.length < 1000) (h0 : 0 ≤ k) :
   ConP w 74 [.str x tx, .int k tk] 2 (fun t => .int (pEnd dig x k) t) (k ≤ pEnd dig x k ∧ (k ≤ x.length → pEnd dig x k ≤ x.length)) := by
  unfold ConP
  intro mean mg mb dp un gd cn cs a ccd cl outer A₀ base h₀ L m news s Q E B F X N T hk hd hu hret
  k_with_none
  k_with "call ref" => first | ((k_here; k_dflt (refine' useP (is_digit_con _ _ _ _ _ ?c0q7 ?c1q7) ?k1q7 ?k2q7 ?k3q7 ?k4q7 ?k5q7 ?kKq7 ?kdq7 ?kuq7 ?_; (case k1q7 => k_asm); (case k2q7 => k_asm); (case k3q7 => k_asm); (case k4q7 => k_asm); (case k5q7 => k_asm); (case kKq7 => first | exact rfl | assumption); (case kdq7 => first | exact room1 (by with_reducible assumption) (by exact rfl) (by exact rfl) | ktr_room); (case kuq7 => first | exact units3 (by with_reducible assumption) (by exact rfl) (by exact rfl) | ktr_units); (case c0q7 => first | with_reducible assumption | omega); (case c1q7 => first | with_reducible assumption | omega); k_whole; (intro tz hz tkz gz Fz Nz; (try dsimp only); (try k_fold))))) | fail "next"
  k_with "exec While Call cons nil" => k_while (fun _ j => k ≤ j ∧ pEnd dig x j = pEnd dig x k) (fun _ j => (x.length - j).toNat) "at"
  k_with "state" => first | exact ⟨Int.le_refl _, rfl⟩ | exact ⟨by omega, (pEnd_step (by omega) (by assumption)).trans (by assumption)⟩
  k_with "measure" => exact endLess (p := dig) (by omega) (by assumption)
  refine wpAny_call ?_
  k_dflt ktr_enter
  (rename Fr _ _ _ _ => F0); have F1 := lkF F0 (l' := [(Str.ofString "at", Value.int k tk), (Str.ofString "text", Value.str x tx)]) (by kernel_rfl); clear F0
  k_steps
  · exact retP hret _ (by k_asm) (by k_asm) (by rw [← (by assumption : pEnd dig x _ = pEnd dig x k), pEnd_stop (by omega) (by assumption)]) ⟨pEnd_ge _ _ _, pEnd_le h0⟩

end Mine
end
section
open PySem PySem.W PySem.Calls PyProof.Rows
set_option maxRecDepth 100000
set_option maxHeartbeats 4000000
namespace Mine

theorem exponent_behind_con (w : World) (x : Str) (tx : Tok) (k : Int) (tk : Tok) (hx : x.length < 1000) (h0 : 0 ≤ k) :
   ConP w 95 [.str x tx, .int k tk] 3 (fun t => .int (eEnd x k) t) (k ≤ eEnd x k) := by
  unfold ConP
  intro mean mg mb dp un gd cn cs a ccd cl outer A₀ base h₀ L m news s Q E B F X N T hk hd hu hret
  k_with_none
  k_with "call ref" => first | ((k_here; k_dflt (refine' useP (is_digit_con _ _ _ _ _ ?c0q7 ?c1q7) ?k1q7 ?k2q7 ?k3q7 ?k4q7 ?k5q7 ?kKq7 ?kdq7 ?kuq7 ?_; (case k1q7 => k_asm); (case k2q7 => k_asm); (case k3q7 => k_asm); (case k4q7 => k_asm); (case k5q7 => k_asm); (case kKq7 => first | exact rfl | assumption); (case kdq7 => first | exact room1 (by with_reducible assumption) (by exact rfl) (by exact rfl) | ktr_room); (case kuq7 => first | exact units3 (by with_reducible assumption) (by exact rfl) (by exact rfl) | ktr_units); (case c0q7 => first | with_reducible assumption | omega); (case c1q7 => first | with_reducible assumption | omega); k_whole; (intro tz hz tkz gz Fz Nz; (try dsimp only); (try k_fold))))) | fail "next"
  k_with "call ref" => first | ((k_here; k_dflt (refine' useP (digits_behind_con _ _ _ _ _ ?c0q7 ?c1q7) ?k1q7 ?k2q7 ?k3q7 ?k4q7 ?k5q7 ?kKq7 ?kdq7 ?kuq7 ?_; (case k1q7 => k_asm); (case k2q7 => k_asm); (case k3q7 => k_asm); (case k4q7 => k_asm); (case k5q7 => k_asm); (case kKq7 => first | exact rfl | assumption); (case kdq7 => first | exact room1 (by with_reducible assumption) (by exact rfl) (by exact rfl) | ktr_room); (case kuq7 => first | exact units3 (by with_reducible assumption) (by exact rfl) (by exact rfl) | ktr_units); (case c0q7 => first | with_reducible assumption | omega); (case c1q7 => first | with_reducible assumption | omega); k_whole; (intro tz hz tkz gz Fz Nz; (try dsimp only); (try k_fold))))) | fail "next"
  refine wpAny_call ?_
  k_dflt ktr_enter
  (rename Fr _ _ _ _ => F0); have F1 := lkF F0 (l' := [(Str.ofString "at", Value.int k tk), (Str.ofString "text", Value.str x tx)]) (by kernel_rfl); clear F0
  k_steps
  all_goals
    refine retP hret _ (by k_asm) (by first | k_asm | (refine' cb_drop ?cbN ?cbS; (case cbN => assumption); (case cbS => kcj_all))) (congrArg (Value.int · _) ?_) (eEnd_ge x k)
    first
    | exact eEnd_1 h0 (by assumption)
    | exact eEnd_2 h0 (by assumption) (by assumption) (by assumption)
    | exact eEnd_3 h0 (by assumption) (by assumption) (by assumption)
    | exact eEnd_4 h0 (by assumption) (by assumption) (by assumption)
    | exact eEnd_5 h0 (by assumption) (by assumption) (by assumption)

theorem blanks_behind_con (w : World) (x : Str) (tx : Tok) (k : Int) (tk : Tok) (hx : x.length < 1000) (h0 : 0 ≤ k) :
   ConP w 102 [.str x tx, .int k tk] 2 (fun t => .int (pEnd blk x k) t) (k ≤ pEnd blk x k ∧ (k ≤ x.length → pEnd blk x k ≤ x.length)) := by
  unfold ConP
  intro mean mg mb dp un gd cn cs a ccd cl outer A₀ base h₀ L m news s Q E B F X N T hk hd hu hret
  k_with_none
  k_with "call ref" => first | ((k_here; k_dflt (refine' useP (is_digit_con _ _ _ _ _ ?c0q7 ?c1q7) ?k1q7 ?k2q7 ?k3q7 ?k4q7 ?k5q7 ?kKq7 ?kdq7 ?kuq7 ?_; (case k1q7 => k_asm); (case k2q7 => k_asm); (case k3q7 => k_asm); (case k4q7 => k_asm); (case k5q7 => k_asm); (case kKq7 => first | exact rfl | assumption); (case kdq7 => first | exact room1 (by with_reducible assumption) (by exact rfl) (by exact rfl) | ktr_room); (case kuq7 => first | exact units3 (by with_reducible assumption) (by exact rfl) (by exact rfl) | ktr_units); (case c0q7 => first | with_reducible assumption | omega); (case c1q7 => first | with_reducible assumption | omega); k_whole; (intro tz hz tkz gz Fz Nz; (try dsimp only); (try k_fold))))) | fail "next"
  k_with "call ref" => first | ((k_here; k_dflt (refine' useP (digits_behind_con _ _ _ _ _ ?c0q7 ?c1q7) ?k1q7 ?k2q7 ?k3q7 ?k4q7 ?k5q7 ?kKq7 ?kdq7 ?kuq7 ?_; (case k1q7 => k_asm); (case k2q7 => k_asm); (case k3q7 => k_asm); (case k4q7 => k_asm); (case k5q7 => k_asm); (case kKq7 => first | exact rfl | assumption); (case kdq7 => first | exact room1 (by with_reducible assumption) (by exact rfl) (by exact rfl) | ktr_room); (case kuq7 => first | exact units3 (by with_reducible assumption) (by exact rfl) (by exact rfl) | ktr_units); (case c0q7 => first | with_reducible assumption | omega); (case c1q7 => first | with_reducible assumption | omega); k_whole; (intro tz hz tkz gz Fz Nz; (try dsimp only); (try k_fold))))) | fail "next"
  k_with "call ref" => first | ((k_here; k_dflt (refine' useP (exponent_behind_con _ _ _ _ _ ?c0q7 ?c1q7) ?k1q7 ?k2q7 ?k3q7 ?k4q7 ?k5q7 ?kKq7 ?kdq7 ?kuq7 ?_; (case k1q7 => k_asm); (case k2q7 => k_asm); (case k3q7 => k_asm); (case k4q7 => k_asm); (case k5q7 => k_asm); (case kKq7 => first | exact rfl | assumption); (case kdq7 => first | exact room1 (by with_reducible assumption) (by exact rfl) (by exact rfl) | ktr_room); (case kuq7 => first | exact units3 (by with_reducible assumption) (by exact rfl) (by exact rfl) | ktr_units); (case c0q7 => first | with_reducible assumption | omega); (case c1q7 => first | with_reducible assumption | omega); k_whole; (intro tz hz tkz gz Fz Nz; (try dsimp only); (try k_fold))))) | fail "next"
  k_with "exec While BoolOp cons nil" => k_while (fun _ j => k ≤ j ∧ pEnd blk x j = pEnd blk x k) (fun _ j => (x.length - j).toNat) "at"
  k_with "state" => first | exact ⟨Int.le_refl _, rfl⟩ | exact ⟨by omega, (blk_step (by omega) (by assumption) (by assumption)).trans (by assumption)⟩
  refine wpAny_call ?_
  k_dflt ktr_enter
  (rename Fr _ _ _ _ => F0); have F1 := lkF F0 (l' := [(Str.ofString "at", Value.int k tk), (Str.ofString "text", Value.str x tx)]) (by kernel_rfl); clear F0
  k_steps
  all_goals
    refine retP hret _ (by k_asm) (by first | k_asm | (refine' cb_drop ?cbN ?cbS; (case cbN => assumption); (case cbS => kcj_all))) (congrArg (Value.int · _) ?_) ⟨pEnd_ge _ _ _, pEnd_le h0⟩
    rw [← (by assumption : pEnd blk x _ = pEnd blk x k)]
    first
    | exact pEnd_out (by omega) (by assumption)
    | exact blk_stop (by omega) (by assumption) (by assumption)

theorem least_con (w : World)  :
   ConP w 53 [] 1 (fun t => .int (-9223372036854775808) t) True := by
  unfold ConP
  intro mean mg mb dp un gd cn cs a ccd cl outer A₀ base h₀ L m news s Q E B F X N T hk hd hu hret
  k_with_none
  k_with "call ref" => first | ((k_here; k_dflt (refine' useP (is_digit_con _ _ _ _ _ ?c0q7 ?c1q7) ?k1q7 ?k2q7 ?k3q7 ?k4q7 ?k5q7 ?kKq7 ?kdq7 ?kuq7 ?_; (case k1q7 => k_asm); (case k2q7 => k_asm); (case k3q7 => k_asm); (case k4q7 => k_asm); (case k5q7 => k_asm); (case kKq7 => first | exact rfl | assumption); (case kdq7 => first | exact room1 (by with_reducible assumption) (by exact rfl) (by exact rfl) | ktr_room); (case kuq7 => first | exact units3 (by with_reducible assumption) (by exact rfl) (by exact rfl) | ktr_units); (case c0q7 => first | with_reducible assumption | omega); (case c1q7 => first | with_reducible assumption | omega); k_whole; (intro tz hz tkz gz Fz Nz; (try dsimp only); (try k_fold))))) | fail "next"
  k_with "call ref" => first | ((k_here; k_dflt (refine' useP (digits_behind_con _ _ _ _ _ ?c0q7 ?c1q7) ?k1q7 ?k2q7 ?k3q7 ?k4q7 ?k5q7 ?kKq7 ?kdq7 ?kuq7 ?_; (case k1q7 => k_asm); (case k2q7 => k_asm); (case k3q7 => k_asm); (case k4q7 => k_asm); (case k5q7 => k_asm); (case kKq7 => first | exact rfl | assumption); (case kdq7 => first | exact room1 (by with_reducible assumption) (by exact rfl) (by exact rfl) | ktr_room); (case kuq7 => first | exact units3 (by with_reducible assumption) (by exact rfl) (by exact rfl) | ktr_units); (case c0q7 => first | with_reducible assumption | omega); (case c1q7 => first | with_reducible assumption | omega); k_whole; (intro tz hz tkz gz Fz Nz; (try dsimp only); (try k_fold))))) | fail "next"
  k_with "call ref" => first | ((k_here; k_dflt (refine' useP (exponent_behind_con _ _ _ _ _ ?c0q7 ?c1q7) ?k1q7 ?k2q7 ?k3q7 ?k4q7 ?k5q7 ?kKq7 ?kdq7 ?kuq7 ?_; (case k1q7 => k_asm); (case k2q7 => k_asm); (case k3q7 => k_asm); (case k4q7 => k_asm); (case k5q7 => k_asm); (case kKq7 => first | exact rfl | assumption); (case kdq7 => first | exact room1 (by with_reducible assumption) (by exact rfl) (by exact rfl) | ktr_room); (case kuq7 => first | exact units3 (by with_reducible assumption) (by exact rfl) (by exact rfl) | ktr_units); (case c0q7 => first | with_reducible assumption | omega); (case c1q7 => first | with_reducible assumption | omega); k_whole; (intro tz hz tkz gz Fz Nz; (try dsimp only); (try k_fold))))) | fail "next"
  k_with "call ref" => first | ((k_here; k_dflt (refine' useP (blanks_behind_con _ _ _ _ _ ?c0q7 ?c1q7) ?k1q7 ?k2q7 ?k3q7 ?k4q7 ?k5q7 ?kKq7 ?kdq7 ?kuq7 ?_; (case k1q7 => k_asm); (case k2q7 => k_asm); (case k3q7 => k_asm); (case k4q7 => k_asm); (case k5q7 => k_asm); (case kKq7 => first | exact rfl | assumption); (case kdq7 => first | exact room1 (by with_reducible assumption) (by exact rfl) (by exact rfl) | ktr_room); (case kuq7 => first | exact units3 (by with_reducible assumption) (by exact rfl) (by exact rfl) | ktr_units); (case c0q7 => first | with_reducible assumption | omega); (case c1q7 => first | with_reducible assumption | omega); k_whole; (intro tz hz tkz gz Fz Nz; (try dsimp only); (try k_fold))))) | fail "next"
  refine wpAny_call ?_
  k_dflt ktr_enter
  k_steps
  exact retP hret _ (by k_asm) (by k_asm) rfl trivial
theorem greatest_con (w : World)  :
   ConP w 60 [] 1 (fun t => .int 9223372036854775807 t) True := by
  unfold ConP
  intro mean mg mb dp un gd cn cs a ccd cl outer A₀ base h₀ L m news s Q E B F X N T hk hd hu hret
  k_with_none
  k_with "call ref" => first | ((k_here; k_dflt (refine' useP (is_digit_con _ _ _ _ _ ?c0q7 ?c1q7) ?k1q7 ?k2q7 ?k3q7 ?k4q7 ?k5q7 ?kKq7 ?kdq7 ?kuq7 ?_; (case k1q7 => k_asm); (case k2q7 => k_asm); (case k3q7 => k_asm); (case k4q7 => k_asm); (case k5q7 => k_asm); (case kKq7 => first | exact rfl | assumption); (case kdq7 => first | exact room1 (by with_reducible assumption) (by exact rfl) (by exact rfl) | ktr_room); (case kuq7 => first | exact units3 (by with_reducible assumption) (by exact rfl) (by exact rfl) | ktr_units); (case c0q7 => first | with_reducible assumption | omega); (case c1q7 => first | with_reducible assumption | omega); k_whole; (intro tz hz tkz gz Fz Nz; (try dsimp only); (try k_fold))))) | fail "next"
  k_with "call ref" => first | ((k_here; k_dflt (refine' useP (digits_behind_con _ _ _ _ _ ?c0q7 ?c1q7) ?k1q7 ?k2q7 ?k3q7 ?k4q7 ?k5q7 ?kKq7 ?kdq7 ?kuq7 ?_; (case k1q7 => k_asm); (case k2q7 => k_asm); (case k3q7 => k_asm); (case k4q7 => k_asm); (case k5q7 => k_asm); (case kKq7 => first | exact rfl | assumption); (case kdq7 => first | exact room1 (by with_reducible assumption) (by exact rfl) (by exact rfl) | ktr_room); (case kuq7 => first | exact units3 (by with_reducible assumption) (by exact rfl) (by exact rfl) | ktr_units); (case c0q7 => first | with_reducible assumption | omega); (case c1q7 => first | with_reducible assumption | omega); k_whole; (intro tz hz tkz gz Fz Nz; (try dsimp only); (try k_fold))))) | fail "next"
  k_with "call ref" => first | ((k_here; k_dflt (refine' useP (exponent_behind_con _ _ _ _ _ ?c0q7 ?c1q7) ?k1q7 ?k2q7 ?k3q7 ?k4q7 ?k5q7 ?kKq7 ?kdq7 ?kuq7 ?_; (case k1q7 => k_asm); (case k2q7 => k_asm); (case k3q7 => k_asm); (case k4q7 => k_asm); (case k5q7 => k_asm); (case kKq7 => first | exact rfl | assumption); (case kdq7 => first | exact room1 (by with_reducible assumption) (by exact rfl) (by exact rfl) | ktr_room); (case kuq7 => first | exact units3 (by with_reducible assumption) (by exact rfl) (by exact rfl) | ktr_units); (case c0q7 => first | with_reducible assumption | omega); (case c1q7 => first | with_reducible assumption | omega); k_whole; (intro tz hz tkz gz Fz Nz; (try dsimp only); (try k_fold))))) | fail "next"
  k_with "call ref" => first | ((k_here; k_dflt (refine' useP (blanks_behind_con _ _ _ _ _ ?c0q7 ?c1q7) ?k1q7 ?k2q7 ?k3q7 ?k4q7 ?k5q7 ?kKq7 ?kdq7 ?kuq7 ?_; (case k1q7 => k_asm); (case k2q7 => k_asm); (case k3q7 => k_asm); (case k4q7 => k_asm); (case k5q7 => k_asm); (case kKq7 => first | exact rfl | assumption); (case kdq7 => first | exact room1 (by with_reducible assumption) (by exact rfl) (by exact rfl) | ktr_room); (case kuq7 => first | exact units3 (by with_reducible assumption) (by exact rfl) (by exact rfl) | ktr_units); (case c0q7 => first | with_reducible assumption | omega); (case c1q7 => first | with_reducible assumption | omega); k_whole; (intro tz hz tkz gz Fz Nz; (try dsimp only); (try k_fold))))) | fail "next"
  refine wpAny_call ?_
  k_dflt ktr_enter
  k_steps
  exact retP hret _ (by k_asm) (by k_asm) rfl trivial

theorem signed_con (w : World) (b : Bool) (v : Int) (tv : Tok) :
   ConP w 88 [.bool b, .int v tv] 2 (fun t => optV (signedF b v) t) True := by
  unfold ConP
  intro mean mg mb dp un gd cn cs a ccd cl outer A₀ base h₀ L m news s Q E B F X N T hk hd hu hret
  k_with_none
  k_with "call ref" => first | ((k_here; k_dflt (refine' useP (is_digit_con _ _ _ _ _ ?c0q7 ?c1q7) ?k1q7 ?k2q7 ?k3q7 ?k4q7 ?k5q7 ?kKq7 ?kdq7 ?kuq7 ?_; (case k1q7 => k_asm); (case k2q7 => k_asm); (case k3q7 => k_asm); (case k4q7 => k_asm); (case k5q7 => k_asm); (case kKq7 => first | exact rfl | assumption); (case kdq7 => first | exact room1 (by with_reducible assumption) (by exact rfl) (by exact rfl) | ktr_room); (case kuq7 => first | exact units3 (by with_reducible assumption) (by exact rfl) (by exact rfl) | ktr_units); (case c0q7 => first | with_reducible assumption | omega); (case c1q7 => first | with_reducible assumption | omega); k_whole; (intro tz hz tkz gz Fz Nz; (try dsimp only); (try k_fold))))) | fail "next"
  k_with "call ref" => first | ((k_here; k_dflt (refine' useP (digits_behind_con _ _ _ _ _ ?c0q7 ?c1q7) ?k1q7 ?k2q7 ?k3q7 ?k4q7 ?k5q7 ?kKq7 ?kdq7 ?kuq7 ?_; (case k1q7 => k_asm); (case k2q7 => k_asm); (case k3q7 => k_asm); (case k4q7 => k_asm); (case k5q7 => k_asm); (case kKq7 => first | exact rfl | assumption); (case kdq7 => first | exact room1 (by with_reducible assumption) (by exact rfl) (by exact rfl) | ktr_room); (case kuq7 => first | exact units3 (by with_reducible assumption) (by exact rfl) (by exact rfl) | ktr_units); (case c0q7 => first | with_reducible assumption | omega); (case c1q7 => first | with_reducible assumption | omega); k_whole; (intro tz hz tkz gz Fz Nz; (try dsimp only); (try k_fold))))) | fail "next"
  k_with "call ref" => first | ((k_here; k_dflt (refine' useP (exponent_behind_con _ _ _ _ _ ?c0q7 ?c1q7) ?k1q7 ?k2q7 ?k3q7 ?k4q7 ?k5q7 ?kKq7 ?kdq7 ?kuq7 ?_; (case k1q7 => k_asm); (case k2q7 => k_asm); (case k3q7 => k_asm); (case k4q7 => k_asm); (case k5q7 => k_asm); (case kKq7 => first | exact rfl | assumption); (case kdq7 => first | exact room1 (by with_reducible assumption) (by exact rfl) (by exact rfl) | ktr_room); (case kuq7 => first | exact units3 (by with_reducible assumption) (by exact rfl) (by exact rfl) | ktr_units); (case c0q7 => first | with_reducible assumption | omega); (case c1q7 => first | with_reducible assumption | omega); k_whole; (intro tz hz tkz gz Fz Nz; (try dsimp only); (try k_fold))))) | fail "next"
  k_with "call ref" => first | ((k_here; k_dflt (refine' useP (blanks_behind_con _ _ _ _ _ ?c0q7 ?c1q7) ?k1q7 ?k2q7 ?k3q7 ?k4q7 ?k5q7 ?kKq7 ?kdq7 ?kuq7 ?_; (case k1q7 => k_asm); (case k2q7 => k_asm); (case k3q7 => k_asm); (case k4q7 => k_asm); (case k5q7 => k_asm); (case kKq7 => first | exact rfl | assumption); (case kdq7 => first | exact room1 (by with_reducible assumption) (by exact rfl) (by exact rfl) | ktr_room); (case kuq7 => first | exact units3 (by with_reducible assumption) (by exact rfl) (by exact rfl) | ktr_units); (case c0q7 => first | with_reducible assumption | omega); (case c1q7 => first | with_reducible assumption | omega); k_whole; (intro tz hz tkz gz Fz Nz; (try dsimp only); (try k_fold))))) | fail "next"
  k_with "call ref" => first | ((k_here; k_dflt (refine' useP (least_con _ ) ?k1q7 ?k2q7 ?k3q7 ?k4q7 ?k5q7 ?kKq7 ?kdq7 ?kuq7 ?_; (case k1q7 => k_asm); (case k2q7 => k_asm); (case k3q7 => k_asm); (case k4q7 => k_asm); (case k5q7 => k_asm); (case kKq7 => first | exact rfl | assumption); (case kdq7 => first | exact room1 (by with_reducible assumption) (by exact rfl) (by exact rfl) | ktr_room); (case kuq7 => first | exact units3 (by with_reducible assumption) (by exact rfl) (by exact rfl) | ktr_units); k_whole; (intro tz hz tkz gz Fz Nz; (try dsimp only); (try k_fold))))) | fail "next"
  k_with "call ref" => first | ((k_here; k_dflt (refine' useP (greatest_con _ ) ?k1q7 ?k2q7 ?k3q7 ?k4q7 ?k5q7 ?kKq7 ?kdq7 ?kuq7 ?_; (case k1q7 => k_asm); (case k2q7 => k_asm); (case k3q7 => k_asm); (case k4q7 => k_asm); (case k5q7 => k_asm); (case kKq7 => first | exact rfl | assumption); (case kdq7 => first | exact room1 (by with_reducible assumption) (by exact rfl) (by exact rfl) | ktr_room); (case kuq7 => first | exact units3 (by with_reducible assumption) (by exact rfl) (by exact rfl) | ktr_units); k_whole; (intro tz hz tkz gz Fz Nz; (try dsimp only); (try k_fold))))) | fail "next"
  refine wpAny_call ?_
  k_dflt ktr_enter
  (rename Fr _ _ _ _ => F0); have F1 := lkF F0 (l' := [(Str.ofString "value", Value.int v tv), (Str.ofString "is_minus", Value.bool b)]) (by kernel_rfl); clear F0
  k_steps
  all_goals first
    | exact retP hret 0 (by k_asm) (by k_asm) (optV_none (sgNone (by first | exact Or.inl ⟨by assumption, by omega⟩ | exact Or.inr ⟨by assumption, by omega⟩)) 0) trivial
    | exact retP hret _ (by k_asm) (by k_asm) (optV_some (sgSome (by first | exact Or.inl ⟨by assumption, rfl⟩ | exact Or.inr ⟨by assumption, rfl⟩) (by assumption) (by assumption))) trivial
end Mine
end
section
open PySem PySem.W PySem.Calls PyProof.Rows
set_option maxRecDepth 100000
set_option maxHeartbeats 4000000
namespace Mine

theorem digits_value_con (w : World) (x : Str) (tx : Tok) (f b : Int) (tf tb : Tok) (hx : x.length < 1000) (h0 : 0 ≤ f) (h1 : f ≤ b) (h2 : b ≤ x.length) (hdg : ∀ i : Int, f ≤ i → i < b → atIs dig x i = true) :
   ConP w 81 [.str x tx, .int f tf, .int b tb] 1 (fun t => .int (sat (dv (seg x f b))) t) True := by
  unfold ConP
  intro mean mg mb dp un gd cn cs a ccd cl outer A₀ base h₀ L m news s Q E B F X N T hk hd hu hret
  k_with_none
  k_with "state" => first | exact dvStart | exact dvTurn h0 h2 hdg (by assumption) (by assumption) (by assumption) (by assumption)
  refine wpAny_call ?_
  k_dflt ktr_enter
  (rename Fr _ _ _ _ => F0); have F1 := lkF F0 (l' := [(Str.ofString "behind", Value.int b tb), (Str.ofString "first", Value.int f tf), (Str.ofString "text", Value.str x tx)]) (by kernel_rfl); clear F0
  repeat' ((fail_if_success (with_reducible show wpAny _ _ (pyIter (Value.ref _)) _ _ _)); first | (k_unfold; (try dsimp only)) | (k_end; wrow_close) | walk1 | (dsimp only; walk1) | (leave1; walk_say "STEP leave1"; try dsimp only) | fail "no step")
  k_state (fun pre v => 0 ≤ v ∧ v ≤ 9223372036854775808 ∧ v = dv (((co x).drop f.toNat).take pre.length)) "value"
  all_goals k_steps
  · exact retP hret _ (by k_asm) (by first | k_asm | (refine' cb_drop ?cbN ?cbS; (case cbN => assumption); (case cbS => kcj_all))) (congrArg (Value.int · _) (dvOver h0 h2 hdg (by assumption) (by assumption) (by assumption) (by assumption))) trivial
  · exact retP hret _ (by k_asm) (by first | k_asm | (refine' cb_drop ?cbN ?cbS; (case cbN => assumption); (case cbS => kcj_all))) (congrArg (Value.int · _) (dvDone (by assumption) (by assumption))) trivial
end Mine
end
section
open PySem PySem.W PySem.Calls PyProof.Rows
set_option maxRecDepth 100000
set_option maxHeartbeats 4000000
namespace Mine
theorem numeric_con (w : World) (x : Str) (tx : Tok) (hx : x.length < 1000) :
   ConT w 109 [.str x tx] 5 (fun t => .int (numP x).1 t) (fun t => optV (numP x).2 t) := by
  unfold ConT
  intro mean mg mb dp un gd cn cs a ccd cl outer A₀ base h₀ L m news s Q E B F X N T hk hd hu hret
  k_with_none
  k_with "MSTEP" => first | (first | (k_unfold; (try dsimp only)) | (k_end; wrow_close) | walk1 | (dsimp only; walk1) | (leave1; walk_say "STEP leave1"; try dsimp only) | fail "no step") | fail "next"
  k_with "KJoinC" => first | (exact ⟨rfl, ⟨⟨_, _, rfl, by assumption, by (refine' cb_drop ?cbNq7 ?cbSq7; (case cbNq7 => assumption); (case cbSq7 => kcj_all))⟩⟩⟩) | fail "next"
  k_with "call ref" => first | ((k_here; k_dflt (refine' useP (is_digit_con _ _ _ _ _ ?c0q7 ?c1q7) ?k1q7 ?k2q7 ?k3q7 ?k4q7 ?k5q7 ?kKq7 ?kdq7 ?kuq7 ?_; (case k1q7 => k_asm); (case k2q7 => k_asm); (case k3q7 => k_asm); (case k4q7 => k_asm); (case k5q7 => k_asm); (case kKq7 => first | exact rfl | assumption); (case kdq7 => first | exact room1 (by with_reducible assumption) (by exact rfl) (by exact rfl) | ktr_room); (case kuq7 => first | exact units3 (by with_reducible assumption) (by exact rfl) (by exact rfl) | ktr_units); (case c0q7 => first | with_reducible assumption | omega); (case c1q7 => first | with_reducible assumption | omega); k_whole; (intro tz hz tkz gz Fz Nz; (try dsimp only); (try k_fold))))) | fail "next"
  k_with "call ref" => first | ((k_here; k_dflt (refine' useP (digits_behind_con _ _ _ _ _ ?c0q7 ?c1q7) ?k1q7 ?k2q7 ?k3q7 ?k4q7 ?k5q7 ?kKq7 ?kdq7 ?kuq7 ?_; (case k1q7 => k_asm); (case k2q7 => k_asm); (case k3q7 => k_asm); (case k4q7 => k_asm); (case k5q7 => k_asm); (case kKq7 => first | exact rfl | assumption); (case kdq7 => first | exact room1 (by with_reducible assumption) (by exact rfl) (by exact rfl) | ktr_room); (case kuq7 => first | exact units3 (by with_reducible assumption) (by exact rfl) (by exact rfl) | ktr_units); (case c0q7 => first | with_reducible assumption | omega); (case c1q7 => first | with_reducible assumption | omega); k_whole; (intro tz hz tkz gz Fz Nz; (try dsimp only); (try k_fold))))) | fail "next"
  k_with "call ref" => first | ((k_here; k_dflt (refine' useP (exponent_behind_con _ _ _ _ _ ?c0q7 ?c1q7) ?k1q7 ?k2q7 ?k3q7 ?k4q7 ?k5q7 ?kKq7 ?kdq7 ?kuq7 ?_; (case k1q7 => k_asm); (case k2q7 => k_asm); (case k3q7 => k_asm); (case k4q7 => k_asm); (case k5q7 => k_asm); (case kKq7 => first | exact rfl | assumption); (case kdq7 => first | exact room1 (by with_reducible assumption) (by exact rfl) (by exact rfl) | ktr_room); (case kuq7 => first | exact units3 (by with_reducible assumption) (by exact rfl) (by exact rfl) | ktr_units); (case c0q7 => first | with_reducible assumption | omega); (case c1q7 => first | with_reducible assumption | omega); k_whole; (intro tz hz tkz gz Fz Nz; (try dsimp only); (try k_fold))))) | fail "next"
  k_with "call ref" => first | ((k_here; k_dflt (refine' useP (blanks_behind_con _ _ _ _ _ ?c0q7 ?c1q7) ?k1q7 ?k2q7 ?k3q7 ?k4q7 ?k5q7 ?kKq7 ?kdq7 ?kuq7 ?_; (case k1q7 => k_asm); (case k2q7 => k_asm); (case k3q7 => k_asm); (case k4q7 => k_asm); (case k5q7 => k_asm); (case kKq7 => first | exact rfl | assumption); (case kdq7 => first | exact room1 (by with_reducible assumption) (by exact rfl) (by exact rfl) | ktr_room); (case kuq7 => first | exact units3 (by with_reducible assumption) (by exact rfl) (by exact rfl) | ktr_units); (case c0q7 => first | with_reducible assumption | omega); (case c1q7 => first | with_reducible assumption | omega); k_whole; (intro tz hz tkz gz Fz Nz; (try dsimp only); (try k_fold))))) | fail "next"
  k_with "call ref" => first | ((k_here; k_dflt (refine' useP (signed_con _ _ _ _ ) ?k1q7 ?k2q7 ?k3q7 ?k4q7 ?k5q7 ?kKq7 ?kdq7 ?kuq7 ?_; (case k1q7 => k_asm); (case k2q7 => k_asm); (case k3q7 => k_asm); (case k4q7 => k_asm); (case k5q7 => k_asm); (case kKq7 => first | exact rfl | assumption); (case kdq7 => first | exact room1 (by with_reducible assumption) (by exact rfl) (by exact rfl) | ktr_room); (case kuq7 => first | exact units3 (by with_reducible assumption) (by exact rfl) (by exact rfl) | ktr_units); k_whole; (intro tz hz tkz gz Fz Nz; (try dsimp only); (try k_fold))))) | fail "next"
  k_with "call ref" => first | ((k_here; k_dflt (refine' useP (digits_value_con _ _ _ _ _ _ _ ?c0q7 ?c1q7 ?c2q7 ?c3q7 ?c4q7) ?k1q7 ?k2q7 ?k3q7 ?k4q7 ?k5q7 ?kKq7 ?kdq7 ?kuq7 ?_; (case k1q7 => k_asm); (case k2q7 => k_asm); (case k3q7 => k_asm); (case k4q7 => k_asm); (case k5q7 => k_asm); (case kKq7 => first | exact rfl | assumption); (case kdq7 => first | exact room1 (by with_reducible assumption) (by exact rfl) (by exact rfl) | ktr_room); (case kuq7 => first | exact units3 (by with_reducible assumption) (by exact rfl) (by exact rfl) | ktr_units); (case c0q7 => first | with_reducible assumption | omega); (case c1q7 => first | with_reducible assumption | omega); (case c2q7 => first | with_reducible assumption | omega); (case c3q7 => first | with_reducible assumption | omega); (case c4q7 => first | exact dig_of_pEnd (by omega) | exact fun i a b => dig_of_pEnd (by omega) i a (by omega)); k_whole; (intro tz hz tkz gz Fz Nz; (try dsimp only); (try k_fold))))) | fail "next"
  refine wpAny_call ?_
  k_dflt ktr_enter
  (rename Fr _ _ _ _ => F0); have F1 := lkF F0 (l' := [(Str.ofString "text", Value.str x tx)]) (by kernel_rfl); clear F0
  have g1 := nF_ge x
  have g2 := nS_ge x
  have g3 := nB_ge x
  have g4 := nS_le x
  have g5 := nB_le x
  repeat' ((fail_if_success (with_reducible show wpAny _ _ (exec (Stmt.If _ _ _ _) _) _ _ _)); walk_at "MSTEP")
  rw [show pEnd blk x 0 = nF x from rfl] at *
  kj_step
  case hc => k_steps
  case hv => (kj_one; k_steps)
  case hk =>
    intro r1 t1 s1 hr1 hJ1
    obtain ⟨h1, tk1, e1, F1, N1⟩ := KJoinAt.at_ hJ1
    subst e1
    clear hJ1
    have er := nS_of hr1
    clear hr1
    subst er
    repeat' ((fail_if_success (with_reducible show wpAny _ _ (eval (PySem.Expr.BoolOp _ _ _) _) _ _ _)); walk_at "MSTEP")
    (rename Fr _ _ _ _ => F'); (rename News _ _ _ _ => N')
    rw [show pEnd dig x (nS x) = nB x from rfl] at *
    refine joinV (Value.bool (nPt x)) F' N' ?_ ?_
    · k_steps
      all_goals
        refine ⟨?_, ⟨⟨_, _, rfl, by assumption, by first | assumption | (refine' cb_drop ?cbN ?cbS; (case cbN => assumption); (case cbS => kcj_all))⟩⟩⟩
        first
        | exact congrArg Value.bool ((decide_eq_true (by assumption)).trans (pt_1 (by assumption) (by assumption)))
        | exact congrArg Value.bool (pt_2 (by assumption) (by assumption))
        | exact congrArg Value.bool (Eq.trans (by assumption) (pt_3 (by assumption)))
    · intro h2 tk2 F2 N2
      clear F' N'
      repeat' ((fail_if_success (with_reducible show wpAny _ _ (exec (Stmt.If _ _ _ _) _) _ _ _)); walk_at "MSTEP")
      (rename Fr _ _ _ _ => F'); (rename News _ _ _ _ => N')
      refine wpAny_If (joinV (decide (nB x = nS x) && !nPt x) F' N' ?_ ?_)
      · k_steps
        all_goals
          refine ⟨?_, ⟨⟨_, _, rfl, by assumption, by first | assumption | (refine' cb_drop ?cbN ?cbS; (case cbN => assumption); (case cbS => kcj_all))⟩⟩⟩
          first
          | (rw [decide_eq_true (by assumption : nB x = nS x), Bool.true_and]; first | rfl | (rw [(by assumption : nPt x = _)]; rfl))
          | (rw [decide_eq_false (by assumption : nB x ≠ nS x)]; rfl)
      · intro h3 tk3 F3 N3
        clear F' N'
        split
        · k_steps
          exact retT hret _ _ (by k_asm) (by assumption) (by k_mem) (by kcj_all) (by first | ktn_lt | exact And.right (by assumption)) (congrArg (Value.int · _) (by rw [numP_0 (by assumption)])) (optV_some (by rw [numP_0 (by assumption)]))
        · have g6 := nFar0_ge x
          repeat' ((fail_if_success (with_reducible show wpAny _ _ (exec (Stmt.If _ _ _ _) _) _ _ _)); walk_at "MSTEP")
          (rename Fr _ _ _ _ => F'); (rename News _ _ _ _ => N')
          refine' kj_if_set (c := nPt x) (v := pEnd dig x (nB x + 1)) F' N' ?hold ?hc ?hv ?hk
          case hold => with_unfolding_all rfl
          case hc => k_steps
          case hv => (kj_one; k_steps)
          case hk =>
            intro r1 t1 s1 hr1 hJ1
            obtain ⟨h1, tk1, e1, F1, N1⟩ := KJoinAt.at_ hJ1
            subst e1
            clear hJ1 F' N'
            have er := nFar0_of hr1
            clear hr1
            subst er
            repeat' ((fail_if_success (with_reducible show wpAny _ _ (exec (Stmt.If _ _ _ _) _) _ _ _)); walk_at "MSTEP")
            rw [show eEnd x (nFar0 x) = nFar x from rfl] at *
            k_steps
            all_goals first
            | exact retT hret _ _ (by k_asm) (by assumption) (by k_mem) (by kcj_all) (by first | ktn_lt | exact And.right (by assumption)) (congrArg (Value.int · _) (by rw [numP_2 (by assumption) (by assumption)])) (congrArg (optV · _) ((nVal_1 (by assumption)).trans (by rw [numP_2 (by assumption) (by assumption)])))
            | exact retT hret _ _ (by k_asm) (by assumption) (by k_mem) (by kcj_all) (by first | ktn_lt | exact And.right (by assumption)) (congrArg (Value.int · _) (by rw [numP_2 (by assumption) (by assumption)])) (optV_none ((congrArg Prod.snd (numP_2 (by assumption) (by assumption))).trans (nVal_2 (by assumption))) 0)
            | exact retT hret _ _ (by k_asm) (by assumption) (by k_mem) (by kcj_all) (by first | ktn_lt | exact And.right (by assumption)) (congrArg (Value.int · _) (by rw [numP_1 (by assumption) (by assumption)])) (congrArg (optV · _) ((nVal_1 (by assumption)).trans (by rw [numP_1 (by assumption) (by assumption)])))
            | exact retT hret _ _ (by k_asm) (by assumption) (by k_mem) (by kcj_all) (by first | ktn_lt | exact And.right (by assumption)) (congrArg (Value.int · _) (by rw [numP_1 (by assumption) (by assumption)])) (optV_none ((congrArg Prod.snd (numP_1 (by assumption) (by assumption))).trans (nVal_2 (by assumption))) 0)
end Mine
end
section
open PySem PySem.W PySem.Calls PyProof.Rows
set_option maxRecDepth 100000
set_option maxHeartbeats 4000000
namespace Mine
theorem meta_Exception : typeOf (.type "Exception") = pure (.type "type") := by kernel_rfl

theorem init_con (w : World) (e t0 : Addr) (why : Str) (tw : Tok) :
  ∀ (mean : ExcName → Option Value) (mg mb : Str → Option Value) (dp un : Nat) (gd : Option (List Code)) (cn : Str) (cs : Scope) (a : Addr) (ccd : Value) (cl : List (Str × Addr)) (outer : List Env) (A₀ : Around) (base h₀ : Heap) (L : Addr) (m : Str → Option Value) (news : List (Addr × Obj)) (s : Shared) (Q E : Value → Shared → Prop),
    Below A₀ base outer h₀ → Fr h₀ L s.heap m → (hK w.params).In h₀ → News h₀ L s.heap ((e, ({ cls := .ref 44, data := .fields #[.ref t0, .none, .none, .none, .bool false, .none] } : Obj)) :: news) → (∀ p ∈ news, p.1 ≠ e) → Top hd.view_39 (looseW hd.view_39 []) mean mg mb h₀ → cs.kind = .function →
    dp + 2 < recursionLimit → un + 16 < cLine →
    (∀ t1 dx h' tk', Fr h₀ L h' m → News h₀ L h' ((e, ({ cls := .ref 44, dict := some dx, data := .fields #[.ref t1, .none, .none, .none, .bool false, .none] } : Obj)) :: (t1, ({ cls := .type "tuple", data := .seq #[.str why tw] } : Obj)) :: news) → t1 ≠ e → (∀ p ∈ news, p.1 < t1) → Q .none { s with heap := h', toks := tk' }) →
    wpAny (model PySem.Challenge.rw_pc0241_01.row.prog w) (ktrTop dp un gd cn cs L a ccd cl outer) (call (.ref 28) [.ref e, .str why tw]) Q E s := by
  intro mean mg mb dp un gd cn cs a ccd cl outer A₀ base h₀ L m news s Q E B F X N hne T hk hd hu hret
  k_with_none
  k_with "getMethod type:Exception" => first | ((k_here; refine' method_type ?Fq7 ?Xq7 ?mq7 (by decide +kernel) ?eq7 ?hq7 ?_; (case Fq7 => k_asm); (case Xq7 => k_asm); (case mq7 => exact meta_Exception); (case eq7 => k_dflt k_is); (case hq7 => k_handed))) | fail "next"
  k_with "call builtin:Exception.__init__" => first | ((k_here; k_dflt (refine' call_init ?Fq7 ?Xq7 ?Nq7 ?nq7 ?_; (case Fq7 => k_asm); (case Xq7 => k_asm); (case Nq7 => k_asm); (case nq7 => assumption); k_whole); intro tz hz Fz Nz nz mz; (try dsimp only))) | fail "next"
  k_with "setAttr ref" => first | ((k_here; k_dflt (refine' set_why ?Fq7 ?Xq7 ?Nq7 ?nq7 ?_; (case Fq7 => k_asm); (case Xq7 => k_asm); (case Nq7 => k_asm); (case nq7 => exact List.forall_mem_cons.mpr ⟨by assumption, by assumption⟩); k_whole); intro dz hz tkz Fz Nz; (try dsimp only))) | fail "next"
  refine wpAny_call ?_
  k_dflt ktr_enter
  k_steps
  exact hret _ _ _ _ (by k_asm) (by k_asm) (by assumption) (by assumption)

theorem neOf {t e : Addr} {o : Obj} {news : List (Addr × Obj)} (h1 : ∀ p ∈ news, p.1 < t) (h2 : t < e) : ∀ p ∈ (t, o) :: news, p.1 ≠ e := by
  intro p hp
  rcases List.mem_cons.mp hp with rfl | hp
  · exact Nat.ne_of_lt h2
  · exact Nat.ne_of_lt (Nat.lt_trans (h1 p hp) h2)
theorem weight_tc (rest : List Value) : (Code.builtin "type.__call__" ⟨.ref 44 :: rest, []⟩).weight = 1 := by rfl
theorem units_tc (rest : List Value) : (Code.builtin "type.__call__" ⟨.ref 44 :: rest, []⟩).cUnits = 1 := by rfl
theorem neBoth {t0 t1 e : Addr} {o : Obj} {news : List (Addr × Obj)} (h1 : ∀ p ∈ news, p.1 < t0) (h2 : t0 < e) (h3 : ∀ p ∈ (t0, o) :: news, p.1 < t1) : ∀ p ∈ (t0, o) :: news, p.1 ≠ e ∧ p.1 ≠ t1 := fun p hp => ⟨neOf h1 h2 p hp, Nat.ne_of_lt (h3 p hp)⟩
theorem numeric_none (w : World) (x : Str) (tx : Tok) (hx : x.length < 1000) (h : (numP x).2 = none) : ConT w 109 [.str x tx] 5 (fun t => .int (numP x).1 t) (fun _ => .none) := by
  have := numeric_con w x tx hx
  rw [h] at this
  exact this
theorem numeric_some (w : World) (x : Str) (tx : Tok) (n : Int) (hx : x.length < 1000) (h : (numP x).2 = some n) : ConT w 109 [.str x tx] 5 (fun t => .int (numP x).1 t) (fun t => .int n t) := by
  have := numeric_con w x tx hx
  rw [h] at this
  exact this
theorem retS {w : World} {mean : ExcName → Option Value} {mg mb : Str → Option Value} {outer : List Env} {A₀ : Around} {base g₀ : Heap} {L : Addr} {m : Str → Option Value} {news : List (Addr × Obj)} {s : Shared} {Q : Value → Shared → Prop} {v : Tok → Value}
    (hret : ∀ t h₀' h' tk', KtsTurn (outer.filterMap (·.frame)) g₀ h₀' → Fr h₀' L h' m → News h₀' L h' news → Below A₀ base outer h₀' → (hK w.params).In h₀' → Top hd.view_39 (looseW hd.view_39 []) mean mg mb h₀' → KtsDicts (outer.filterMap (·.frame)) h₀' → Q (v t) { s with heap := h', toks := tk' })
    {r : Value} {h₀' h' : Heap} {tk' : Nat} (t : Tok) (T0 : KtsTurn (outer.filterMap (·.frame)) g₀ h₀') (F : Fr h₀' L h' m) (N : News h₀' L h' news) (B : Below A₀ base outer h₀') (X : (hK w.params).In h₀') (T : Top hd.view_39 (looseW hd.view_39 []) mean mg mb h₀') (D : KtsDicts (outer.filterMap (·.frame)) h₀')
    (e : r = v t) : Q r { s with heap := h', toks := tk' } := by
  subst e
  exact hret t h₀' h' tk' T0 F N B X T D
theorem law_read_con (w : World) (x : Str) (tx : Tok) (hx : x.length < 1000) : ConS w 215 [.str x tx] 10 (fun t => optV (numP x).2 t) := by
  unfold ConS
  intro mean mg mb dp un gd cn cs a ccd outer A₀ base g₀ h₀ L m news s Q E B F X N T XB TB D T0 hk hd hu hret
  k_with_none
  k_with "getMethod type:Exception" => first | ((k_here; refine' method_type ?Fq7 ?Xq7 ?mq7 (by decide +kernel) ?eq7 ?hq7 ?_; (case Fq7 => k_asm); (case Xq7 => k_asm); (case mq7 => exact meta_Exception); (case eq7 => k_dflt k_is); (case hq7 => k_handed))) | fail "next"
  k_with "call builtin:Exception.__init__" => first | ((k_here; k_dflt (refine' call_init ?Fq7 ?Xq7 ?Nq7 ?nq7 ?_; (case Fq7 => k_asm); (case Xq7 => k_asm); (case Nq7 => k_asm); (case nq7 => assumption); k_whole); intro tz hz Fz Nz nz mz; (try dsimp only))) | fail "next"
  k_with "setAttr ref" => first | ((k_here; k_dflt (refine' set_why ?Fq7 ?Xq7 ?Nq7 ?nq7 ?_; (case Fq7 => k_asm); (case Xq7 => k_asm); (case Nq7 => k_asm); (case nq7 => exact List.forall_mem_cons.mpr ⟨by assumption, by assumption⟩); k_whole); intro dz hz tkz Fz Nz; (try dsimp only))) | fail "next"
  k_with "call ref" => first | ((k_here; k_dflt (refine' useT (numeric_none _ _ _ ?c0q7 ?c1q7) ?k1q7 ?k2q7 ?k3q7 ?k4q7 ?k5q7 ?kKq7 ?kdq7 ?kuq7 ?_; (case k1q7 => k_asm); (case k2q7 => k_asm); (case k3q7 => k_asm); (case k4q7 => k_asm); (case k5q7 => k_asm); (case kKq7 => first | exact rfl | assumption); (case kdq7 => first | exact room1 (by with_reducible assumption) (by exact rfl) (by exact rfl) | ktr_room); (case kuq7 => first | exact units3 (by with_reducible assumption) (by exact rfl) (by exact rfl) | ktr_units); (case c0q7 => first | with_reducible assumption | omega); (case c1q7 => assumption); k_whole; (intro Dz tz uz hz tkz Fz Nz lz; (try dsimp only at Nz); (try dsimp only at Nz); (try dsimp only); (try k_fold))))) | fail "next"
  k_with "call ref" => first | ((k_here; k_dflt (refine' useT (numeric_some _ _ _ _ ?c0q7 ?c1q7) ?k1q7 ?k2q7 ?k3q7 ?k4q7 ?k5q7 ?kKq7 ?kdq7 ?kuq7 ?_; (case k1q7 => k_asm); (case k2q7 => k_asm); (case k3q7 => k_asm); (case k4q7 => k_asm); (case k5q7 => k_asm); (case kKq7 => first | exact rfl | assumption); (case kdq7 => first | exact room1 (by with_reducible assumption) (by exact rfl) (by exact rfl) | ktr_room); (case kuq7 => first | exact units3 (by with_reducible assumption) (by exact rfl) (by exact rfl) | ktr_units); (case c0q7 => first | with_reducible assumption | omega); (case c1q7 => assumption); k_whole; (intro Dz tz uz hz tkz Fz Nz lz; (try dsimp only at Nz); (try dsimp only at Nz); (try dsimp only); (try k_fold))))) | fail "next"
  k_with "call ref" => first | ((k_here; (show wpAny _ _ (call (Value.ref 123) _) _ _ _); k_dflt (refine wpAny_call ?_; (refine' code_def ?k1q7 ?k2q7 ?k3q7 ?k4q7 ?k5q7 ?kAq7 ?kFq7 ?kKq7 ?k6q7 ?k7q7 ?k8q7 ?kzq7 ?kBq7 ?_ ?c2q7 ?c3q7 ?c4q7 ?c5q7; (case kAq7 => exact rfl); (case kFq7 => exact rfl); (case kKq7 => first | exact rfl | assumption); (case k1q7 => k_asm); (case k2q7 => k_asm); (case k3q7 => k_asm); (case k4q7 => k_asm); (case k5q7 => k_asm); (case k6q7 => k_is); (case k7q7 => k_is); (case k8q7 => ktr_room); (case kzq7 => exact BindsTo.of_eq rfl); (case c5q7 => decide); (case kBq7 => exact locs rfl); (case c2q7 => exact rfl); (case c3q7 => exact rfl); (case c4q7 => exact rfl); k_whole; intro g' L' h' FG' F' N' B' X' T'; (try dsimp only); (try k_fold))))) | fail "next"
  k_with "call ref" => first | ((k_here; (show wpAny _ _ (call (Value.ref 44) _) _ _ _); k_dflt (refine' call_leftout ?Fq7 ?Xq7 ?Nq7 ?_ ?hrq7; (case Fq7 => k_asm); (case Xq7 => k_asm); (case Nq7 => k_asm); (case hrq7 => exact Nat.le_trans (Nat.le_refl 1) (by rw [sizeLine_eq]; decide))); intro ez tz hz Fz Nz az bz cz dz; (try dsimp only))) | fail "next"
  k_with "call ref" => first | ((k_here; (show wpAny _ _ (call (Value.ref 28) _) _ _ _); k_dflt (refine' init_con _ _ _ _ _ _ _ _ _ _ _ _ _ _ _ _ _ _ _ _ _ _ _ _ _ _ ?k1q7 ?k2q7 ?k3q7 ?k4q7 ?knq7 ?k5q7 ?kKq7 ?kdq7 ?kuq7 ?_; (case k1q7 => k_asm); (case k2q7 => k_asm); (case k3q7 => k_asm); (case k4q7 => k_asm); (case k5q7 => k_asm); (case knq7 => exact neOf (by assumption) (by assumption)); (case kKq7 => first | exact rfl | assumption); (case kdq7 => (rw [weight_tc]; ktr_room)); (case kuq7 => (rw [units_tc]; ktr_units))); intro tz dz hz tkz Fz Nz nz mz; (try dsimp only))) | fail "next"
  k_with "exec Raise some none" => first | ((k_here; k_dflt (refine' exec_raise ?hq7 ?Xq7 ?_; (case hq7 => first | rfl | assumption); (case Xq7 => k_asm); k_whole); (try k_fold))) | fail "next"
  k_with "RaiseMade" => first | ((refine' raiseMade ?Fq7 ?Xq7 ?Nq7 ?_; (case Fq7 => k_asm); (case Xq7 => k_asm); (case Nq7 => k_asm))) | fail "next"
  k_with "leaving ref" => first | ((k_here; k_dflt (refine' leave_raiseD ?Kq7 ?Fq7 ?Nq7 ?nq7 ?_; (case Kq7 => assumption); (case Fq7 => k_asm); (case Nq7 => k_asm); (case nq7 => exact neBoth (by assumption) (by assumption) (by assumption))); intro h' R' RK' U'; (try dsimp only at R' U' ⊢))) | fail "next"
  cases hv : (numP x).2
  · refine wpAny_call ?_
    k_dflt (refine' code_defS B F X N T XB TB D T0 ?kA ?k6 ?k7 ?k8 ?k9 ?kB ?_ hk ?c2 ?c3 ?c4 ?c5; (case kA => exact rfl); (case k6 => k_is); (case k7 => k_is); (case k8 => ktr_room); (case k9 => exact BindsTo.of_eq rfl); (case kB => exact locs rfl); (case c2 => exact rfl); (case c3 => exact rfl); (case c4 => exact rfl); (case c5 => decide); k_whole; intro g' L' h' FG' F' N' B' X' T' D'; (try dsimp only); (try k_lift B'); (try k_fold))
    k_steps
    exact retS hret _ (by assumption) (by k_asm) (by first | k_asm | (refine' cb_drop ?cbN ?cbS; (case cbN => assumption); (case cbS => kcj_all))) (by assumption) (by assumption) (by assumption) (by assumption) (optV_none hv 0)
  · refine wpAny_call ?_
    k_dflt (refine' code_defS B F X N T XB TB D T0 ?kA ?k6 ?k7 ?k8 ?k9 ?kB ?_ hk ?c2 ?c3 ?c4 ?c5; (case kA => exact rfl); (case k6 => k_is); (case k7 => k_is); (case k8 => ktr_room); (case k9 => exact BindsTo.of_eq rfl); (case kB => exact locs rfl); (case c2 => exact rfl); (case c3 => exact rfl); (case c4 => exact rfl); (case c5 => decide); k_whole; intro g' L' h' FG' F' N' B' X' T' D'; (try dsimp only); (try k_lift B'); (try k_fold))
    k_steps
    exact retS hret _ (by assumption) (by k_asm) (by first | k_asm | (refine' cb_drop ?cbN ?cbS; (case cbN => assumption); (case cbS => kcj_all))) (by assumption) (by assumption) (by assumption) (by assumption) (optV_some hv)
end Mine
end
section
open PySem PySem.W PySem.Calls PyProof.Rows PySem.Builtin.Str
set_option maxRecDepth 100000
namespace Mine
noncomputable def ofL (l : List Nat) : Str := ⟨l.toArray⟩
theorem co_ofL (l : List Nat) : co (ofL l) = l := by simp [co, ofL]
theorem ofL_co (x : Str) : ofL (co x) = x := str_ext (co_ofL _)
theorem ofL_len (l : List Nat) : (ofL l).length = l.length := by rw [← co_len, co_ofL]
theorem eq_ofL {x : Str} {l : List Nat} (h : co x = l) : x = ofL l := by rw [← h, ofL_co]

noncomputable def withinF (n : Int) : Option Int := if -9223372036854775808 ≤ n ∧ n < 9223372036854775808 then some n else none
theorem wi_some {n : Int} (h1 : -2 ^ Int.toNat 63 ≤ n) (h2 : n < 2 ^ Int.toNat 63) : withinF n = some n := by
  rw [two63] at h1 h2; unfold withinF; rw [if_pos ⟨by omega, h2⟩]
theorem wi_none1 {n : Int} (h2 : ¬ n < 2 ^ Int.toNat 63) : withinF n = none := by
  rw [two63] at h2; unfold withinF; rw [if_neg (fun h => h2 h.2)]
theorem wi_none2 {n : Int} (h1 : ¬ -2 ^ Int.toNat 63 ≤ n) : withinF n = none := by
  rw [two63] at h1; unfold withinF; rw [if_neg (fun h => h1 (by omega))]
theorem signed_within (b : Bool) (v : Int) : signedF b v = withinF (if b then -v else v) := by
  unfold signedF withinF
  generalize (if b = true then -v else v) = n
  split <;> split <;> first | rfl | omega

noncomputable def unsg : List Nat → List Nat
  | c :: r => if sgn c then r else c :: r
  | [] => []
theorem unsg_cons (c : Nat) (r : List Nat) : unsg (c :: r) = if sgn c = true then r else c :: r := rfl
theorem unsg_len (l : List Nat) : (unsg l).length ≤ l.length := by
  cases l with
  | nil => exact Nat.le_refl _
  | cons c r => rw [unsg_cons]; split <;> simp
theorem co_slice1 (x : Str) : co (Txt.slice x none (some 1)) = (co x).take 1 := co_slice_ns x (by decide)
theorem slice0_is (x : Str) (c : Nat) {y : Str} (hy : y = ⟨#[c]⟩) : (y == Txt.slice x none (some 1)) = atIs (· == c) x 0 := by
  have e : Txt.slice x none (some 1) = Txt.slice x (some 0) (some (0 + 1)) := str_ext (by rw [co_slice1, co_slice_ss x (by decide) (by decide)]; rfl)
  rw [e]; exact slice1_is x (by decide) c hy
theorem inSgn0 (x : Str) : ([Str.ofString "+", Str.ofString "-"].any fun y => y == Txt.slice x none (some 1)) = atIs sgn x 0 := by
  simp only [List.any_cons, List.any_nil, Bool.or_false, slice0_is x 43 (y := Str.ofString "+") (by decide +kernel), slice0_is x 45 (y := Str.ofString "-") (by decide +kernel)]
  exact (atIs_or _ _ x 0).symm
theorem minus0 (x : Str) : (Txt.slice x none (some 1) == Str.ofString "-") = atIs (· == 45) x 0 := by
  rw [Bool.beq_comm]; exact slice0_is x 45 (by decide +kernel)
theorem atIs0 (p : Nat → Bool) (x : Str) : atIs p x 0 = (match co x with | c :: _ => p c | [] => false) := by
  unfold atIs
  cases co x with
  | nil => rfl
  | cons c r => rfl
theorem unsg_1 {x : Str} (h : ([Str.ofString "+", Str.ofString "-"].any fun y => y == Txt.slice x none (some 1)) = true) : Txt.slice x (some 1) none = ofL (unsg (co x)) := by
  rw [inSgn0, atIs0] at h
  refine eq_ofL ?_
  rw [co_slice_sn x (by decide)]
  cases e : co x with
  | nil => rw [e] at h; cases h
  | cons c r => rw [e] at h; simp only at h; rw [unsg_cons, if_pos h]; rfl
theorem unsg_2 {x : Str} (h : ([Str.ofString "+", Str.ofString "-"].any fun y => y == Txt.slice x none (some 1)) = false) : x = ofL (unsg (co x)) := by
  rw [inSgn0, atIs0] at h
  refine eq_ofL ?_
  cases e : co x with
  | nil => rfl
  | cons c r => rw [e] at h; simp only at h; rw [unsg_cons, h]; rfl
/-! key_number's reading -/
noncomputable def kS (x : Str) : Int := if atIs (· == 45) x 0 then 1 else 0
noncomputable def keyP (x : Str) : Option Int :=
  if atIs dig x (kS x) = false ∨ pEnd dig x (kS x) ≠ x.length then none
  else if atIs (· == 48) x (kS x) = true ∧ (atIs (· == 45) x 0 = true ∨ 1 < x.length) then none
  else signedF (atIs (· == 45) x 0) (sat (dv (seg x (kS x) x.length)))
section
variable {x : Str}
theorem kS_1 (h : (Txt.slice x none (some 1) == Str.ofString "-") = true) : kS x = 1 := by rw [minus0] at h; unfold kS; rw [if_pos h]
theorem kS_0 (h : (Txt.slice x none (some 1) == Str.ofString "-") = false) : kS x = 0 := by rw [minus0] at h; unfold kS; rw [h]; rfl
theorem ky_nd {k : Int} (e : kS x = k) (h : atIs dig x k = false) : keyP x = none := by
  unfold keyP; rw [e, if_pos (Or.inl h)]
theorem ky_ne {k : Int} (e : kS x = k) (h : pEnd dig x k ≠ x.length) : keyP x = none := by
  unfold keyP; rw [e, if_pos (Or.inr h)]
theorem zero_is {k : Int} (h0 : 0 ≤ k) (h1 : k < x.length) : (Txt.item x k == Str.ofString "0") = atIs (· == 48) x k := by
  rw [Bool.beq_comm]; exact item_is x h0 h1 48 (by decide +kernel)
theorem ky_z {k : Int} (e : kS x = k) (h0 : 0 ≤ k) (h1 : k < x.length) (hd : atIs dig x k = true) (he : pEnd dig x k = x.length) (hz : (Txt.item x k == Str.ofString "0") = true)
    (hm : (Txt.slice x none (some 1) == Str.ofString "-") = true ∨ 1 < (x.length : Int)) : keyP x = none := by
  rw [zero_is h0 h1] at hz; rw [minus0] at hm
  unfold keyP; rw [e, if_neg (by rw [hd]; exact fun h => h.elim (fun h => by cases h) (fun h => h he)), if_pos ⟨hz, hm.imp id (fun h => by omega)⟩]
theorem ky_v {k : Int} (e : kS x = k) (h0 : 0 ≤ k) (h1 : k < x.length) (hd : atIs dig x k = true) (he : pEnd dig x k = x.length)
    (hz : (Txt.item x k == Str.ofString "0") = false ∨ ((Txt.slice x none (some 1) == Str.ofString "-") = false ∧ ¬ 1 < (x.length : Int))) :
    optV (signedF (Txt.slice x none (some 1) == Str.ofString "-") (sat (dv (seg x k x.length)))) = optV (keyP x) := by
  rw [zero_is h0 h1] at hz; rw [minus0] at hz ⊢
  unfold keyP; rw [e, if_neg (by rw [hd]; exact fun h => h.elim (fun h => by cases h) (fun h => h he)), if_neg]
  rintro ⟨h2, h3⟩
  rcases hz with hz | ⟨h4, h5⟩
  · rw [h2] at hz; cases hz
  · rcases h3 with h3 | h3
    · rw [h3] at h4; cases h4
    · omega
end
end Mine
end
section
open PySem PySem.W PySem.Calls PyProof.Rows
set_option maxRecDepth 100000
set_option maxHeartbeats 4000000
namespace Mine
theorem law_within_con (w : World) (n : Int) (tn : Tok) :
   ConP w 196 [.int n tn] 1 (fun t => optV (withinF n) t) True := by
  unfold ConP
  intro mean mg mb dp un gd cn cs a ccd cl outer A₀ base h₀ L m news s Q E B F X N T hk hd hu hret
  k_with_none
  k_with "call ref" => first | ((k_here; k_dflt (refine' useP (is_digit_con _ _ _ _ _ ?c0q7 ?c1q7) ?k1q7 ?k2q7 ?k3q7 ?k4q7 ?k5q7 ?kKq7 ?kdq7 ?kuq7 ?_; (case k1q7 => k_asm); (case k2q7 => k_asm); (case k3q7 => k_asm); (case k4q7 => k_asm); (case k5q7 => k_asm); (case kKq7 => first | exact rfl | assumption); (case kdq7 => first | exact room1 (by with_reducible assumption) (by exact rfl) (by exact rfl) | ktr_room); (case kuq7 => first | exact units3 (by with_reducible assumption) (by exact rfl) (by exact rfl) | ktr_units); (case c0q7 => first | with_reducible assumption | omega); (case c1q7 => first | with_reducible assumption | omega); k_whole; (intro tz hz tkz gz Fz Nz; (try dsimp only); (try k_fold))))) | fail "next"
  k_with "call ref" => first | ((k_here; k_dflt (refine' useP (digits_behind_con _ _ _ _ _ ?c0q7 ?c1q7) ?k1q7 ?k2q7 ?k3q7 ?k4q7 ?k5q7 ?kKq7 ?kdq7 ?kuq7 ?_; (case k1q7 => k_asm); (case k2q7 => k_asm); (case k3q7 => k_asm); (case k4q7 => k_asm); (case k5q7 => k_asm); (case kKq7 => first | exact rfl | assumption); (case kdq7 => first | exact room1 (by with_reducible assumption) (by exact rfl) (by exact rfl) | ktr_room); (case kuq7 => first | exact units3 (by with_reducible assumption) (by exact rfl) (by exact rfl) | ktr_units); (case c0q7 => first | with_reducible assumption | omega); (case c1q7 => first | with_reducible assumption | omega); k_whole; (intro tz hz tkz gz Fz Nz; (try dsimp only); (try k_fold))))) | fail "next"
  k_with "call ref" => first | ((k_here; k_dflt (refine' useP (signed_con _ _ _ _ ) ?k1q7 ?k2q7 ?k3q7 ?k4q7 ?k5q7 ?kKq7 ?kdq7 ?kuq7 ?_; (case k1q7 => k_asm); (case k2q7 => k_asm); (case k3q7 => k_asm); (case k4q7 => k_asm); (case k5q7 => k_asm); (case kKq7 => first | exact rfl | assumption); (case kdq7 => first | exact room1 (by with_reducible assumption) (by exact rfl) (by exact rfl) | ktr_room); (case kuq7 => first | exact units3 (by with_reducible assumption) (by exact rfl) (by exact rfl) | ktr_units); k_whole; (intro tz hz tkz gz Fz Nz; (try dsimp only); (try k_fold))))) | fail "next"
  k_with "call ref" => first | ((k_here; k_dflt (refine' useP (digits_value_con _ _ _ _ _ _ _ ?c0q7 ?c1q7 ?c2q7 ?c3q7 ?c4q7) ?k1q7 ?k2q7 ?k3q7 ?k4q7 ?k5q7 ?kKq7 ?kdq7 ?kuq7 ?_; (case k1q7 => k_asm); (case k2q7 => k_asm); (case k3q7 => k_asm); (case k4q7 => k_asm); (case k5q7 => k_asm); (case kKq7 => first | exact rfl | assumption); (case kdq7 => first | exact room1 (by with_reducible assumption) (by exact rfl) (by exact rfl) | ktr_room); (case kuq7 => first | exact units3 (by with_reducible assumption) (by exact rfl) (by exact rfl) | ktr_units); (case c0q7 => first | with_reducible assumption | omega); (case c1q7 => first | with_reducible assumption | omega); (case c2q7 => first | with_reducible assumption | omega); (case c3q7 => first | with_reducible assumption | omega); (case c4q7 => first | exact dig_of_pEnd (by omega) | exact fun i a b => dig_of_pEnd (by omega) i a (by omega)); k_whole; (intro tz hz tkz gz Fz Nz; (try dsimp only); (try k_fold))))) | fail "next"
  refine wpAny_call ?_
  k_dflt ktr_enter
  (rename Fr _ _ _ _ => F0); have F1 := lkF F0 (l' := [(Str.ofString "n", Value.int n tn)]) (by kernel_rfl); clear F0
  k_steps
  · exact retP hret _ (by k_asm) (by k_asm) (optV_some (wi_some (by assumption) (by assumption))) trivial
  · exact retP hret 0 (by k_asm) (by k_asm) (optV_none (wi_none1 (by assumption)) 0) trivial
  · exact retP hret 0 (by k_asm) (by k_asm) (optV_none (wi_none2 (by assumption)) 0) trivial
theorem law_unsigned_con (w : World) (x : Str) (tx : Tok) (hx : x.length < 1000) :
   ConP w 168 [.str x tx] 1 (fun t => .str (ofL (unsg (co x))) t) True := by
  unfold ConP
  intro mean mg mb dp un gd cn cs a ccd cl outer A₀ base h₀ L m news s Q E B F X N T hk hd hu hret
  k_with_none
  k_with "call ref" => first | ((k_here; k_dflt (refine' useP (is_digit_con _ _ _ _ _ ?c0q7 ?c1q7) ?k1q7 ?k2q7 ?k3q7 ?k4q7 ?k5q7 ?kKq7 ?kdq7 ?kuq7 ?_; (case k1q7 => k_asm); (case k2q7 => k_asm); (case k3q7 => k_asm); (case k4q7 => k_asm); (case k5q7 => k_asm); (case kKq7 => first | exact rfl | assumption); (case kdq7 => first | exact room1 (by with_reducible assumption) (by exact rfl) (by exact rfl) | ktr_room); (case kuq7 => first | exact units3 (by with_reducible assumption) (by exact rfl) (by exact rfl) | ktr_units); (case c0q7 => first | with_reducible assumption | omega); (case c1q7 => first | with_reducible assumption | omega); k_whole; (intro tz hz tkz gz Fz Nz; (try dsimp only); (try k_fold))))) | fail "next"
  k_with "call ref" => first | ((k_here; k_dflt (refine' useP (digits_behind_con _ _ _ _ _ ?c0q7 ?c1q7) ?k1q7 ?k2q7 ?k3q7 ?k4q7 ?k5q7 ?kKq7 ?kdq7 ?kuq7 ?_; (case k1q7 => k_asm); (case k2q7 => k_asm); (case k3q7 => k_asm); (case k4q7 => k_asm); (case k5q7 => k_asm); (case kKq7 => first | exact rfl | assumption); (case kdq7 => first | exact room1 (by with_reducible assumption) (by exact rfl) (by exact rfl) | ktr_room); (case kuq7 => first | exact units3 (by with_reducible assumption) (by exact rfl) (by exact rfl) | ktr_units); (case c0q7 => first | with_reducible assumption | omega); (case c1q7 => first | with_reducible assumption | omega); k_whole; (intro tz hz tkz gz Fz Nz; (try dsimp only); (try k_fold))))) | fail "next"
  k_with "call ref" => first | ((k_here; k_dflt (refine' useP (signed_con _ _ _ _ ) ?k1q7 ?k2q7 ?k3q7 ?k4q7 ?k5q7 ?kKq7 ?kdq7 ?kuq7 ?_; (case k1q7 => k_asm); (case k2q7 => k_asm); (case k3q7 => k_asm); (case k4q7 => k_asm); (case k5q7 => k_asm); (case kKq7 => first | exact rfl | assumption); (case kdq7 => first | exact room1 (by with_reducible assumption) (by exact rfl) (by exact rfl) | ktr_room); (case kuq7 => first | exact units3 (by with_reducible assumption) (by exact rfl) (by exact rfl) | ktr_units); k_whole; (intro tz hz tkz gz Fz Nz; (try dsimp only); (try k_fold))))) | fail "next"
  k_with "call ref" => first | ((k_here; k_dflt (refine' useP (digits_value_con _ _ _ _ _ _ _ ?c0q7 ?c1q7 ?c2q7 ?c3q7 ?c4q7) ?k1q7 ?k2q7 ?k3q7 ?k4q7 ?k5q7 ?kKq7 ?kdq7 ?kuq7 ?_; (case k1q7 => k_asm); (case k2q7 => k_asm); (case k3q7 => k_asm); (case k4q7 => k_asm); (case k5q7 => k_asm); (case kKq7 => first | exact rfl | assumption); (case kdq7 => first | exact room1 (by with_reducible assumption) (by exact rfl) (by exact rfl) | ktr_room); (case kuq7 => first | exact units3 (by with_reducible assumption) (by exact rfl) (by exact rfl) | ktr_units); (case c0q7 => first | with_reducible assumption | omega); (case c1q7 => first | with_reducible assumption | omega); (case c2q7 => first | with_reducible assumption | omega); (case c3q7 => first | with_reducible assumption | omega); (case c4q7 => first | exact dig_of_pEnd (by omega) | exact fun i a b => dig_of_pEnd (by omega) i a (by omega)); k_whole; (intro tz hz tkz gz Fz Nz; (try dsimp only); (try k_fold))))) | fail "next"
  refine wpAny_call ?_
  k_dflt ktr_enter
  (rename Fr _ _ _ _ => F0); have F1 := lkF F0 (l' := [(Str.ofString "text", Value.str x tx)]) (by kernel_rfl); clear F0
  k_steps
  · exact retP hret _ (by k_asm) (by first | k_asm | (refine' cb_drop ?cbN ?cbS; (case cbN => assumption); (case cbS => kcj_all))) (congrArg (Value.str · _) (unsg_1 (by assumption))) trivial
  · exact retP hret _ (by k_asm) (by first | k_asm | (refine' cb_drop ?cbN ?cbS; (case cbN => assumption); (case cbS => kcj_all))) (congrArg (Value.str · _) (unsg_2 (by assumption))) trivial
theorem key_number_con (w : World) (x : Str) (tx : Tok) (hx : x.length < 1000) :
   ConP w 116 [.str x tx] 4 (fun t => optV (keyP x) t) True := by
  unfold ConP
  intro mean mg mb dp un gd cn cs a ccd cl outer A₀ base h₀ L m news s Q E B F X N T hk hd hu hret
  k_with_none
  k_with "call ref" => first | ((k_here; k_dflt (refine' useP (is_digit_con _ _ _ _ _ ?c0q7 ?c1q7) ?k1q7 ?k2q7 ?k3q7 ?k4q7 ?k5q7 ?kKq7 ?kdq7 ?kuq7 ?_; (case k1q7 => k_asm); (case k2q7 => k_asm); (case k3q7 => k_asm); (case k4q7 => k_asm); (case k5q7 => k_asm); (case kKq7 => first | exact rfl | assumption); (case kdq7 => first | exact room1 (by with_reducible assumption) (by exact rfl) (by exact rfl) | ktr_room); (case kuq7 => first | exact units3 (by with_reducible assumption) (by exact rfl) (by exact rfl) | ktr_units); (case c0q7 => first | with_reducible assumption | omega); (case c1q7 => first | with_reducible assumption | omega); k_whole; (intro tz hz tkz gz Fz Nz; (try dsimp only); (try k_fold))))) | fail "next"
  k_with "call ref" => first | ((k_here; k_dflt (refine' useP (digits_behind_con _ _ _ _ _ ?c0q7 ?c1q7) ?k1q7 ?k2q7 ?k3q7 ?k4q7 ?k5q7 ?kKq7 ?kdq7 ?kuq7 ?_; (case k1q7 => k_asm); (case k2q7 => k_asm); (case k3q7 => k_asm); (case k4q7 => k_asm); (case k5q7 => k_asm); (case kKq7 => first | exact rfl | assumption); (case kdq7 => first | exact room1 (by with_reducible assumption) (by exact rfl) (by exact rfl) | ktr_room); (case kuq7 => first | exact units3 (by with_reducible assumption) (by exact rfl) (by exact rfl) | ktr_units); (case c0q7 => first | with_reducible assumption | omega); (case c1q7 => first | with_reducible assumption | omega); k_whole; (intro tz hz tkz gz Fz Nz; (try dsimp only); (try k_fold))))) | fail "next"
  k_with "call ref" => first | ((k_here; k_dflt (refine' useP (signed_con _ _ _ _ ) ?k1q7 ?k2q7 ?k3q7 ?k4q7 ?k5q7 ?kKq7 ?kdq7 ?kuq7 ?_; (case k1q7 => k_asm); (case k2q7 => k_asm); (case k3q7 => k_asm); (case k4q7 => k_asm); (case k5q7 => k_asm); (case kKq7 => first | exact rfl | assumption); (case kdq7 => first | exact room1 (by with_reducible assumption) (by exact rfl) (by exact rfl) | ktr_room); (case kuq7 => first | exact units3 (by with_reducible assumption) (by exact rfl) (by exact rfl) | ktr_units); k_whole; (intro tz hz tkz gz Fz Nz; (try dsimp only); (try k_fold))))) | fail "next"
  k_with "call ref" => first | ((k_here; k_dflt (refine' useP (digits_value_con _ _ _ _ _ _ _ ?c0q7 ?c1q7 ?c2q7 ?c3q7 ?c4q7) ?k1q7 ?k2q7 ?k3q7 ?k4q7 ?k5q7 ?kKq7 ?kdq7 ?kuq7 ?_; (case k1q7 => k_asm); (case k2q7 => k_asm); (case k3q7 => k_asm); (case k4q7 => k_asm); (case k5q7 => k_asm); (case kKq7 => first | exact rfl | assumption); (case kdq7 => first | exact room1 (by with_reducible assumption) (by exact rfl) (by exact rfl) | ktr_room); (case kuq7 => first | exact units3 (by with_reducible assumption) (by exact rfl) (by exact rfl) | ktr_units); (case c0q7 => first | with_reducible assumption | omega); (case c1q7 => first | with_reducible assumption | omega); (case c2q7 => first | with_reducible assumption | omega); (case c3q7 => first | with_reducible assumption | omega); (case c4q7 => first | exact dig_of_pEnd (by omega) | exact fun i a b => dig_of_pEnd (by omega) i a (by omega)); k_whole; (intro tz hz tkz gz Fz Nz; (try dsimp only); (try k_fold))))) | fail "next"
  refine wpAny_call ?_
  k_dflt ktr_enter
  (rename Fr _ _ _ _ => F0); have F1 := lkF F0 (l' := [(Str.ofString "text", Value.str x tx)]) (by kernel_rfl); clear F0
  k_steps
  all_goals first
    | (exfalso; first | ((have h8 := atIs_lt (x := x) (p := dig) (k := 1) (by decide) (by assumption)); omega) | ((have h8 := atIs_lt (x := x) (p := dig) (k := 0) (by decide) (by assumption)); omega))
    | (have e : keyP x = none := by (first
        | exact ky_nd (kS_1 (by assumption)) (by assumption)
        | exact ky_nd (kS_0 (by assumption)) (by assumption)
        | exact ky_ne (kS_1 (by assumption)) (by assumption)
        | exact ky_ne (kS_0 (by assumption)) (by assumption)
        | exact ky_z (kS_1 (by assumption)) (by decide) (by assumption) (by assumption) (by assumption) (by assumption) (by first | exact Or.inl (by assumption) | exact Or.inr (by assumption))
        | exact ky_z (kS_0 (by assumption)) (by decide) (by assumption) (by assumption) (by assumption) (by assumption) (by first | exact Or.inl (by assumption) | exact Or.inr (by assumption)))
       exact retP hret 0 (by k_asm) (by first | k_asm | (refine' cb_drop ?cbN ?cbS; (case cbN => assumption); (case cbS => kcj_all))) (optV_none e 0) trivial)
    | (have e := ky_v (kS_1 (by assumption)) (by decide) (by assumption) (by assumption) (by assumption) (by first | exact Or.inl (by assumption) | exact Or.inr ⟨by assumption, by assumption⟩)
       exact retP hret _ (by k_asm) (by first | k_asm | (refine' cb_drop ?cbN ?cbS; (case cbN => assumption); (case cbS => kcj_all))) (congrFun e _) trivial)
    | (have e := ky_v (kS_0 (by assumption)) (by decide) (by assumption) (by assumption) (by assumption) (by first | exact Or.inl (by assumption) | exact Or.inr ⟨by assumption, by assumption⟩)
       exact retP hret _ (by k_asm) (by first | k_asm | (refine' cb_drop ?cbN ?cbS; (case cbN => assumption); (case cbS => kcj_all))) (congrFun e _) trivial)
end Mine
end
section
open PySem PySem.W PySem.Calls PyProof.Rows PySem.Builtin.Str PySem.StrLaws
set_option maxRecDepth 100000
namespace Mine
theorem eq_list_nil {prog : Program} {w : World} {A : Around} {E : Value → Shared → Prop} {s : Shared} {a b : Addr} {xs : List Value} {zs : List PyData} {Q : Value → Shared → Prop}
    (ha : s.heap.IsList a xs.toArray) (hb : s.heap.IsList b ([] : List Value).toArray) (hi : CarriedAll xs zs) (hu : A.units + 64 < cLine) (h : Q (.bool zs.isEmpty) s) :
    wpAny (model prog w) A (compareOp .Eq (.ref a) (.ref b)) Q E s := by
  cases hi with
  | nil => exact eq_dataH (reads_newData (ds := []) ha .nil) (reads_newData (ds := []) hb .nil) (by rfl) (by rfl) hu (by simpa [PyData.eqv, PyData.eqvAll] using h)
  | cons _ _ => exact EqBoolInt.of_rc (SeqAt.RcAt.lists_lengths ha hb (by simp) (by lia)) (by simpa using h)
theorem eq_strs_nil {prog : Program} {w : World} {A : Around} {E : Value → Shared → Prop} {s : Shared} {a b : Addr} {xs : List Value} {zs : List Str} {Q : Value → Shared → Prop}
    (ha : s.heap.IsList a xs.toArray) (hb : s.heap.IsList b ([] : List Value).toArray) (hi : CarriedAll xs (zs.map PyData.str)) (hu : A.units + 64 < cLine) (h : Q (.bool zs.isEmpty) s) :
    wpAny (model prog w) A (compareOp .Eq (.ref a) (.ref b)) Q E s :=
  eq_list_nil ha hb hi hu (by cases zs <;> exact h)
theorem filt_empty (hay : Str) (p : Nat → Bool) (hp : ∀ c, decide (c ∈ hay.cps.toList) = p c) (x : Str) :
    ((signs x).filter (fun a => !!(occurrences hay a 0 hay.length 1).isEmpty)).isEmpty = (co x).all p := by
  unfold signs co
  induction x.cps.toList with
  | nil => rfl
  | cons c r ih =>
    rw [List.map_cons, List.filter_cons, List.all_cons, ← ih]
    have e := found_one hay c
    rw [hp] at e
    cases hb : p c with
    | true =>
      rw [hb] at e
      rw [e]; simp
    | false =>
      rw [hb] at e
      rw [e]; simp
theorem hayBlk (c : Nat) : decide (c ∈ (Str.ofString " \t\n\r\x0b\x0c").cps.toList) = blk c := by
  have e : (Str.ofString " \t\n\r\x0b\x0c").cps.toList = [32, 9, 10, 13, 11, 12] := by decide +kernel
  rw [e, Bool.eq_iff_iff]
  unfold blk
  simp only [decide_eq_true_eq, List.mem_cons, List.not_mem_nil, or_false, Bool.or_eq_true, beq_iff_eq, or_assoc]
theorem hayDig (c : Nat) : decide (c ∈ (Str.ofString "0123456789").cps.toList) = dig c := by
  have e : (Str.ofString "0123456789").cps.toList = [48, 49, 50, 51, 52, 53, 54, 55, 56, 57] := by decide +kernel
  rw [e]
  by_cases h : c < 64
  · exact (by decide +kernel : ∀ c, c < 64 → decide (c ∈ [48, 49, 50, 51, 52, 53, 54, 55, 56, 57]) = dig c) c h
  · have h1 : c ∉ [48, 49, 50, 51, 52, 53, 54, 55, 56, 57] := fun hm => h ((by decide : ∀ d ∈ [48, 49, 50, 51, 52, 53, 54, 55, 56, 57], d < 64) c hm)
    rw [decide_eq_false h1]
    unfold dig
    rw [decide_eq_false (fun q : c ≤ 57 => h (Nat.lt_of_le_of_lt q (by decide))), Bool.and_false]
noncomputable def digs (l : List Nat) : Bool := !l.isEmpty && l.all dig
theorem ne_empty (x : Str) : (x != Str.ofString "") = !(co x).isEmpty := by
  rw [bne]
  congr 1
  rw [Bool.eq_iff_iff, beq_iff_eq, List.isEmpty_iff]
  constructor
  · rintro rfl; decide +kernel
  · intro h; exact str_ext (h.trans (by decide +kernel))
theorem digs_1 {x : Str} : ((signs x).filter (fun a => !!(occurrences (Str.ofString "0123456789") a 0 (Str.ofString "0123456789").length 1).isEmpty)).isEmpty = (co x).all dig := filt_empty _ _ hayDig x
theorem blks_1 {x : Str} : ((signs x).filter (fun a => !!(occurrences (Str.ofString " \t\n\r\x0b\x0c") a 0 (Str.ofString " \t\n\r\x0b\x0c").length 1).isEmpty)).isEmpty = (co x).all blk := filt_empty _ _ hayBlk x
theorem digs_t {x : Str} (h : (x != Str.ofString "") = true) : ((signs x).filter (fun a => !!(occurrences (Str.ofString "0123456789") a 0 (Str.ofString "0123456789").length 1).isEmpty)).isEmpty = digs (co x) := by
  rw [digs_1]; rw [ne_empty] at h; unfold digs; rw [h, Bool.true_and]
theorem digs_f {x : Str} (h : (x != Str.ofString "") = false) : (x != Str.ofString "") = digs (co x) := by
  rw [ne_empty] at h ⊢; unfold digs; rw [h, Bool.false_and]
end Mine
end
section
open PySem PySem.W PySem.Calls PyProof.Rows
set_option maxRecDepth 100000
set_option maxHeartbeats 4000000
namespace Mine
theorem law_is_blank_con (w : World) (x : Str) (tx : Tok) (hx : x.length < 1000) :
   ConP w 156 [.str x tx] 10 (fun _ => .bool ((co x).all blk)) True := by
  unfold ConP
  intro mean mg mb dp un gd cn cs a ccd cl outer A₀ base h₀ L m news s Q E B F X N T hk hd hu hret
  k_with_none
  k_with "compareOp Eq ref ref" => first | ((k_here; k_dflt (refine eq_strs_nil (by is_list) (by is_list) (by assumption) (by ke_room) ?_))) | fail "next"
  refine wpAny_call ?_
  k_dflt ktr_enter
  (rename Fr _ _ _ _ => F0); have F1 := lkF F0 (l' := [(Str.ofString "text", Value.str x tx)]) (by kernel_rfl); clear F0
  k_steps
  exact retP hret 0 (by k_asm) (by first | k_asm | (refine' cb_drop ?cbN ?cbS; (case cbN => assumption); (case cbS => kcj_all))) (congrArg Value.bool blks_1) trivial
theorem law_is_digits_con (w : World) (x : Str) (tx : Tok) (hx : x.length < 1000) :
   ConP w 161 [.str x tx] 10 (fun _ => .bool (digs (co x))) True := by
  unfold ConP
  intro mean mg mb dp un gd cn cs a ccd cl outer A₀ base h₀ L m news s Q E B F X N T hk hd hu hret
  k_with_none
  k_with "compareOp Eq ref ref" => first | ((k_here; k_dflt (refine eq_strs_nil (by is_list) (by is_list) (by assumption) (by ke_room) ?_))) | fail "next"
  refine wpAny_call ?_
  k_dflt ktr_enter
  (rename Fr _ _ _ _ => F0); have F1 := lkF F0 (l' := [(Str.ofString "text", Value.str x tx)]) (by kernel_rfl); clear F0
  k_steps
  · exact retP hret 0 (by k_asm) (by first | k_asm | (refine' cb_drop ?cbN ?cbS; (case cbN => assumption); (case cbS => kcj_all))) (congrArg Value.bool (digs_t (by assumption))) trivial
  · exact retP hret 0 (by k_asm) (by first | k_asm | (refine' cb_drop ?cbN ?cbS; (case cbN => assumption); (case cbS => kcj_all))) (congrArg Value.bool (digs_f (by assumption))) trivial
end Mine
end
section
open PySem PySem.W PySem.Calls PyProof.Rows PySem.Builtin.Str PySem.StrLaws
set_option maxRecDepth 100000
namespace Mine
theorem occ_full (s sub : Str) (hi : Nat) : ∀ (l : List Nat) (st : Array Nat × Nat), st.fst.size = 1 → (forIn l st (occBody s sub hi 1)).run.fst = st.fst
  | [], _, _ => rfl
  | a :: l, st, h => by
    rw [List.forIn_cons]
    unfold occBody
    rw [if_neg (by rintro ⟨⟨⟨h1, _⟩, _⟩, _⟩; omega)]
    exact occ_full s sub hi l _ h
theorem occ_first (s sub : Str) (hi : Nat) : ∀ (l : List Nat) (free : Nat), (∀ i ∈ l, free ≤ i) →
    (forIn l ((#[] : Array Nat), free) (occBody s sub hi 1)).run.fst.toList = (l.find? (fun i => decide (i + sub.length ≤ hi) && subAt s sub i)).toList
  | [], _, _ => rfl
  | a :: l, free, hf => by
    rw [List.forIn_cons]
    unfold occBody
    have ha : free ≤ a := hf a (List.mem_cons_self ..)
    by_cases hc : a + sub.length ≤ hi ∧ subAt s sub a = true
    · have c1 : (((#[] : Array Nat), free).fst.size < 1 ∧ ((#[] : Array Nat), free).snd ≤ a) ∧ a + sub.length ≤ hi := ⟨⟨by simp, ha⟩, hc.1⟩
      rw [if_pos ⟨c1, hc.2⟩, List.find?_cons_of_pos (by simp [hc.1, hc.2])]
      have := occ_full s sub hi l (#[a], a + sub.length) rfl
      exact congrArg Array.toList this
    · have c2 : ¬ (((((#[] : Array Nat), free).fst.size < 1 ∧ ((#[] : Array Nat), free).snd ≤ a) ∧ a + sub.length ≤ hi) ∧ subAt s sub a = true) := fun h => hc ⟨h.1.2, h.2⟩
      rw [if_neg c2, List.find?_cons_of_neg (by simpa using hc)]
      exact occ_first s sub hi l free (fun i hi' => hf i (List.mem_cons_of_mem _ hi'))
theorem occ_one (x : Str) (c : Nat) (h : c ∈ co x) : occurrences x ⟨#[c]⟩ 0 x.length 1 = [(co x).idxOf c] := by
  rw [occ_eq, occ_first _ _ _ _ _ (fun _ _ => Nat.zero_le _)]
  have hlt := List.idxOf_lt_length_of_mem h
  have hget : (co x)[(co x).idxOf c]? = some c := by rw [List.getElem?_eq_getElem hlt, List.getElem_idxOf]
  have e : (List.range' 0 (x.length + 1 - 0)).find? (fun i => decide (i + (⟨#[c]⟩ : Str).length ≤ x.length) && subAt x ⟨#[c]⟩ i) = some ((co x).idxOf c) := by
    have hp := (subAt_one x c _).mpr hget
    have hn : List.range' 0 (x.length + 1 - 0) = List.range' 0 ((co x).idxOf c) ++ (co x).idxOf c :: List.range' ((co x).idxOf c + 1) (x.length - (co x).idxOf c) := by
      have hl : (co x).idxOf c < x.length := by rw [← co_len]; exact hlt
      have e1 : x.length + 1 - 0 = (co x).idxOf c + (x.length - (co x).idxOf c + 1) := by lia
      rw [e1, ← List.range'_append_1, Nat.zero_add, List.range'_succ]
    rw [hn, List.find?_append, List.find?_eq_none.mpr, Option.none_or, List.find?_cons_of_pos]
    · simp [hp.1, hp.2]
    · intro i hi
      have hi' : i < (co x).idxOf c := by simp [List.mem_range'] at hi; omega
      simp only [Bool.and_eq_true, decide_eq_true_eq]
      intro hc
      have := (subAt_one x c i).mp hc
      have hil : i < (co x).length := by omega
      have hne := List.not_of_lt_findIdx (p := (· == c)) (xs := co x) hi'
      change (co x)[i]? = some c at this
      rw [List.getElem?_eq_getElem hil] at this
      simp at this hne
      exact hne this
  rw [e]; rfl
theorem find_one (x : Str) (c : Nat) (h : c ∈ co x) : Txt.find x ⟨#[c]⟩ = ((co x).idxOf c : Nat) := by
  unfold Txt.find; rw [occ_one x c h]
theorem take_idx (l : List Nat) (c : Nat) (_ : c ∈ l) : l.take (l.idxOf c) ++ l.drop (l.idxOf c + 1) = l.erase c := by
  rw [List.erase_eq_eraseIdx_of_idxOf (i := l.idxOf c) rfl, List.eraseIdx_eq_take_drop_succ]
theorem dotS : Str.ofString "." = ⟨#[46]⟩ := by decide +kernel
theorem has_dot (x : Str) : (occurrences x (Str.ofString ".") 0 x.length 1).isEmpty = !decide (46 ∈ co x) := by
  rw [dotS, ← found_one, Bool.not_not]
theorem mant_1 {x : Str} (h : (occurrences x (Str.ofString ".") 0 x.length 1).isEmpty = true) : digs (co x) = digs ((co x).erase 46) := by
  rw [has_dot] at h
  rw [List.erase_of_not_mem (by simpa using h)]
theorem mant_2 {x : Str} (h : (occurrences x (Str.ofString ".") 0 x.length 1).isEmpty = false) :
    digs (co (Txt.slice x none (some (Txt.find x (Str.ofString "."))) ++ Txt.slice x (some (Txt.find x (Str.ofString ".") + 1)) none)) = digs ((co x).erase 46) := by
  rw [has_dot] at h
  have hm : 46 ∈ co x := by simpa using h
  rw [dotS, find_one x 46 hm, co_append, co_slice_ns x (by omega), co_slice_sn x (by omega), ← take_idx _ _ hm]
  have e : (((co x).idxOf 46 : Nat) + 1 : Int).toNat = (co x).idxOf 46 + 1 := by lia
  rw [e, Int.toNat_natCast]
end Mine
end
section
open PySem PySem.W PySem.Calls PyProof.Rows PySem.Builtin.Str PySem.StrLaws
set_option maxRecDepth 100000
namespace Mine
noncomputable def isNumB (b : List Nat) : Bool :=
  if b.findIdx isE < b.length then digs ((b.take (b.findIdx isE)).erase 46) && digs (unsg (b.drop (b.findIdx isE + 1))) else digs (b.erase 46)
noncomputable def isNum (l : List Nat) : Bool := isNumB (unsg l)
theorem unsgL (y : Str) : (ofL (unsg (co y))).length ≤ y.length := by rw [ofL_len, ← co_len]; exact unsg_len _
theorem atIs_get {p : Nat → Bool} {y : Str} {n : Nat} (h : n < (co y).length) : atIs p y n = p (co y)[n] := by
  unfold atIs
  rw [Int.toNat_natCast, List.getElem?_eq_getElem h]
theorem atIs_getK {p : Nat → Bool} {y : Str} {k : Int} (h0 : 0 ≤ k) (h : k.toNat < (co y).length) : atIs p y k = p (co y)[k.toNat] := by
  unfold atIs
  rw [List.getElem?_eq_getElem h]
theorem inEi (y : Str) {k : Int} (h0 : 0 ≤ k) (h1 : k < y.length) : ([Str.ofString "e", Str.ofString "E"].any fun z => z == Txt.item y k) = atIs isE y k := by
  simp only [List.any_cons, List.any_nil, Bool.or_false, item_is y h0 h1 101 (y := Str.ofString "e") (by decide +kernel), item_is y h0 h1 69 (y := Str.ofString "E") (by decide +kernel)]
  exact (atIs_or _ _ y k).symm
section
variable {y : Str} {pre : List Int} {kN : Int}
theorem eStart : ∀ i : Int, 0 ≤ i → i < (([] : List Int).length : Int) → atIs isE y i = false := fun i a b => by simp at b; omega
theorem eTurn (kInv : ∀ i : Int, 0 ≤ i → i < pre.length → atIs isE y i = false) (e : kN = 0 + (pre.length : Int)) (lt : pre.length < ((y.length : Int) - 0).toNat)
    (h : ([Str.ofString "e", Str.ofString "E"].any fun z => z == Txt.item y kN) = false) : ∀ i : Int, 0 ≤ i → i < ((pre ++ [kN]).length : Int) → atIs isE y i = false := by
  intro i h0 h1
  rw [inEi y (by omega) (by omega)] at h
  rw [List.length_append, List.length_singleton] at h1
  by_cases hi : i < pre.length
  · exact kInv i h0 hi
  · have : i = kN := by omega
    rw [this]; exact h
theorem eAt (kInv : ∀ i : Int, 0 ≤ i → i < pre.length → atIs isE y i = false) (e : kN = 0 + (pre.length : Int)) (lt : pre.length < ((y.length : Int) - 0).toNat)
    (h : ([Str.ofString "e", Str.ofString "E"].any fun z => z == Txt.item y kN) = true) : (co y).findIdx isE = pre.length ∧ pre.length < (co y).length := by
  rw [inEi y (by omega) (by omega)] at h
  have hl : pre.length < (co y).length := by rw [co_len]; omega
  refine ⟨?_, hl⟩
  rw [List.findIdx_eq hl]
  have e2 : kN = (pre.length : Int) := by lia
  rw [e2, atIs_get hl] at h
  refine ⟨h, fun j hj => ?_⟩
  have := kInv j (by lia) (by omega)
  rw [atIs_get (by omega)] at this
  exact this
theorem num_1 {l : List Nat} (kInv : ∀ i : Int, 0 ≤ i → i < pre.length → atIs isE (ofL (unsg l)) i = false) (e : kN = 0 + (pre.length : Int)) (lt : pre.length < (((ofL (unsg l)).length : Int) - 0).toNat)
    (h : ([Str.ofString "e", Str.ofString "E"].any fun z => z == Txt.item (ofL (unsg l)) kN) = true) (h2 : digs ((co (Txt.slice (ofL (unsg l)) none (some kN))).erase 46) = true) :
    digs (co (ofL (unsg (co (Txt.slice (ofL (unsg l)) (some (kN + 1)) none))))) = isNum l := by
  obtain ⟨h3, h4⟩ := eAt kInv e lt h
  rw [co_ofL] at h3 h4
  unfold isNum isNumB
  rw [h3, if_pos h4]
  rw [co_slice_ns _ (by omega), co_ofL] at h2
  have e2 : kN.toNat = pre.length := by omega
  rw [e2] at h2
  have e3 : (kN + 1).toNat = pre.length + 1 := by lia
  rw [h2, Bool.true_and, co_ofL, co_slice_sn _ (by lia), co_ofL, e3]
theorem num_2 {l : List Nat} (kInv : ∀ i : Int, 0 ≤ i → i < pre.length → atIs isE (ofL (unsg l)) i = false) (e : kN = 0 + (pre.length : Int)) (lt : pre.length < (((ofL (unsg l)).length : Int) - 0).toNat)
    (h : ([Str.ofString "e", Str.ofString "E"].any fun z => z == Txt.item (ofL (unsg l)) kN) = true) (h2 : digs ((co (Txt.slice (ofL (unsg l)) none (some kN))).erase 46) = false) :
    digs ((co (Txt.slice (ofL (unsg l)) none (some kN))).erase 46) = isNum l := by
  rw [h2]
  obtain ⟨h3, h4⟩ := eAt kInv e lt h
  rw [co_ofL] at h3 h4
  unfold isNum isNumB
  rw [h3, if_pos h4]
  rw [co_slice_ns _ (by omega), co_ofL] at h2
  have e2 : kN.toNat = pre.length := by omega
  rw [e2] at h2
  rw [h2, Bool.false_and]
theorem num_3 {l : List Nat} (kInv : ∀ i : Int, 0 ≤ i → i < ((rangeKs 0 (((ofL (unsg l)).length : Int) - 0).toNat).length : Int) → atIs isE (ofL (unsg l)) i = false) :
    digs ((co (ofL (unsg l))).erase 46) = isNum l := by
  unfold isNum isNumB
  rw [if_neg, co_ofL]
  rw [rangeKs_length] at kInv
  rw [Nat.not_lt]
  refine Nat.le_of_not_lt fun hc => ?_
  have hp := List.findIdx_getElem (w := hc)
  have hl : (ofL (unsg l)).length = (unsg l).length := ofL_len _
  have := kInv ((unsg l).findIdx isE : Nat) (by omega) (by omega)
  have hc' : (unsg l).findIdx isE < (co (ofL (unsg l))).length := by rw [co_ofL]; exact hc
  rw [atIs_get hc'] at this
  simp only [co_ofL] at this
  rw [hp] at this
  cases this
end
end Mine
end
section
open PySem PySem.W PySem.Calls PyProof.Rows
set_option maxRecDepth 100000
set_option maxHeartbeats 4000000
namespace Mine
theorem law_is_mantissa_con (w : World) (x : Str) (tx : Tok) (hx : x.length < 400) :
   ConP w 175 [.str x tx] 12 (fun _ => .bool (digs ((co x).erase 46))) True := by
  unfold ConP
  intro mean mg mb dp un gd cn cs a ccd cl outer A₀ base h₀ L m news s Q E B F X N T hk hd hu hret
  k_with_none
  k_with "len9" => first | (first | (simp only [Str.length_append]; omega) | (refine Nat.lt_of_le_of_lt (unsgL _) ?_; omega)) | fail "next"
  k_with "call ref" => first | ((k_here; k_dflt (refine' useP (law_is_digits_con _ _ _ ?c0q7) ?k1q7 ?k2q7 ?k3q7 ?k4q7 ?k5q7 ?kKq7 ?kdq7 ?kuq7 ?_; (case k1q7 => k_asm); (case k2q7 => k_asm); (case k3q7 => k_asm); (case k4q7 => k_asm); (case k5q7 => k_asm); (case kKq7 => first | exact rfl | assumption); (case kdq7 => first | exact room1 (by with_reducible assumption) (by exact rfl) (by exact rfl) | ktr_room); (case kuq7 => first | exact units3 (by with_reducible assumption) (by exact rfl) (by exact rfl) | ktr_units); (case c0q7 => first | with_reducible assumption | omega | walk_at "len9"); k_whole; (intro tz hz tkz gz Fz Nz; (try dsimp only); (try k_fold))))) | fail "next"
  refine wpAny_call ?_
  k_dflt ktr_enter
  (rename Fr _ _ _ _ => F0); have F1 := lkF F0 (l' := [(Str.ofString "text", Value.str x tx)]) (by kernel_rfl); clear F0
  k_steps
  · exact retP hret 0 (by k_asm) (by first | k_asm | (refine' cb_drop ?cbN ?cbS; (case cbN => assumption); (case cbS => kcj_all))) (congrArg Value.bool (mant_1 (by assumption))) trivial
  · exact retP hret 0 (by k_asm) (by first | k_asm | (refine' cb_drop ?cbN ?cbS; (case cbN => assumption); (case cbS => kcj_all))) (congrArg Value.bool (mant_2 (by assumption))) trivial
theorem law_is_number_con (w : World) (x : Str) (tx : Tok) (hx : x.length < 400) :
   ConP w 182 [.str x tx] 14 (fun _ => .bool (isNum (co x))) True := by
  unfold ConP
  intro mean mg mb dp un gd cn cs a ccd cl outer A₀ base h₀ L m news s Q E B F X N T hk hd hu hret
  k_with_none
  k_with "len9" => first | (first | (simp only [Str.length_append]; omega) | (refine Nat.lt_of_le_of_lt (unsgL _) ?_; omega)) | fail "next"
  k_with "call ref" => first | ((k_here; k_dflt (refine' useP (law_is_digits_con _ _ _ ?c0q7) ?k1q7 ?k2q7 ?k3q7 ?k4q7 ?k5q7 ?kKq7 ?kdq7 ?kuq7 ?_; (case k1q7 => k_asm); (case k2q7 => k_asm); (case k3q7 => k_asm); (case k4q7 => k_asm); (case k5q7 => k_asm); (case kKq7 => first | exact rfl | assumption); (case kdq7 => first | exact room1 (by with_reducible assumption) (by exact rfl) (by exact rfl) | ktr_room); (case kuq7 => first | exact units3 (by with_reducible assumption) (by exact rfl) (by exact rfl) | ktr_units); (case c0q7 => first | with_reducible assumption | omega | walk_at "len9"); k_whole; (intro tz hz tkz gz Fz Nz; (try dsimp only); (try k_fold))))) | fail "next"
  k_with "call ref" => first | ((k_here; k_dflt (refine' useP (law_is_mantissa_con _ _ _ ?c0q7) ?k1q7 ?k2q7 ?k3q7 ?k4q7 ?k5q7 ?kKq7 ?kdq7 ?kuq7 ?_; (case k1q7 => k_asm); (case k2q7 => k_asm); (case k3q7 => k_asm); (case k4q7 => k_asm); (case k5q7 => k_asm); (case kKq7 => first | exact rfl | assumption); (case kdq7 => first | exact room1 (by with_reducible assumption) (by exact rfl) (by exact rfl) | ktr_room); (case kuq7 => first | exact units3 (by with_reducible assumption) (by exact rfl) (by exact rfl) | ktr_units); (case c0q7 => first | with_reducible assumption | omega | walk_at "len9"); k_whole; (intro tz hz tkz gz Fz Nz; (try dsimp only); (try k_fold))))) | fail "next"
  k_with "call ref" => first | ((k_here; k_dflt (refine' useP (law_unsigned_con _ _ _ ?c0q7) ?k1q7 ?k2q7 ?k3q7 ?k4q7 ?k5q7 ?kKq7 ?kdq7 ?kuq7 ?_; (case k1q7 => k_asm); (case k2q7 => k_asm); (case k3q7 => k_asm); (case k4q7 => k_asm); (case k5q7 => k_asm); (case kKq7 => first | exact rfl | assumption); (case kdq7 => first | exact room1 (by with_reducible assumption) (by exact rfl) (by exact rfl) | ktr_room); (case kuq7 => first | exact units3 (by with_reducible assumption) (by exact rfl) (by exact rfl) | ktr_units); (case c0q7 => first | with_reducible assumption | omega | walk_at "len9"); k_whole; (intro tz hz tkz gz Fz Nz; (try dsimp only); (try k_fold))))) | fail "next"
  refine wpAny_call ?_
  k_dflt ktr_enter
  (rename Fr _ _ _ _ => F0); have F1 := lkF F0 (l' := [(Str.ofString "text", Value.str x tx)]) (by kernel_rfl); clear F0
  have hb : (ofL (unsg (co x))).length ≤ x.length := by rw [ofL_len, ← co_len]; exact unsg_len _
  repeat' ((fail_if_success (with_reducible show wpAny _ _ (pyIter (Value.ref _)) _ _ _)); first | (k_unfold; (try dsimp only)) | (k_end; wrow_close) | walk1 | (dsimp only; walk1) | (leave1; walk_say "STEP leave1"; try dsimp only) | fail "no step")
  k_with "state" => first | exact eStart | exact eTurn (by assumption) (by assumption) (by assumption) (by assumption)
  k_search (fun pre => ∀ i : Int, 0 ≤ i → i < pre.length → atIs isE (ofL (unsg (co x))) i = false)
  all_goals k_steps
  · exact retP hret 0 (by k_asm) (by first | k_asm | (refine' cb_drop ?cbN ?cbS; (case cbN => assumption); (case cbS => kcj_all))) (congrArg Value.bool (num_1 (by assumption) (by assumption) (by assumption) (by assumption) (by assumption))) trivial
  · exact retP hret 0 (by k_asm) (by first | k_asm | (refine' cb_drop ?cbN ?cbS; (case cbN => assumption); (case cbS => kcj_all))) (congrArg Value.bool (num_2 (by assumption) (by assumption) (by assumption) (by assumption) (by assumption))) trivial
  · exact retP hret 0 (by k_asm) (by first | k_asm | (refine' cb_drop ?cbN ?cbS; (case cbN => assumption); (case cbS => kcj_all))) (congrArg Value.bool (num_3 (by assumption))) trivial
end Mine
end
section
open PySem PySem.W PySem.Calls PyProof.Rows PySem.Builtin.Str PySem.StrLaws
set_option maxRecDepth 100000
namespace Mine
theorem vStart {l : List Nat} : (0 : Int) = dv (l.drop (l.length - ([] : List Int).length)) := by
  simp [dv]
theorem hayLen : (Str.ofString "0123456789").length = 10 := by decide +kernel
theorem digMul (y : Str) (b : Int) : IntMulOk (Txt.find (Str.ofString "0123456789") y) b := by
  refine IntMulOk.of_left (intBits_le_64 ?_ ?_)
  · have := fact_find (Str.ofString "0123456789") y; omega
  · have := fact_find (Str.ofString "0123456789") y
    rw [hayLen] at this
    have e : (2 : Int) ^ 64 = 18446744073709551616 := by decide
    rw [e]; omega
theorem foldl_dv : ∀ (l : List Nat) (v : Int), l.foldl (fun (v : Int) (c : Nat) => v * 10 + (c : Int) - 48) v = v * 10 ^ l.length + dv l
  | [], v => by simp [dv]
  | c :: r, v => by
    have e : dv (c :: r) = r.foldl (fun (v : Int) (c : Nat) => v * 10 + (c : Int) - 48) (0 * 10 + (c : Int) - 48) := rfl
    rw [e, List.foldl_cons, foldl_dv r, foldl_dv r, List.length_cons, Int.pow_succ]
    have e2 : (v * 10 + (c : Int) - 48) = v * 10 + (0 * 10 + (c : Int) - 48) := by lia
    rw [e2, Int.add_mul, Int.mul_assoc, Int.mul_comm 10 (10 ^ r.length), Int.add_assoc]
theorem dv_cons (c : Nat) (r : List Nat) : dv (c :: r) = ((c : Int) - 48) * 10 ^ r.length + dv r := by
  have e : dv (c :: r) = r.foldl (fun (v : Int) (c : Nat) => v * 10 + (c : Int) - 48) (0 * 10 + (c : Int) - 48) := rfl
  rw [e, foldl_dv]
  congr 2
  lia
theorem find_dig {c : Nat} (h : dig c = true) : Txt.find (Str.ofString "0123456789") ⟨#[c]⟩ = (c : Int) - 48 := by
  have e : co (Str.ofString "0123456789") = [48, 49, 50, 51, 52, 53, 54, 55, 56, 57] := by decide +kernel
  have hm : c ∈ co (Str.ofString "0123456789") := by
    have := hayDig c; rw [h] at this; exact of_decide_eq_true this
  rw [find_one _ _ hm, e]
  rw [e] at hm
  simp only [List.mem_cons, List.not_mem_nil, or_false] at hm
  rcases hm with rfl | rfl | rfl | rfl | rfl | rfl | rfl | rfl | rfl | rfl <;> decide
theorem item_ofL {l : List Nat} {k : Int} (h0 : 0 ≤ k) (h1 : k < l.length) : Txt.item (ofL l) k = ⟨#[l.getD k.toNat 0]⟩ := by
  have hl : (ofL l).length = l.length := ofL_len _
  have := co_item (ofL l) h0 (by omega)
  rw [co_ofL] at this
  exact eq_ofL this
theorem vTurn {l : List Nat} {pre : List Int} {kN v : Int} (hd : l.all dig = true) (kInv : v = dv (l.drop (l.length - pre.length))) (e : kN = 0 + (pre.length : Int))
    (lt : pre.length < (((ofL l).length : Int) - 0).toNat) :
    v + Txt.find (Str.ofString "0123456789") (Txt.item (ofL l) (((ofL l).length : Int) - 1 - kN)) * 10 ^ kN.toNat = dv (l.drop (l.length - (pre ++ [kN]).length)) := by
  have hl : (ofL l).length = l.length := ofL_len _
  rw [hl, Int.sub_zero, Int.toNat_natCast] at lt
  rw [hl]
  rw [Int.zero_add] at e
  have ea : (pre ++ [kN]).length = pre.length + 1 := by rw [List.length_append, List.length_singleton]
  rw [ea, e, Int.toNat_natCast]
  clear ea e kN
  generalize pre.length = p at *
  obtain ⟨q, hq⟩ := Nat.exists_eq_add_of_lt lt
  have e0 : l.length - (p + 1) = q := by rw [hq, Nat.add_right_comm, Nat.add_sub_cancel_left]
  have hi : q < l.length := by rw [hq]; exact Nat.lt_succ_of_le (Nat.le_add_left _ _)
  have e1 : l.length - p = q + 1 := by rw [hq, Nat.add_assoc, Nat.add_sub_cancel_left]
  have e2 : ((l.length : Int) - 1 - (p : Int)) = (q : Int) := by rw [hq]; lia
  rw [e0, List.drop_eq_getElem_cons hi, dv_cons]
  rw [e1] at kInv
  rw [← kInv, e2, item_ofL (Int.natCast_nonneg _) (Int.ofNat_lt.mpr hi), Int.toNat_natCast, List.getD_eq_getElem?_getD, List.getElem?_eq_getElem hi, Option.getD_some, find_dig (List.all_eq_true.mp hd _ (List.getElem_mem hi)), List.length_drop]
  have e3 : l.length - (q + 1) = p := by rw [hq, Nat.add_assoc, Nat.add_sub_cancel]
  rw [e3, Int.add_comm]
theorem vDone {l : List Nat} {v : Int} (kInv : v = dv (l.drop (l.length - (rangeKs 0 (((ofL l).length : Int) - 0).toNat).length))) : v = dv l := by
  have hl : (ofL l).length = l.length := ofL_len _
  rw [rangeKs_length, hl, show l.length - ((l.length : Int) - 0).toNat = 0 by omega] at kInv
  exact kInv
noncomputable def valP (l : List Nat) : Int := if l.head? = some 45 then -dv (unsg l) else dv (unsg l)
theorem atIs45 (x : Str) : atIs (· == 45) x 0 = decide ((co x).head? = some 45) := by
  rw [atIs0]
  cases co x with
  | nil => rfl
  | cons c r => rw [Bool.eq_iff_iff]; simp
theorem val_1 {x : Str} {v : Int} (kInv : v = dv ((unsg (co x)).drop ((unsg (co x)).length - (rangeKs 0 (((ofL (unsg (co x))).length : Int) - 0).toNat).length))) (h : (Txt.slice x none (some 1) == Str.ofString "-") = true) : -v = valP (co x) := by
  rw [vDone kInv]; rw [minus0, atIs45] at h; unfold valP; rw [if_pos (by simpa using h)]
theorem val_2 {x : Str} {v : Int} (kInv : v = dv ((unsg (co x)).drop ((unsg (co x)).length - (rangeKs 0 (((ofL (unsg (co x))).length : Int) - 0).toNat).length))) (h : (Txt.slice x none (some 1) == Str.ofString "-") = false) : v = valP (co x) := by
  rw [minus0, atIs45] at h; unfold valP; rw [if_neg (by simpa using h)]; exact vDone kInv
end Mine
end
section
open PySem PySem.W PySem.Calls PyProof.Rows
set_option maxRecDepth 100000
set_option maxHeartbeats 4000000
namespace Mine
theorem law_value_con (w : World) (x : Str) (tx : Tok) (hx : x.length < 64) (hdg : (unsg (co x)).all dig = true) :
   ConP w 189 [.str x tx] 14 (fun t => .int (valP (co x)) t) True := by
  unfold ConP
  intro mean mg mb dp un gd cn cs a ccd cl outer A₀ base h₀ L m news s Q E B F X N T hk hd hu hret
  k_with_none
  k_with "len9" => first | (first | (simp only [Str.length_append]; omega) | (refine Nat.lt_of_le_of_lt (unsgL _) ?_; omega)) | fail "next"
  k_with "call ref" => first | ((k_here; k_dflt (refine' useP (law_unsigned_con _ _ _ ?c0q7) ?k1q7 ?k2q7 ?k3q7 ?k4q7 ?k5q7 ?kKq7 ?kdq7 ?kuq7 ?_; (case k1q7 => k_asm); (case k2q7 => k_asm); (case k3q7 => k_asm); (case k4q7 => k_asm); (case k5q7 => k_asm); (case kKq7 => first | exact rfl | assumption); (case kdq7 => first | exact room1 (by with_reducible assumption) (by exact rfl) (by exact rfl) | ktr_room); (case kuq7 => first | exact units3 (by with_reducible assumption) (by exact rfl) (by exact rfl) | ktr_units); (case c0q7 => first | with_reducible assumption | omega | walk_at "len9"); k_whole; (intro tz hz tkz gz Fz Nz; (try dsimp only); (try k_fold))))) | fail "next"
  k_with "binaryOp Mult int int" => first | ((k_here; refine mul_int ?_ (hm := digMul _ _))) | fail "next"
  refine wpAny_call ?_
  k_dflt ktr_enter
  (rename Fr _ _ _ _ => F0); have F1 := lkF F0 (l' := [(Str.ofString "text", Value.str x tx)]) (by kernel_rfl); clear F0
  have hb : (ofL (unsg (co x))).length ≤ x.length := unsgL x
  repeat' ((fail_if_success (with_reducible show wpAny _ _ (pyIter (Value.ref _)) _ _ _)); first | (k_unfold; (try dsimp only)) | (k_end; wrow_close) | walk1 | (dsimp only; walk1) | (leave1; walk_say "STEP leave1"; try dsimp only) | fail "no step")
  k_with "state" => first | exact vStart | exact vTurn hdg (by assumption) (by assumption) (by assumption)
  k_state (fun pre v => v = dv ((unsg (co x)).drop ((unsg (co x)).length - pre.length))) "value"
  all_goals k_steps
  · exact retP hret _ (by k_asm) (by first | k_asm | (refine' cb_drop ?cbN ?cbS; (case cbN => assumption); (case cbS => kcj_all))) (congrArg (Value.int · _) (val_1 (by assumption) (by assumption))) trivial
  · exact retP hret _ (by k_asm) (by first | k_asm | (refine' cb_drop ?cbN ?cbS; (case cbN => assumption); (case cbS => kcj_all))) (congrArg (Value.int · _) (val_2 (by assumption) (by assumption))) trivial
end Mine
end
section
open PySem PySem.W PySem.Calls PyProof.Rows PySem.Builtin.Str PySem.StrLaws
set_option maxRecDepth 100000
namespace Mine
theorem digs_pos {x : Str} (h : digs (co x) = true) : 0 < (x.length : Int) := by
  rw [← co_len]
  cases e : co x with
  | nil => rw [e] at h; cases h
  | cons c r => simp
theorem dig_nsgn {c : Nat} (h : dig c = true) : sgn c = false := by
  unfold dig at h; unfold sgn
  simp only [Bool.and_eq_true, decide_eq_true_eq] at h
  simp only [Bool.or_eq_false_iff, beq_eq_false_iff_ne]
  lia
theorem unsg_all {l : List Nat} (h : l.all dig = true) : unsg l = l := by
  cases l with
  | nil => rfl
  | cons c r =>
    rw [List.all_cons, Bool.and_eq_true] at h
    rw [unsg_cons, dig_nsgn h.1]; rfl
theorem digs_all {l : List Nat} (h : digs l = true) : l.all dig = true := by
  unfold digs at h; rw [Bool.and_eq_true] at h; exact h.2
theorem ud_1 {x : Str} (h : (Txt.slice x none (some 1) == Str.ofString "-") = true) (h2 : digs (co (Txt.slice x (some 1) none)) = true) : (unsg (co x)).all dig = true := by
  rw [minus0, atIs45] at h
  rw [co_slice_sn x (by decide)] at h2
  cases e : co x with
  | nil => rw [e] at h; simp at h
  | cons c r =>
    rw [e] at h h2
    have hc : c = 45 := by simpa using h
    rw [unsg_cons, if_pos (by rw [hc]; decide)]
    exact digs_all h2
theorem ud_2 {x : Str} (h2 : digs (co x) = true) : (unsg (co x)).all dig = true := by
  rw [unsg_all (digs_all h2)]; exact digs_all h2
noncomputable def bare (l : List Nat) : List Nat := if l.head? = some 45 then l.tail else l
noncomputable def lkeyP (l : List Nat) : Option Int :=
  if digs (bare l) = true ∧ ¬ ((bare l).head? = some 48 ∧ l ≠ [48]) then withinF (valP l) else none
section
variable {x y : Str}
theorem bare_1 (h : (Txt.slice x none (some 1) == Str.ofString "-") = true) : co (Txt.slice x (some 1) none) = bare (co x) := by
  rw [minus0, atIs45] at h
  unfold bare
  rw [if_pos (by simpa using h), co_slice_sn x (by decide)]
  simp
theorem bare_2 (h : (Txt.slice x none (some 1) == Str.ofString "-") = false) : co x = bare (co x) := by
  rw [minus0, atIs45] at h
  unfold bare
  rw [if_neg (by simpa using h)]
theorem head48 (h : digs (co y) = true) : (Txt.item y 0 == Str.ofString "0") = decide ((co y).head? = some 48) := by
  rw [zero_is (by decide) (digs_pos h), atIs0]
  cases co y with
  | nil => rfl
  | cons c r => rw [Bool.eq_iff_iff]; simp
theorem ne_zero : (x != Str.ofString "0") = decide (co x ≠ [48]) := by
  rw [Bool.eq_iff_iff, bne_iff_ne, decide_eq_true_eq]
  have e : co (Str.ofString "0") = [48] := by decide +kernel
  rw [← e]
  exact ⟨fun h h2 => h (str_ext h2), fun h h2 => h (by rw [h2])⟩
theorem lk_nd (e : co y = bare (co x)) (h : digs (co y) = false) : lkeyP (co x) = none := by
  unfold lkeyP; rw [if_neg]; rw [← e, h]; exact fun h => by cases h.1
theorem lk_z (e : co y = bare (co x)) (h : digs (co y) = true) (hz : (Txt.item y 0 == Str.ofString "0") = true) (hn : (x != Str.ofString "0") = true) : lkeyP (co x) = none := by
  unfold lkeyP; rw [if_neg]; rw [← e]
  rw [head48 h] at hz; rw [ne_zero] at hn
  exact fun h => h.2 ⟨by simpa using hz, by simpa using hn⟩
theorem lk_v (e : co y = bare (co x)) (h : digs (co y) = true) (hz : (Txt.item y 0 == Str.ofString "0") = false ∨ (x != Str.ofString "0") = false) : optV (withinF (valP (co x))) = optV (lkeyP (co x)) := by
  unfold lkeyP; rw [if_pos]; rw [← e]
  rw [head48 h, ne_zero] at hz
  refine ⟨h, fun hc => ?_⟩
  rcases hz with hz | hz
  · simp [hc.1] at hz
  · simp [hc.2] at hz
end
end Mine
end
section
open PySem PySem.W PySem.Calls PyProof.Rows
set_option maxRecDepth 100000
set_option maxHeartbeats 4000000
namespace Mine
theorem law_key_con (w : World) (x : Str) (tx : Tok) (hx : x.length < 64) :
   ConP w 208 [.str x tx] 16 (fun t => optV (lkeyP (co x)) t) True := by
  unfold ConP
  intro mean mg mb dp un gd cn cs a ccd cl outer A₀ base h₀ L m news s Q E B F X N T hk hd hu hret
  k_with_none
  k_with "len9" => first | (first | (simp only [Str.length_append]; omega) | (refine Nat.lt_of_le_of_lt (unsgL _) ?_; omega)) | fail "next"
  k_with "dig9" => first | (first | exact ud_1 (by assumption) (by assumption) | exact ud_2 (by assumption)) | fail "next"
  k_with "call ref" => first | ((k_here; k_dflt (refine' useP (law_is_digits_con _ _ _ ?c0q7) ?k1q7 ?k2q7 ?k3q7 ?k4q7 ?k5q7 ?kKq7 ?kdq7 ?kuq7 ?_; (case k1q7 => k_asm); (case k2q7 => k_asm); (case k3q7 => k_asm); (case k4q7 => k_asm); (case k5q7 => k_asm); (case kKq7 => first | exact rfl | assumption); (case kdq7 => first | exact room1 (by with_reducible assumption) (by exact rfl) (by exact rfl) | ktr_room); (case kuq7 => first | exact units3 (by with_reducible assumption) (by exact rfl) (by exact rfl) | ktr_units); (case c0q7 => first | with_reducible assumption | omega | walk_at "len9"); k_whole; (intro tz hz tkz gz Fz Nz; (try dsimp only); (try k_fold))))) | fail "next"
  k_with "call ref" => first | ((k_here; k_dflt (refine' useP (law_value_con _ _ _ ?c0q7 ?c1q7) ?k1q7 ?k2q7 ?k3q7 ?k4q7 ?k5q7 ?kKq7 ?kdq7 ?kuq7 ?_; (case k1q7 => k_asm); (case k2q7 => k_asm); (case k3q7 => k_asm); (case k4q7 => k_asm); (case k5q7 => k_asm); (case kKq7 => first | exact rfl | assumption); (case kdq7 => first | exact room1 (by with_reducible assumption) (by exact rfl) (by exact rfl) | ktr_room); (case kuq7 => first | exact units3 (by with_reducible assumption) (by exact rfl) (by exact rfl) | ktr_units); (case c0q7 => first | with_reducible assumption | omega | walk_at "len9"); (case c1q7 => walk_at "dig9"); k_whole; (intro tz hz tkz gz Fz Nz; (try dsimp only); (try k_fold))))) | fail "next"
  k_with "call ref" => first | ((k_here; k_dflt (refine' useP (law_within_con _ _ _ ) ?k1q7 ?k2q7 ?k3q7 ?k4q7 ?k5q7 ?kKq7 ?kdq7 ?kuq7 ?_; (case k1q7 => k_asm); (case k2q7 => k_asm); (case k3q7 => k_asm); (case k4q7 => k_asm); (case k5q7 => k_asm); (case kKq7 => first | exact rfl | assumption); (case kdq7 => first | exact room1 (by with_reducible assumption) (by exact rfl) (by exact rfl) | ktr_room); (case kuq7 => first | exact units3 (by with_reducible assumption) (by exact rfl) (by exact rfl) | ktr_units); k_whole; (intro tz hz tkz gz Fz Nz; (try dsimp only); (try k_fold))))) | fail "next"
  k_with "subscriptTail Name Constant str int" => first | ((k_here; refine item_str (by decide) (by omega) (digs_pos (by assumption)) ?_; intro _)) | fail "next"
  refine wpAny_call ?_
  k_dflt ktr_enter
  (rename Fr _ _ _ _ => F0); have F1 := lkF F0 (l' := [(Str.ofString "text", Value.str x tx)]) (by kernel_rfl); clear F0
  k_steps
  all_goals first
    | (have e := lk_nd (bare_1 (by assumption)) (by assumption)
       exact retP hret 0 (by k_asm) (by first | k_asm | (refine' cb_drop ?cbN ?cbS; (case cbN => assumption); (case cbS => kcj_all))) (optV_none e 0) trivial)
    | (have e := lk_nd (bare_2 (by assumption)) (by assumption)
       exact retP hret 0 (by k_asm) (by first | k_asm | (refine' cb_drop ?cbN ?cbS; (case cbN => assumption); (case cbS => kcj_all))) (optV_none e 0) trivial)
    | (have e := lk_z (bare_1 (by assumption)) (by assumption) (by assumption) (by assumption)
       exact retP hret 0 (by k_asm) (by first | k_asm | (refine' cb_drop ?cbN ?cbS; (case cbN => assumption); (case cbS => kcj_all))) (optV_none e 0) trivial)
    | (have e := lk_z (bare_2 (by assumption)) (by assumption) (by assumption) (by assumption)
       exact retP hret 0 (by k_asm) (by first | k_asm | (refine' cb_drop ?cbN ?cbS; (case cbN => assumption); (case cbS => kcj_all))) (optV_none e 0) trivial)
    | (have e := lk_v (bare_1 (by assumption)) (by assumption) (by first | exact Or.inl (by assumption) | exact Or.inr (by assumption))
       exact retP hret _ (by k_asm) (by first | k_asm | (refine' cb_drop ?cbN ?cbS; (case cbN => assumption); (case cbS => kcj_all))) (congrFun e _) trivial)
    | (have e := lk_v (bare_2 (by assumption)) (by assumption) (by first | exact Or.inl (by assumption) | exact Or.inr (by assumption))
       exact retP hret _ (by k_asm) (by first | k_asm | (refine' cb_drop ?cbN ?cbS; (case cbN => assumption); (case cbS => kcj_all))) (congrFun e _) trivial)
end Mine
end
section
open PySem PySem.W PySem.Calls PyProof.Rows PySem.Builtin.Str PySem.StrLaws
set_option maxRecDepth 100000
namespace Mine
theorem neCell {L : Addr} {news : List (Addr × Obj)} (h : ∀ p ∈ news, p.1 < L) : ∀ p ∈ news, p.1 ≠ L + 1 := fun p hp => Nat.ne_of_lt (Nat.lt_succ_of_lt (h p hp))
theorem blk_item {x : Str} {j : Int} (h0 : 0 ≤ j) (h1 : j < x.length) : (co (Txt.item x j)).all blk = atIs blk x j := by
  rw [co_item x h0 h1, atIs_of h0 h1]; simp
theorem nTurn {x : Str} {j : Int} (h0 : 0 ≤ j) (h1 : j < x.length) (h : (co (Txt.item x j)).all blk = true) (e : pEnd blk x j = pEnd blk x 0) : 0 ≤ j + 1 ∧ pEnd blk x (j + 1) = pEnd blk x 0 := by
  rw [blk_item h0 h1] at h
  exact ⟨by lia, (pEnd_step h0 h).trans e⟩
theorem nStop {x : Str} {j : Int} (h0 : 0 ≤ j) (h : atIs blk x j = false) (e : pEnd blk x j = pEnd blk x 0) : j = nF x := by
  rw [nF, ← e]; exact (pEnd_stop h0 h).symm
theorem nStop1 {x : Str} {j : Int} (h0 : 0 ≤ j) (h1 : j < x.length) (h : (co (Txt.item x j)).all blk = false) (e : pEnd blk x j = pEnd blk x 0) : j = nF x := by
  rw [blk_item h0 h1] at h
  rw [nF, ← e]; exact (pEnd_stop h0 h).symm
theorem nStop2 {x : Str} {j : Int} (h0 : 0 ≤ j) (h1 : ¬ j < x.length) (e : pEnd blk x j = pEnd blk x 0) : j = nF x := by
  rw [nF, ← e]; exact (pEnd_stop h0 (atIs_out h1)).symm
end Mine
end
section
open PySem PySem.W PySem.Calls PyProof.Rows PySem.Builtin.Str PySem.StrLaws
set_option maxRecDepth 100000
namespace Mine
theorem ints_snoc {k : Int} {t : Tok} : ∀ {vs : List Value} {ns : List Int}, IntsAre vs ns → IntsAre (vs ++ [.int k t]) (ns ++ [k])
  | _, _, .nil => .cons k t .nil
  | _, _, .cons z u r => .cons z u (ints_snoc r)
theorem lct_filter {prog : Program} {w : World} {A : Around} {h₀ : Heap} {L : Addr} {m : Str → Option Value} {env : Env} {ct elt : Expr} {x : Str} {scope : Scope} {cl : List (Str × Addr)} {s : Shared} {S : List (Addr × Obj) → Prop} {Fin : List Value → List (Addr × Obj) → Prop} {news : List (Addr × Obj)} {n : Nat} (p : Nat → Bool) (hS : S news)
    (turn : ∀ (i : Nat) t I oI C oC D m₂ ys h tk (E' : Value → Shared → Prop), i < n → LCg.NsObj oC m₂ → m₂ x = some (.int (0 + (i : Int)) t) → Fr h₀ L h m → News h₀ L h ((I, oI) :: (C, oC) :: (D, LCg.lst ys) :: news) → LCg.Off3 I C D news → ((@Ne Nat I C) ∧ (@Ne Nat I D) ∧ (@Ne Nat C D)) →
      wpAny (model prog w) A (isTrue ct (compEnvC scope cl C env) (eval ct (compEnvC scope cl C env))) (fun ok s' => JV (p i) h₀ L m ((I, oI) :: (C, oC) :: (D, LCg.lst ys) :: news) { s with heap := h, toks := tk } ok s') E' { s with heap := h, toks := tk })
    (item : ∀ (i : Nat) t I oI C oC D m₂ ys h tk (E' : Value → Shared → Prop), i < n → LCg.NsObj oC m₂ → m₂ x = some (.int (0 + (i : Int)) t) → Fr h₀ L h m → News h₀ L h ((I, oI) :: (C, oC) :: (D, LCg.lst ys) :: news) → LCg.Off3 I C D news → ((@Ne Nat I C) ∧ (@Ne Nat I D) ∧ (@Ne Nat C D)) →
      wpAny (model prog w) A (eval elt (compEnvC scope cl C env)) (fun y s' => JV (Value.int (0 + (i : Int)) t) h₀ L m ((I, oI) :: (C, oC) :: (D, LCg.lst ys) :: news) { s with heap := h, toks := tk } y s') E' { s with heap := h, toks := tk })
    (fin : ∀ ys, IntsAre ys (((List.range n).filter p).map fun (i : Nat) => (i : Int)) → Fin ys news) :
    LCt.CompRestT prog w A h₀ L m env ct elt x scope cl s S (fun i v => ∃ t, v = .int (0 + (i : Int)) t) Fin n 0 [] news := by
  have key : ∀ (j i : Nat) (ys : List Value), i + j = n → IntsAre ys (((List.range i).filter p).map fun (i : Nat) => (i : Int)) → LCt.CompRestT prog w A h₀ L m env ct elt x scope cl s S (fun i v => ∃ t, v = .int (0 + (i : Int)) t) Fin j i ys news := by
    intro j
    induction j with
    | zero =>
      intro i ys hi hy
      have e : i = n := by omega
      subst e
      exact LCt.CompRestT.zero (fin ys hy)
    | succ j ih =>
      intro i ys hi hy
      refine LCt.CompRestT.succ ?_
      intro v I oI C oC D m₂ h tk E' hv hC hx F N off ne
      obtain ⟨t, rfl⟩ := hv
      refine wpAny_mono (turn i t I oI C oC D m₂ ys h tk E' (by omega) hC hx F N off ne) (fun ok s₂ hq => ?_) fun _ _ e => e
      obtain ⟨rfl, ⟨h', tk', rfl, F', N'⟩⟩ := hq
      have step : List.filter p (List.range (i + 1)) = List.filter p (List.range i) ++ (if p i = true then [i] else []) := by
        rw [List.range_succ, List.filter_append]
        congr 1
        by_cases hp : p i = true
        · rw [if_pos hp, List.filter_cons_of_pos hp]; rfl
        · rw [if_neg hp, List.filter_cons_of_neg hp]; rfl
      by_cases hp : p i = true
      · rw [if_pos hp]
        refine wpAny_mono (item i t I oI C oC D m₂ ys h' tk' E' (by omega) hC hx F' N' off ne) (fun y s₃ hq => ?_) fun _ _ e => e
        obtain ⟨rfl, ⟨h'', tk'', rfl, F'', N''⟩⟩ := hq
        refine ⟨h'', tk'', news, rfl, F'', N'', off, hS, ih (i + 1) _ (by omega) ?_⟩
        rw [step, if_pos hp, List.map_append]
        have := ints_snoc (k := 0 + (i : Int)) (t := t) hy
        simpa using this
      · rw [if_neg hp]
        refine ⟨h', tk', news, rfl, F', N', off, hS, ih (i + 1) _ (by omega) ?_⟩
        rw [step, if_neg hp, List.append_nil]
        exact hy
  exact key n 0 [] (by lia) (by simp only [List.range_zero, List.filter_nil, List.map_nil]; exact .nil)
structure JT (v : Tok → Value) (h₀ : Heap) (L : Addr) (m : Str → Option Value) (news : List (Addr × Obj)) (s : Shared) (r : Value) (s' : Shared) : Prop where
  out : ∃ t, r = v t
  here : KJoinAt h₀ L m news s s'
theorem joinT (v : Tok → Value) {M : Model} {A : Around} {E : Value → Shared → Prop} {s : Shared} {h₀ : Heap} {L : Addr} {m : Str → Option Value} {news : List (Addr × Obj)} {tree : Sem Value} {Q : Value → Shared → Prop}
    (_F : Fr h₀ L s.heap m) (_N : News h₀ L s.heap news)
    (h : wpAny M A tree (fun r s₂ => JT v h₀ L m news s r s₂) E s)
    (k : ∀ t h tk, Fr h₀ L h m → News h₀ L h news → Q (v t) { s with heap := h, toks := tk }) : wpAny M A tree Q E s := by
  refine wpAny_mono h (fun r s₂ q => ?_) fun _ _ x => x
  obtain ⟨⟨t, rfl⟩, ⟨h', tk', rfl, F', N'⟩⟩ := q
  exact k t h' tk' F' N'
end Mine
end
section
open PySem PySem.W PySem.Calls PyProof.Rows PySem.Builtin.Str PySem.StrLaws
set_option maxRecDepth 100000
namespace Mine
noncomputable def lsizes (r : List Nat) : List Nat := (List.range (r.length + 1)).filter fun i => isNum (r.take i)
noncomputable def lnumR (r : List Nat) : Int × Option Int :=
  match (lsizes r).getLast? with
  | none => (0, some 0)
  | some k => (if (r.drop k).all blk then 2 else 1, if digs (unsg (r.take k)) then withinF (valP (r.take k)) else none)
noncomputable def lrest (x : Str) : List Nat := (co x).drop (nF x).toNat
noncomputable def lnum (x : Str) : Int × Option Int := lnumR (lrest x)
theorem item_last {prog : Program} {w : World} {A : Around} {E : Value → Shared → Prop} {s : Shared} {value slice : Expr} {l : Addr} {vs : List Value} {ns : List Int} {u : Tok} {kk : Int} {Q : Value → Shared → Prop} (hl : s.heap.IsList l vs.toArray) (hi : IntsAre vs ns)
    (h1 : 0 < ns.length) (hg : ns.getD (ns.length - 1) 0 = kk) (h : ∀ t, Q (.int kk t) s)
    (hs : subscripted slice false (.ref l) (.int (-1) u) = operate [.ref l, .int (-1) u] (getItem (.ref l) (.int (-1) u)) := by with_unfolding_all rfl) (hgo : ∀ r, letTemporaryGo value (.ref l) r = pure () := by intro _; with_unfolding_all rfl) :
    wpAny (model prog w) A (subscriptTail value slice (.ref l) (.int (-1) u)) Q E s := by
  refine item_list_ints_neg hl hi (by decide) (by omega) (by decide) (fun t => ?_) hs hgo
  have e : ((-1 : Int) + ns.length).toNat = ns.length - 1 := by omega
  rw [e, hg]
  exact h t
theorem eq_ints_ff {prog : Program} {w : World} {A : Around} {E : Value → Shared → Prop} {s : Shared} {a b : Addr} {vs : List Value} {ns : List Int} {Q : Value → Shared → Prop} (hl : s.heap.IsList a vs.toArray) (hb : s.heap.IsList b ([] : List Value).toArray) (hi : IntsAre vs ns)
    (h1 : 0 < ns.length) (hu : A.units + 64 < cLine) (h : Q (.bool false) s) : wpAny (model prog w) A (compareOp .Eq (.ref a) (.ref b)) Q E s := by
  refine EqBoolInt.of_rc (SeqAt.RcAt.lists_lengths hl hb ?_ (by omega)) h
  have := hi.length
  simp
  intro hc
  rw [hc] at this
  simp at this
  omega
theorem last_cases {r : List Nat} {n : Nat} {zs : List Int} (hn : n = r.length + 1) (hz : zs = ((List.range n).filter fun i => isNum (r.take i)).map fun (i : Nat) => (i : Int)) :
    (zs = [] ∧ lnumR r = (0, some 0)) ∨ ∃ k : Nat, 0 < zs.length ∧ zs.getD (zs.length - 1) 0 = (k : Int) ∧ k ≤ r.length ∧
      lnumR r = (if (r.drop k).all blk then 2 else 1, if digs (unsg (r.take k)) then withinF (valP (r.take k)) else none) := by
  subst hn
  change zs = (lsizes r).map _ at hz
  cases hl : (lsizes r).getLast? with
  | none =>
    left
    refine ⟨?_, by unfold lnumR; rw [hl]⟩
    rw [List.getLast?_eq_none_iff] at hl
    rw [hz, hl]; rfl
  | some k =>
    right
    have hm := List.mem_of_getLast? hl
    have hk : k < r.length + 1 := by
      unfold lsizes at hm
      rw [List.mem_filter, List.mem_range] at hm
      exact hm.1
    refine ⟨k, ?_, ?_, by omega, by unfold lnumR; rw [hl]⟩
    · rw [hz, List.length_map]; exact List.length_pos_of_mem hm
    · rw [List.getLast?_eq_getElem?] at hl
      rw [hz, List.length_map, List.getD_eq_getElem?_getD, List.getElem?_map, hl]
      rfl
theorem ud_3 {l : List Nat} (h : digs (co (ofL l)) = true) : l.all dig = true := by rw [co_ofL] at h; exact digs_all h
theorem num_take {x : Str} {i : Nat} : isNum (co (Txt.slice (Txt.slice x (some (nF x)) none) none (some (0 + (i : Int))))) = isNum (((co x).drop (nF x).toNat).take i) := by
  rw [co_slice_ns _ (by omega), co_slice_sn x (nF_ge x)]
  have e : (0 + (i : Int)).toNat = i := by lia
  rw [e]
section
variable {x : Str} {k : Nat}
theorem co_num : co (Txt.slice (Txt.slice x (some (nF x)) none) none (some (k : Int))) = (lrest x).take k := by
  rw [co_slice_ns _ (by omega), co_slice_sn x (nF_ge x)]; rfl
theorem co_tail : co (Txt.slice (Txt.slice x (some (nF x)) none) (some (k : Int)) none) = (lrest x).drop k := by
  rw [co_slice_sn _ (by omega), co_slice_sn x (nF_ge x)]; rfl
theorem ln_1 {v : Int} (h : lnumR ((co x).drop (nF x).toNat) = (if (((co x).drop (nF x).toNat).drop k).all blk then 2 else 1, if digs (unsg (((co x).drop (nF x).toNat).take k)) then withinF (valP (((co x).drop (nF x).toNat).take k)) else none))
    (hb : (v = 2 ∧ (co (Txt.slice (Txt.slice x (some (nF x)) none) (some (k : Int)) none)).all blk = true) ∨ (v = 1 ∧ (co (Txt.slice (Txt.slice x (some (nF x)) none) (some (k : Int)) none)).all blk = false)) : v = (lnum x).1 := by
  unfold lnum lrest; rw [h]
  rw [co_tail] at hb
  unfold lrest at hb
  rcases hb with ⟨rfl, h2⟩ | ⟨rfl, h2⟩
  · simp only [h2, if_true]
  · simp only [h2, Bool.false_eq_true, if_false]
theorem ln_2a {t : Tok} (h : lnumR ((co x).drop (nF x).toNat) = (if (((co x).drop (nF x).toNat).drop k).all blk then 2 else 1, if digs (unsg (((co x).drop (nF x).toNat).take k)) then withinF (valP (((co x).drop (nF x).toNat).take k)) else none))
    (hd : digs (co (ofL (unsg (co (Txt.slice (Txt.slice x (some (nF x)) none) none (some (k : Int))))))) = true) :
    optV (withinF (valP (co (Txt.slice (Txt.slice x (some (nF x)) none) none (some (k : Int)))))) t = optV (lnum x).2 t := by
  unfold lnum; rw [lrest, h]
  rw [co_ofL, co_num] at hd
  rw [co_num]
  unfold lrest at hd ⊢
  simp only [hd, if_true]
theorem ln_2b {t : Tok} (h : lnumR ((co x).drop (nF x).toNat) = (if (((co x).drop (nF x).toNat).drop k).all blk then 2 else 1, if digs (unsg (((co x).drop (nF x).toNat).take k)) then withinF (valP (((co x).drop (nF x).toNat).take k)) else none))
    (hd : digs (co (ofL (unsg (co (Txt.slice (Txt.slice x (some (nF x)) none) none (some (k : Int))))))) = false) :
    Value.none = optV (lnum x).2 t := by
  unfold lnum; rw [lrest, h]
  rw [co_ofL, co_num] at hd
  unfold lrest at hd
  simp only [hd, Bool.false_eq_true, if_false]
  rfl
theorem ln_0 (h : lnumR ((co x).drop (nF x).toNat) = (0, some 0)) : lnum x = (0, some 0) := h
end
end Mine
end
section
open PySem PySem.W PySem.Calls PyProof.Rows
set_option maxRecDepth 100000
set_option maxHeartbeats 20000000
namespace Mine
theorem law_numeric_con (w : World) (x : Str) (tx : Tok) (hx : x.length < 64) :
   ConT w 201 [.str x tx] 18 (fun t => .int (lnum x).1 t) (fun t => optV (lnum x).2 t) := by
  unfold ConT
  intro mean mg mb dp un gd cn cs a ccd cl outer A₀ base h₀ L m news s Q E B F X N T hk hd hu hret
  k_with_none
  k_with "len9" => first | (first | (simp only [Str.length_append]; omega) | (refine Nat.lt_of_le_of_lt (unsgL _) ?_; omega)) | fail "next"
  k_with "dig9" => first | ((refine ud_3 ?_; with_reducible assumption)) | fail "next"
  k_with "call ref" => first | ((k_here; k_dflt (refine' useP (law_is_digits_con _ _ _ ?c0q7) ?k1q7 ?k2q7 ?k3q7 ?k4q7 ?k5q7 ?kKq7 ?kdq7 ?kuq7 ?_; (case k1q7 => k_asm); (case k2q7 => k_asm); (case k3q7 => k_asm); (case k4q7 => k_asm); (case k5q7 => k_asm); (case kKq7 => first | exact rfl | assumption); (case kdq7 => first | exact room1 (by with_reducible assumption) (by exact rfl) (by exact rfl) | ktr_room); (case kuq7 => first | exact units3 (by with_reducible assumption) (by exact rfl) (by exact rfl) | ktr_units); (case c0q7 => first | with_reducible assumption | omega | walk_at "len9"); k_whole; (intro tz hz tkz gz Fz Nz; (try dsimp only); (try k_fold))))) | fail "next"
  k_with "call ref" => first | ((k_here; k_dflt (refine' useP (law_is_blank_con _ _ _ ?c0q7) ?k1q7 ?k2q7 ?k3q7 ?k4q7 ?k5q7 ?kKq7 ?kdq7 ?kuq7 ?_; (case k1q7 => k_asm); (case k2q7 => k_asm); (case k3q7 => k_asm); (case k4q7 => k_asm); (case k5q7 => k_asm); (case kKq7 => first | exact rfl | assumption); (case kdq7 => first | exact room1 (by with_reducible assumption) (by exact rfl) (by exact rfl) | ktr_room); (case kuq7 => first | exact units3 (by with_reducible assumption) (by exact rfl) (by exact rfl) | ktr_units); (case c0q7 => first | with_reducible assumption | omega | walk_at "len9"); k_whole; (intro tz hz tkz gz Fz Nz; (try dsimp only); (try k_fold))))) | fail "next"
  k_with "call ref" => first | ((k_here; k_dflt (refine' useP (law_is_number_con _ _ _ ?c0q7) ?k1q7 ?k2q7 ?k3q7 ?k4q7 ?k5q7 ?kKq7 ?kdq7 ?kuq7 ?_; (case k1q7 => k_asm); (case k2q7 => k_asm); (case k3q7 => k_asm); (case k4q7 => k_asm); (case k5q7 => k_asm); (case kKq7 => first | exact rfl | assumption); (case kdq7 => first | exact room1 (by with_reducible assumption) (by exact rfl) (by exact rfl) | ktr_room); (case kuq7 => first | exact units3 (by with_reducible assumption) (by exact rfl) (by exact rfl) | ktr_units); (case c0q7 => first | with_reducible assumption | omega | walk_at "len9"); k_whole; (intro tz hz tkz gz Fz Nz; (try dsimp only); (try k_fold))))) | fail "next"
  k_with "call ref" => first | ((k_here; k_dflt (refine' useP (law_unsigned_con _ _ _ ?c0q7) ?k1q7 ?k2q7 ?k3q7 ?k4q7 ?k5q7 ?kKq7 ?kdq7 ?kuq7 ?_; (case k1q7 => k_asm); (case k2q7 => k_asm); (case k3q7 => k_asm); (case k4q7 => k_asm); (case k5q7 => k_asm); (case kKq7 => first | exact rfl | assumption); (case kdq7 => first | exact room1 (by with_reducible assumption) (by exact rfl) (by exact rfl) | ktr_room); (case kuq7 => first | exact units3 (by with_reducible assumption) (by exact rfl) (by exact rfl) | ktr_units); (case c0q7 => first | with_reducible assumption | omega | walk_at "len9"); k_whole; (intro tz hz tkz gz Fz Nz; (try dsimp only); (try k_fold))))) | fail "next"
  k_with "call ref" => first | ((k_here; k_dflt (refine' useP (law_value_con _ _ _ ?c0q7 ?c1q7) ?k1q7 ?k2q7 ?k3q7 ?k4q7 ?k5q7 ?kKq7 ?kdq7 ?kuq7 ?_; (case k1q7 => k_asm); (case k2q7 => k_asm); (case k3q7 => k_asm); (case k4q7 => k_asm); (case k5q7 => k_asm); (case kKq7 => first | exact rfl | assumption); (case kdq7 => first | exact room1 (by with_reducible assumption) (by exact rfl) (by exact rfl) | ktr_room); (case kuq7 => first | exact units3 (by with_reducible assumption) (by exact rfl) (by exact rfl) | ktr_units); (case c0q7 => first | with_reducible assumption | omega | walk_at "len9"); (case c1q7 => walk_at "dig9"); k_whole; (intro tz hz tkz gz Fz Nz; (try dsimp only); (try k_fold))))) | fail "next"
  k_with "call ref" => first | ((k_here; k_dflt (refine' useP (law_within_con _ _ _ ) ?k1q7 ?k2q7 ?k3q7 ?k4q7 ?k5q7 ?kKq7 ?kdq7 ?kuq7 ?_; (case k1q7 => k_asm); (case k2q7 => k_asm); (case k3q7 => k_asm); (case k4q7 => k_asm); (case k5q7 => k_asm); (case kKq7 => first | exact rfl | assumption); (case kdq7 => first | exact room1 (by with_reducible assumption) (by exact rfl) (by exact rfl) | ktr_room); (case kuq7 => first | exact units3 (by with_reducible assumption) (by exact rfl) (by exact rfl) | ktr_units); k_whole; (intro tz hz tkz gz Fz Nz; (try dsimp only); (try k_fold))))) | fail "next"
  k_with "storeName" => first | ((k_here; k_dflt (refine' storeX_C ?Fq7 ?Nq7 ?cq7 ?Uq7 ?dq7 ?_ ?aq7 ?bq7; (case aq7 => rfl); (case bq7 => rfl); (case Fq7 => k_asm); (case Nq7 => k_asm); (case cq7 => rfl); (case Uq7 => exact UpdF.head (neCell (by assumption))); (case dq7 => k_asm); k_whole; intro h' o' F' N' d'; (try dsimp only at N'); (try k_sweep)))) | fail "next"
  k_with "MSTEP" => first | (first | (k_unfold; (try dsimp only)) | (k_end; wrow_close) | walk1 | (dsimp only; walk1) | (leave1; walk_say "STEP leave1"; try dsimp only) | fail "no step") | fail "next"
  k_with "CompSrcT" => first | ((k_here; k_dflt (refine LCt.CompSrcT.range (by rfl) (by k_asm) (by k_asm) (by assumption) (by first | decide | exact small_one (by omega) (by omega) (by omega) (by omega)) (by first | exact rangeSize_nat _ _ | rfl) (by first | exact Nat.le_of_ble_eq_true rfl | (rw [PySem.sizeLine_eq]; omega) | size_fits) ?_; intro g'))) | fail "next"
  k_with "subscriptTail Name UnaryOp ref int" => first | ((k_here; (with_unfolding_all refine' item_last ?k1q7 ?k2q7 ?k3q7 ?k4q7 ?_ ?k5q7 ?k6q7; (case k1q7 => is_list); (case k2q7 => assumption); (case k3q7 => assumption); (case k4q7 => assumption); (case k5q7 => with_unfolding_all rfl); (case k6q7 => intro _; with_unfolding_all rfl); k_whole); intro _)) | fail "next"
  k_with "compareOp Eq ref ref" => first | ((k_here; k_dflt (refine eq_ints_ff (by is_list) (by is_list) (by assumption) (by assumption) (by ke_room) ?_))) | fail "next"
  k_with "exec While BoolOp cons nil" => k_while (fun _ j => 0 ≤ j ∧ pEnd blk x j = pEnd blk x 0) (fun _ j => (x.length - j).toNat) "first"
  k_with "state" => first | exact ⟨Int.le_refl _, rfl⟩ | exact nTurn (by assumption) (by assumption) (by assumption) (by assumption)
  refine wpAny_call ?_
  k_dflt (refine' code_defC ?k1 ?k2 ?k3 ?k4 ?k5 ?kA ?kF ?kK ?k6 ?k7 ?k8 ?k9 ?kB ?kD ?_ ?c2 ?c3 ?c4; (case kA => exact rfl); (case kF => exact rfl); (case kK => assumption); (case k1 => k_asm); (case k2 => k_asm); (case k3 => k_asm); (case k4 => k_asm); (case k5 => k_asm); (case k6 => k_is); (case k7 => k_is); (case k8 => ktr_room); (case k9 => exact BindsTo.of_eq rfl); (case kB => exact rfl); (case kD => decide +kernel); (case c2 => exact rfl); (case c3 => exact rfl); (case c4 => exact rfl); k_whole; intro g' L' h' tk' cells' FG' F' N' Y' B' X' T' l1; (try k_lt l1); k_cells Y'; (try simp only [List.cons_append, List.nil_append] at N'); (try dsimp only); (try k_lift B'); (try k_fold))
  repeat' ((fail_if_success (with_reducible show wpAny _ _ (isTrue (PySem.Expr.BoolOp _ _ _) _ _) _ _ _)); walk_at "MSTEP")
  (rename Int => j9); (rename Fr _ _ _ _ => F9); (rename News _ _ _ _ => N9)
  refine joinV (atIs blk x j9) F9 N9 ?_ ?_
  · k_steps
    · exact ⟨(blk_item (by assumption) (by assumption)).symm.trans (by assumption) |>.symm, ⟨⟨_, _, rfl, by assumption, by first | assumption | (refine' cb_drop ?cbN ?cbS; (case cbN => assumption); (case cbS => kcj_all))⟩⟩⟩
    · exact ⟨(blk_item (by assumption) (by assumption)).symm.trans (by assumption) |>.symm, ⟨⟨_, _, rfl, by assumption, by first | assumption | (refine' cb_drop ?cbN ?cbS; (case cbN => assumption); (case cbS => kcj_all))⟩⟩⟩
    · exact ⟨(atIs_out (by assumption)).symm, ⟨⟨_, _, rfl, by assumption, by first | assumption | (refine' cb_drop ?cbN ?cbS; (case cbN => assumption); (case cbS => kcj_all))⟩⟩⟩
  intro h7 tk7 F7 N7
  clear F9 N9
  cases hb9 : atIs blk x j9
  case true =>
    (try simp only [if_true])
    have hl9 := atIs_lt (by assumption) hb9
    k_with "state" => exact ⟨by omega, (pEnd_step (by assumption) (by assumption)).trans (by assumption)⟩
    k_steps
  case false =>
    (try simp only [Bool.false_eq_true, if_false])
    have e9 := nStop (x := x) (by assumption) hb9 (by assumption)
    repeat' ((fail_if_success (with_reducible show wpAny _ _ (exec (Stmt.Assign _ (PySem.Expr.ListComp _ _ _ _) _) _) _ _ _)); walk_at "MSTEP")
    subst e9
    have hr9 : (Txt.slice x (some (nF x)) none).length ≤ x.length := by assumption
    k_here
    k_dflt (refine LCt.Assign_ListComp_T (F₀ := by k_asm) (by rfl) (by with_unfolding_all rfl) (by with_unfolding_all rfl) (by decide) (by rfl) (by decide) (by rfl) (by rfl) (by rfl) ?_)
    k_dflt lct_toSrc
    refine lct_filter (fun i => isNum (((co x).drop (nF x).toNat).take i)) trivial ?turn ?item ?fin
    case turn =>
      intro i9 t9 I9 oI9 C9 oC9 D9 m9 ys9 h9 tk9 E9 hi9 hC9 hx9 F9 N9 off9 ne9
      (try simp only [LCg.Off3, and_true] at off9)
      clear kFacts
      k_steps
      refine ⟨num_take, ⟨⟨_, _, rfl, by assumption, by first | assumption | (refine' cb_drop ?cbN ?cbS; (case cbN => assumption); (case cbS => kcj_all))⟩⟩⟩
    case item =>
      intro i9 t9 I9 oI9 C9 oC9 D9 m9 ys9 h9 tk9 E9 hi9 hC9 hx9 F9 N9 off9 ne9
      (try simp only [LCg.Off3, and_true] at off9)
      k_steps
      refine ⟨rfl, ⟨⟨_, _, rfl, by assumption, by first | assumption | (refine' cb_drop ?cbN ?cbS; (case cbN => assumption); (case cbS => kcj_all))⟩⟩⟩
    case fin =>
      have hn9 : ((((Txt.slice x (some (nF x)) none).length : Int) + 1) - 0).toNat = ((co x).drop (nF x).toNat).length + 1 := by rw [← co_len, co_slice_sn x (nF_ge x)]; omega
      intro ys9 hy9
      obtain ⟨zs9, hz9⟩ : ∃ zs9 : List Int, zs9 = ((List.range ((((Txt.slice x (some (nF x)) none).length : Int) + 1) - 0).toNat).filter fun i => isNum (((co x).drop (nF x).toNat).take i)).map fun (i : Nat) => (i : Int) := ⟨_, rfl⟩
      rw [← hz9] at hy9
      rcases last_cases hn9 hz9 with ⟨e9, ha9⟩ | ⟨k9, hp9, hg9, hk9, ha9⟩
      · subst e9
        clear hz9
        cases hy9
        k_steps
        exact retT hret _ _ (by k_asm) (by assumption) (by k_mem) (by kcj_all) (by first | ktn_lt | exact And.right (by assumption) | exact (And.right (And.right (And.right (by assumption)))) | exact (And.right (And.right (by assumption)))) (congrArg (Value.int · _) (by rw [ln_0 ha9])) (optV_some (by rw [ln_0 ha9]))
      · clear hz9
        have hr9' : ((co x).drop (nF x).toNat).length = (Txt.slice x (some (nF x)) none).length := by rw [← co_len, co_slice_sn x (nF_ge x)]
        repeat' ((fail_if_success (with_reducible show wpAny _ _ (eval (PySem.Expr.IfExp _ _ _ _) _) _ _ _)); walk_at "MSTEP")
        (rename Fr _ _ _ _ => F8); (rename News _ _ _ _ => N8)
        refine joinT (fun t => optV (lnum x).2 t) F8 N8 ?_ ?_
        · k_steps
          all_goals first
            | exact ⟨⟨_, ln_2a ha9 (by with_reducible assumption)⟩, ⟨⟨_, _, rfl, by assumption, (by first | k_asm | (refine' cb_drop ?cbN ?cbS; (case cbN => assumption); (case cbS => kcj_all)))⟩⟩⟩
            | exact ⟨⟨0, ln_2b ha9 (by with_reducible assumption)⟩, ⟨⟨_, _, rfl, by assumption, (by first | k_asm | (refine' cb_drop ?cbN ?cbS; (case cbN => assumption); (case cbS => kcj_all)))⟩⟩⟩
        intro t7 h7 tk7 F7 N7
        clear F8 N8
        (try dsimp only)
        repeat' ((fail_if_success (with_reducible show wpAny _ _ (eval (PySem.Expr.IfExp _ _ _ _) _) _ _ _)); walk_at "MSTEP")
        (rename Fr _ _ _ _ => F8); (rename News _ _ _ _ => N8)
        refine joinT (fun t => .int (lnum x).1 t) F8 N8 ?_ ?_
        · k_steps
          all_goals
            have e1 : _ = (lnum x).1 := ln_1 ha9 (by first | exact Or.inl ⟨rfl, by with_reducible assumption⟩ | exact Or.inr ⟨rfl, by with_reducible assumption⟩)
            exact ⟨⟨_, congrArg (Value.int · _) e1⟩, ⟨⟨_, _, rfl, by assumption, (by first | k_asm | (refine' cb_drop ?cbN ?cbS; (case cbN => assumption); (case cbS => kcj_all)))⟩⟩⟩
        intro t6 h6 tk6 F6 N6
        clear F8 N8
        (try dsimp only)
        k_steps
        exact retT hret _ _ (by k_asm) (by assumption) (by k_mem) (by kcj_all) (by first | ktn_lt | exact And.right (And.right (And.right (by assumption))) | exact And.right (And.right (by assumption)) | exact And.right (by assumption)) rfl rfl
end Mine
end
section
open PySem PySem.W PySem.Calls PyProof.Rows PySem.Builtin.Str PySem.StrLaws
set_option maxRecDepth 100000
namespace Mine
noncomputable def optD (o : Option Int) : PyData := match o with | some n => .int n | none => .none
theorem reads_opt {h : Heap} (o : Option Int) (t : Tok) : ∃ as, Reads h (optV o t) (optD o) as := by
  cases o with
  | none => exact ⟨_, .none⟩
  | some n => exact ⟨_, .int n t⟩
theorem opt_eqv (a : Int) (o : Option Int) : PyData.eqv (.tuple [.int a, optD o]) (.tuple [.int a, optD o]) = true := by
  cases o <;> simp [PyData.eqv, PyData.eqvAll, optD]
theorem opt_shaped (a : Int) (o : Option Int) : SeqAt.shaped (.tuple [.int a, optD o]) = true := by
  cases o <;> simp [SeqAt.shaped, PyData.canLay0, PyData.canLayAll0, PyData.depth, PyData.depthAll, optD]
section
variable {prog : Program} {w : World} {A : Around} {E : Value → Shared → Prop} {s : Shared} {h₀ : Heap} {L : Addr} {news : List (Addr × Obj)} {D1 D2 : Addr} {a : Int} {o : Option Int} {t u t' u' : Tok} {Q : Value → Shared → Prop}
theorem eq_pairs (N : News h₀ L s.heap news) (m1 : (D1, ({ cls := .type "tuple", data := .seq #[.int a t, optV o u] } : Obj)) ∈ news) (m2 : (D2, ({ cls := .type "tuple", data := .seq #[.int a t', optV o u'] } : Obj)) ∈ news)
    (hu : A.units + 64 < cLine) (h : Q (.bool true) s) : wpAny (model prog w) A (compareOp .Eq (.ref D1) (.ref D2)) Q E s := by
  obtain ⟨_, r1⟩ := reads_opt (h := s.heap) o u
  obtain ⟨_, r2⟩ := reads_opt (h := s.heap) o u'
  refine eq_dataH (reads_tuple_at (N _ m1).1 rfl rfl (.cons (.int a t) (.cons r1 .nil))) (reads_tuple_at (N _ m2).1 rfl rfl (.cons (.int a t') (.cons r2 .nil))) (opt_shaped a o) (opt_shaped a o) hu ?_
  rw [opt_eqv]
  exact h
theorem eq_opt (h : Q (.bool true) s) : wpAny (model prog w) A (compareOp .Eq (optV o t) (optV o t')) Q E s := by
  cases o with
  | none => exact EqBoolInt.of_rc SeqAt.RcAt.none_none h
  | some n => exact EqBoolInt.of_rc (SeqAt.RcAt.int_int n t n t') (by rw [beq_self_eq_true]; exact h)
end
theorem useS {w : World} {f : Addr} {vs : List Value} {nd : Nat} {v : Tok → Value} (C : ConS w f vs nd v)
    {mean : ExcName → Option Value} {mg mb : Str → Option Value} {dp un : Nat} {gd : Option (List Code)} {cn : Str} {cs : Scope} {a : Addr} {ccd : Value} {outer : List Env} {A₀ : Around} {base g₀ h₀ : Heap} {L : Addr} {m : Str → Option Value} {news : List (Addr × Obj)} {s : Shared} {Q E : Value → Shared → Prop}
    (B : Below A₀ base outer h₀) (F : Fr h₀ L s.heap m) (X : (hK w.params).In h₀) (N : News h₀ L s.heap news) (T : Top hd.view_39 (looseW hd.view_39 []) mean mg mb h₀)
    (XB : (hK w.params).In base) (TB : Top hd.view_39 (looseW hd.view_39 []) mean mg mb base) (D : KtsDicts (outer.filterMap (·.frame)) h₀) (T0 : KtsTurn (outer.filterMap (·.frame)) g₀ h₀) (hk : cs.kind = .function)
    (hdp : dp + nd < recursionLimit) (hu : un + 8 * nd < cLine)
    (ret : ∀ t h₀' h' tk', KtsTurn (outer.filterMap (·.frame)) g₀ h₀' → Fr h₀' L h' m → News h₀' L h' news → Below A₀ base outer h₀' → (hK w.params).In h₀' → Top hd.view_39 (looseW hd.view_39 []) mean mg mb h₀' → KtsDicts (outer.filterMap (·.frame)) h₀' → Q (v t) { s with heap := h', toks := tk' }) :
    wpAny (model PySem.Challenge.rw_pc0241_01.row.prog w) (ktrTop dp un gd cn cs L a ccd [] outer) (call (.ref f) vs) Q E s :=
  C _ _ _ _ _ _ _ _ _ _ _ _ _ _ _ _ _ _ _ _ _ B F X N T XB TB D T0 hk hdp hu ret
end Mine
end
section
open PySem PySem.W PySem.Calls PyProof.Rows PySem.Builtin.Str PySem.StrLaws
set_option maxRecDepth 100000
namespace Mine
/-! places and what stands behind them -/
abbrev Rr (x : Str) (k : Int) : List Nat := (co x).drop k.toNat
noncomputable def hd? (p : Nat → Bool) : List Nat → Bool
  | c :: _ => p c
  | [] => false
theorem atIs_R {p : Nat → Bool} {x : Str} {k : Int} : atIs p x k = hd? p (Rr x k) := by
  unfold atIs Rr
  rw [← List.head?_drop]
  cases (co x).drop k.toNat <;> rfl
theorem R_end {p : Nat → Bool} {x : Str} {k : Int} (h0 : 0 ≤ k) : Rr x (pEnd p x k) = (Rr x k).dropWhile p := by
  unfold Rr pEnd
  have e : (k + (((co x).drop k.toNat).takeWhile p).length).toNat = k.toNat + (((co x).drop k.toNat).takeWhile p).length := by lia
  rw [e, ← List.drop_drop]
  generalize (co x).drop k.toNat = l
  induction l with
  | nil => rfl
  | cons c r ih =>
    rw [List.takeWhile_cons, List.dropWhile_cons]
    split
    · rw [List.length_cons, List.drop_succ_cons]; exact ih
    · rfl
theorem R_succ {x : Str} {k : Int} (h0 : 0 ≤ k) : Rr x (k + 1) = (Rr x k).drop 1 := by
  unfold Rr
  rw [List.drop_drop]
  congr 1
  lia
theorem R_len {x : Str} {k : Int} (h0 : 0 ≤ k) (h1 : k ≤ x.length) : ((Rr x k).length : Int) = x.length - k := by
  unfold Rr
  rw [List.length_drop, co_len]
  omega
theorem R_sgn {x : Str} {k : Int} (h0 : 0 ≤ k) : Rr x (if atIs sgn x k then k + 1 else k) = unsg (Rr x k) := by
  rw [atIs_R]
  cases e : Rr x k with
  | nil => rw [if_neg (by simp [hd?]), e]; rfl
  | cons c t =>
    rw [unsg_cons]
    show Rr x (if sgn c = true then k + 1 else k) = _
    split
    · rw [R_succ h0, e]; rfl
    · exact e
noncomputable def expo (l : List Nat) : List Nat :=
  if hd? isE l then (if hd? dig (unsg (l.drop 1)) then (unsg (l.drop 1)).dropWhile dig else l) else l
theorem R_expo {x : Str} {k : Int} (h0 : 0 ≤ k) : Rr x (eEnd x k) = expo (Rr x k) := by
  unfold eEnd expo
  rw [atIs_R]
  cases he : hd? isE (Rr x k) with
  | false => simp
  | true =>
    simp only [if_true]
    have h2 := R_sgn (x := x) (k := k + 1) (by omega)
    rw [R_succ h0] at h2
    rw [← h2]
    cases hs : atIs sgn x (k + 1) with
    | true =>
      simp only [if_true]
      rw [atIs_R]
      split
      · rw [R_end (by omega)]
      · rfl
    | false =>
      simp only [Bool.false_eq_true, if_false]
      rw [atIs_R]
      split
      · rw [R_end (by omega)]
      · rfl
theorem eEnd_le {x : Str} {k : Int} (h0 : 0 ≤ k) (h1 : k ≤ x.length) : eEnd x k ≤ x.length := by
  unfold eEnd
  split
  · rename_i h
    have h2 := atIs_lt h0 h
    split
    · rename_i h3
      have h4 := atIs_lt (by omega) h3
      split
      · exact pEnd_le (by omega) (by omega)
      · exact h1
    · split
      · exact pEnd_le (by omega) (by omega)
      · exact h1
  · exact h1
/-! numeric's reading by what stands behind the blanks -/
noncomputable def gD (r : List Nat) : List Nat := (unsg r).takeWhile dig
noncomputable def gA (r : List Nat) : List Nat := (unsg r).dropWhile dig
noncomputable def gPt (r : List Nat) : Bool := hd? (· == 46) (gA r) && (!(gD r).isEmpty || hd? dig ((gA r).drop 1))
noncomputable def gA2 (r : List Nat) : List Nat := if gPt r then ((gA r).drop 1).dropWhile dig else gA r
noncomputable def gA3 (r : List Nat) : List Nat := expo (gA2 r)
noncomputable def numL (r : List Nat) : Int × Option Int :=
  if (gD r).isEmpty = true ∧ gPt r = false then (0, some 0)
  else (if (gA3 r).all blk then 2 else 1, if (gA3 r).length = (gA r).length then signedF (hd? (· == 45) r) (sat (dv (gD r))) else none)
section
variable (x : Str)
theorem R_nS : Rr x (nS x) = unsg (Rr x (nF x)) := R_sgn (nF_ge x)
theorem nS_ge0 : 0 ≤ nS x := by have := nF_ge x; have := nS_ge x; omega
theorem nB_ge0 : 0 ≤ nB x := by have := nS_ge0 x; have := nB_ge x; omega
theorem R_nB : Rr x (nB x) = gA (Rr x (nF x)) := by unfold nB gA; rw [R_end (nS_ge0 x), R_nS]
theorem nB_nS : nB x - nS x = (gD (Rr x (nF x))).length := by
  unfold nB gD
  rw [← R_nS]
  unfold pEnd Rr
  lia
theorem nPt_g : nPt x = gPt (Rr x (nF x)) := by
  unfold nPt gPt
  rw [atIs_R, atIs_R, R_succ (nB_ge0 x), R_nB]
  congr 2
  have := nB_nS x
  cases h : gD (Rr x (nF x)) with
  | nil => rw [h] at this; simp at this; simp; omega
  | cons c t => rw [h] at this; simp at this; simp; omega
theorem nFar0_ge0 : 0 ≤ nFar0 x := by have := nB_ge0 x; have := nFar0_ge x; omega
theorem R_nFar0 : Rr x (nFar0 x) = gA2 (Rr x (nF x)) := by
  unfold nFar0 gA2
  rw [nPt_g]
  split
  · rw [R_end (by have := nB_ge0 x; omega), R_succ (nB_ge0 x), R_nB]
  · exact R_nB x
theorem nFar0_le : nFar0 x ≤ x.length := by
  unfold nFar0
  split
  · rename_i h
    have h2 : atIs (· == 46) x (nB x) = true := by unfold nPt at h; rw [Bool.and_eq_true] at h; exact h.1
    have := atIs_lt (nB_ge0 x) h2
    exact pEnd_le (by have := nB_ge0 x; omega) (by omega)
  · exact nB_le x
theorem nFar_ge0 : 0 ≤ nFar x := by have := nFar0_ge0 x; have := eEnd_ge x (nFar0 x); unfold nFar; omega
theorem nFar_le : nFar x ≤ x.length := eEnd_le (nFar0_ge0 x) (nFar0_le x)
theorem R_nFar : Rr x (nFar x) = gA3 (Rr x (nF x)) := by unfold nFar gA3; rw [R_expo (nFar0_ge0 x), R_nFar0]
theorem dropWhile_nil_iff (p : Nat → Bool) (l : List Nat) : l.dropWhile p = [] ↔ l.all p = true := by
  induction l with
  | nil => simp
  | cons c r ih =>
    rw [List.dropWhile_cons, List.all_cons]
    cases p c <;> simp
    simpa using ih
theorem end_all {p : Nat → Bool} {k : Int} (h0 : 0 ≤ k) (h1 : k ≤ x.length) : pEnd p x k = x.length ↔ (Rr x k).all p = true := by
  rw [← dropWhile_nil_iff, ← R_end h0]
  have h2 := R_len (x := x) (k := pEnd p x k) (by have := pEnd_ge p x k; omega) (pEnd_le h0 h1)
  constructor
  · intro h
    rw [h] at h2 ⊢
    exact List.eq_nil_of_length_eq_zero (by lia)
  · intro h
    rw [h] at h2
    simp at h2
    lia
theorem seg_D : seg x (nS x) (nB x) = gD (Rr x (nF x)) := by
  unfold seg
  rw [nB_nS]
  have e : (co x).drop (nS x).toNat = unsg (Rr x (nF x)) := R_nS x
  rw [e]
  unfold gD
  rw [Int.toNat_natCast]
  exact (List.prefix_iff_eq_take.mp (List.takeWhile_prefix dig)).symm
theorem numP_L : numP x = numL (Rr x (nF x)) := by
  unfold numP numL
  have c1 : (nB x = nS x ∧ nPt x = false) ↔ ((gD (Rr x (nF x))).isEmpty = true ∧ gPt (Rr x (nF x)) = false) := by
    rw [nPt_g, List.isEmpty_iff]
    have := nB_nS x
    constructor
    · rintro ⟨h1, h2⟩; exact ⟨List.eq_nil_of_length_eq_zero (by omega), h2⟩
    · rintro ⟨h1, h2⟩; rw [h1] at this; simp at this; exact ⟨by lia, h2⟩
  have c2 : pEnd blk x (nFar x) = x.length ↔ (gA3 (Rr x (nF x))).all blk = true := by rw [end_all x (nFar_ge0 x) (nFar_le x), R_nFar]
  have c3 : nFar x = nB x ↔ (gA3 (Rr x (nF x))).length = (gA (Rr x (nF x))).length := by
    rw [← R_nFar, ← R_nB]
    have h1 := R_len (nFar_ge0 x) (nFar_le x)
    have h2 := R_len (nB_ge0 x) (nB_le x)
    omega
  have v : nVal x = if (gA3 (Rr x (nF x))).length = (gA (Rr x (nF x))).length then signedF (hd? (· == 45) (Rr x (nF x))) (sat (dv (gD (Rr x (nF x))))) else none := by
    unfold nVal
    rw [atIs_R, seg_D]
    by_cases h : nFar x = nB x
    · rw [if_pos h, if_pos (c3.mp h)]
    · rw [if_neg h, if_neg (fun q => h (c3.mpr q))]
  rw [v]
  by_cases h1 : nB x = nS x ∧ nPt x = false
  · rw [if_pos h1, if_pos (c1.mp h1)]
  · rw [if_neg h1, if_neg (fun q => h1 (c1.mpr q))]
    by_cases h2 : pEnd blk x (nFar x) = x.length
    · rw [if_pos h2, if_pos (c2.mp h2)]
    · rw [if_neg h2, if_neg (fun q => h2 (c2.mpr q))]
end
end Mine
end
section
open PySem PySem.W PySem.Calls PyProof.Rows PySem.Builtin.Str PySem.StrLaws
set_option maxRecDepth 100000
namespace Mine
/-! the law's grammar: which beginnings are numbers -/
theorem unsg_take (r : List Nat) (i : Nat) : unsg (r.take i) = (unsg r).take (i - (r.length - (unsg r).length)) := by
  cases r with
  | nil => simp [unsg]
  | cons c t =>
    cases i with
    | zero => simp [unsg]
    | succ i =>
      rw [List.take_succ_cons, unsg_cons, unsg_cons]
      split
      · rw [List.length_cons]
        congr 1
        omega
      · rw [List.length_cons, Nat.sub_self, Nat.sub_zero, List.take_succ_cons]
noncomputable def noE (m : List Nat) : Prop := ∀ c ∈ m, isE c = false
theorem findE_pre {m : List Nat} (h : noE m) (c : Nat) (hc : isE c = true) (t : List Nat) : (m ++ c :: t).findIdx isE = m.length := by
  have hl : m.length < (m ++ c :: t).length := by rw [List.length_append, List.length_cons]; omega
  rw [List.findIdx_eq hl]
  constructor
  · rw [List.getElem_append_right (Nat.le_refl _)]; simpa using hc
  · intro j hj
    rw [List.getElem_append_left hj]
    exact h _ (List.getElem_mem hj)
theorem num_E {m : List Nat} (h : noE m) {c : Nat} (hc : isE c = true) (t : List Nat) : isNumB (m ++ c :: t) = (digs (m.erase 46) && digs (unsg t)) := by
  unfold isNumB
  rw [findE_pre h c hc, if_pos (by rw [List.length_append, List.length_cons]; omega), List.take_left]
  congr 3
  rw [← List.drop_drop, List.drop_left]
  rfl
theorem num_N {m : List Nat} (h : noE m) : isNumB m = digs (m.erase 46) := by
  unfold isNumB
  rw [if_neg]
  rw [Nat.not_lt, Nat.le_iff_lt_or_eq]
  right
  exact (List.findIdx_eq_length.mpr fun c hc => by simp [h c hc]).symm
theorem bad_append {m : List Nat} (hb : (m.erase 46).all dig = false) (u : List Nat) : digs ((m ++ u).erase 46) = false := by
  have key : ∀ (m : List Nat), (m.erase 46).all dig = false → ((m ++ u).erase 46).all dig = false := by
    intro m
    induction m with
    | nil => intro h; simp at h
    | cons c r ih =>
      intro h
      rw [List.cons_append, List.erase_cons]
      rw [List.erase_cons] at h
      split
      · rename_i hc
        rw [if_pos hc] at h
        rw [List.all_append, h, Bool.false_and]
      · rename_i hc
        rw [if_neg hc] at h
        rw [List.all_cons] at h ⊢
        cases hd : dig c with
        | false => rfl
        | true => rw [hd, Bool.true_and] at h; rw [ih h]; rfl
  unfold digs
  rw [key m hb, Bool.and_false]
theorem num_bad {m : List Nat} (h : noE m) (hb : (m.erase 46).all dig = false) (u : List Nat) : isNumB (m ++ u) = false := by
  by_cases he : noE u
  · rw [num_N (m := m ++ u) (fun c hc => (List.mem_append.mp hc).elim (h c) (he c))]
    exact bad_append hb u
  · have : ∃ p c t, u = p ++ c :: t ∧ noE p ∧ isE c = true := by
      clear h hb
      induction u with
      | nil => exact absurd (fun c hc => by cases hc) he
      | cons d r ih =>
        cases hd : isE d with
        | true => exact ⟨[], d, r, rfl, (fun c hc => by cases hc), hd⟩
        | false =>
          have : ¬ noE r := fun hr => he fun c hc => by
            rcases List.mem_cons.mp hc with rfl | hc
            · exact hd
            · exact hr c hc
          obtain ⟨p, c, t, rfl, hp, hc⟩ := ih this
          refine ⟨d :: p, c, t, rfl, fun e he => ?_, hc⟩
          rcases List.mem_cons.mp he with rfl | he
          · exact hd
          · exact hp e he
    obtain ⟨p, c, t, rfl, hp, hc⟩ := this
    rw [← List.append_assoc, num_E (m := m ++ p) (fun e he => (List.mem_append.mp he).elim (h e) (hp e)) hc, bad_append hb p, Bool.false_and]
theorem noE_dig {m : List Nat} (h : m.all dig = true) : noE m := by
  intro c hc
  have := List.all_eq_true.mp h c hc
  unfold dig at this
  unfold isE
  simp only [Bool.and_eq_true, decide_eq_true_eq] at this
  simp only [Bool.or_eq_false_iff, beq_eq_false_iff_ne]
  lia
theorem dig_46 : dig 46 = false := by decide
theorem not46 {m : List Nat} (h : m.all dig = true) : 46 ∉ m := fun hm => by
  have := List.all_eq_true.mp h 46 hm
  rw [dig_46] at this; cases this
theorem take_digs (t : List Nat) (k : Nat) : digs (t.take k) = true ↔ 0 < k ∧ k ≤ (t.takeWhile dig).length ∨ (0 < k ∧ 0 < t.length ∧ t.length < k ∧ t.all dig = true) := by
  unfold digs
  rw [Bool.and_eq_true]
  induction t generalizing k with
  | nil => simp; omega
  | cons c r ih =>
    cases k with
    | zero => simp
    | succ k =>
      rw [List.take_succ_cons, List.all_cons, List.takeWhile_cons, List.all_cons]
      cases hc : dig c with
      | false => simp
      | true =>
        simp only [Bool.true_and, if_true, List.length_cons, List.isEmpty_cons, Bool.not_false, true_and]
        cases k with
        | zero => simp
        | succ k =>
          have := ih (k + 1)
          constructor
          · intro h
            by_cases hr : r = []
            · subst hr; right; simp
            · have h2 := this.mp ⟨by cases r with
                | nil => exact absurd rfl hr
                | cons => rfl, h⟩
              rcases h2 with h2 | h2
              · left; omega
              · right; exact ⟨by lia, by lia, by omega, h2.2.2.2⟩
          · intro h
            by_cases hr : r = []
            · subst hr; rfl
            · have hl : 0 < r.length := List.length_pos_iff.mpr hr
              refine (this.mpr ?_).2
              rcases h with h | h
              · left; omega
              · right; exact ⟨by lia, hl, by omega, h.2.2.2⟩
theorem tw_dw (t : List Nat) : (t.takeWhile dig).length + (t.dropWhile dig).length = t.length := by
  conv => rhs; rw [← List.takeWhile_append_dropWhile (p := dig) (l := t)]
  rw [List.length_append]
theorem n1 {r u g : Nat} (hu : u ≤ r) (_hg : g ≤ u) : r - g - (r - u) = u - g := by rw [Nat.sub_right_comm, Nat.sub_sub_self hu]
theorem n1' {r u g : Nat} (hu : u ≤ r) (hg : g ≤ u) : u - g + (r - u) = r - g := by rw [← n1 hu hg, Nat.sub_add_cancel (Nat.sub_le_sub_left hg r)]
theorem n2 {r u g j : Nat} (hu : u ≤ r) (hg : g ≤ u) (h : r - g < j) : u - g < j - (r - u) := Nat.lt_sub_of_add_lt (by rw [n1' hu hg]; exact h)
theorem n4 {r u j : Nat} (hu : u ≤ r) (h : j ≤ r) : j - (r - u) ≤ u := Nat.sub_le_of_le_add (by rw [Nat.add_sub_cancel' hu]; exact h)
theorem n5 {M T D j : Nat} (hD : D ≤ T) (h : M + 1 + T - D < j) : T - D < j - M - 1 := by
  rw [Nat.sub_sub]
  exact Nat.lt_sub_of_add_lt (by rw [Nat.add_comm, ← Nat.add_sub_assoc hD]; exact h)
theorem n6 {M j : Nat} (h : M < j) : j = M + 1 + (j - M - 1) := by rw [Nat.sub_sub, Nat.add_sub_cancel' h]
theorem n7 {M T j : Nat} (h : j ≤ M + 1 + T) : j - M - 1 ≤ T := by rw [Nat.sub_sub]; exact Nat.sub_le_of_le_add (by rw [Nat.add_comm]; exact h)
theorem grammar_max {m rest : List Nat} (hm : noE m) (hg : digs (m.erase 46) = true) (hb : ∀ c t, rest = c :: t → isE c = false → ((m ++ [c]).erase 46).all dig = false) :
    isNumB ((m ++ rest).take ((m ++ rest).length - (expo rest).length)) = true ∧ ∀ j, (m ++ rest).length - (expo rest).length < j → j ≤ (m ++ rest).length → isNumB ((m ++ rest).take j) = false := by
  have hm1 : isNumB m = true := by rw [num_N hm]; exact hg
  cases rest with
  | nil =>
    have e : expo [] = [] := rfl
    rw [e, List.append_nil]
    refine ⟨by simpa using hm1, fun j h1 h2 => ?_⟩
    simp at h1; omega
  | cons c t =>
    have tk : ∀ i, (m ++ c :: t).take (m.length + 1 + i) = m ++ c :: t.take i := by
      intro i
      rw [List.take_append, List.take_of_length_le (by lia), show m.length + 1 + i - m.length = i + 1 by rw [Nat.add_assoc, Nat.add_sub_cancel_left, Nat.add_comm], List.take_succ_cons]
    have tl : (m ++ c :: t).take m.length = m := List.take_left
    have len : (m ++ c :: t).length = m.length + 1 + t.length := by rw [List.length_append, List.length_cons]; lia
    cases hc : isE c with
    | false =>
      have e : expo (c :: t) = c :: t := by unfold expo; rw [show hd? isE (c :: t) = isE c from rfl, hc]; rfl
      rw [e, len]
      have e2 : m.length + 1 + t.length - (c :: t).length = m.length := by rw [List.length_cons, Nat.add_assoc, Nat.add_comm 1, Nat.add_sub_cancel]
      rw [e2, tl]
      refine ⟨hm1, fun j h1 h2 => ?_⟩
      rw [show j = m.length + 1 + (j - m.length - 1) from n6 h1, tk]
      have := num_bad (m := m ++ [c]) (fun d hd => by
        rcases List.mem_append.mp hd with hd | hd
        · exact hm d hd
        · rw [List.mem_singleton.mp hd]; exact hc) (hb c t rfl hc) (t.take (j - m.length - 1))
      rw [List.append_assoc] at this
      exact this
    | true =>
      have nE : ∀ i, isNumB ((m ++ c :: t).take (m.length + 1 + i)) = digs ((unsg t).take (i - (t.length - (unsg t).length))) := by
        intro i
        rw [tk, num_E hm hc, hg, Bool.true_and, unsg_take]
      have hul := unsg_len t
      unfold expo
      rw [show hd? isE (c :: t) = isE c from rfl, hc]
      simp only [if_true, List.drop_succ_cons, List.drop_zero]
      cases hd : hd? dig (unsg t) with
      | false =>
        simp only [Bool.false_eq_true, if_false]
        have e2 : (m ++ c :: t).length - (c :: t).length = m.length := by rw [List.length_append, Nat.add_sub_cancel]
        rw [e2, tl]
        refine ⟨hm1, fun j h1 h2 => ?_⟩
        rw [show j = m.length + 1 + (j - m.length - 1) from n6 h1, nE]
        rw [Bool.eq_false_iff]
        intro hx
        have htw : (unsg t).takeWhile dig = [] ∧ ((unsg t).all dig = true → (unsg t).length = 0) := by
          cases hu : unsg t with
          | nil => exact ⟨rfl, fun _ => rfl⟩
          | cons d u =>
            rw [hu] at hd
            have hd' : dig d = false := hd
            exact ⟨by rw [List.takeWhile_cons, hd']; rfl, fun h => by rw [List.all_cons, hd', Bool.false_and] at h; cases h⟩
        rcases (take_digs _ _).mp hx with h | h
        · rw [htw.1] at h; simp at h; omega
        · have := htw.2 h.2.2.2; omega
      | true =>
        simp only [if_true]
        have hsum := tw_dw (unsg t)
        have hpos : 0 < ((unsg t).takeWhile dig).length := by
          cases hu : unsg t with
          | nil => rw [hu] at hd; cases hd
          | cons d u =>
            rw [hu] at hd
            have hd' : dig d = true := hd
            rw [List.takeWhile_cons, hd', if_pos rfl, List.length_cons]; lia
        have hDU : ((unsg t).dropWhile dig).length ≤ (unsg t).length := by rw [← hsum]; exact Nat.le_add_left _ _
        have hUD : (unsg t).length - ((unsg t).dropWhile dig).length = ((unsg t).takeWhile dig).length := by rw [← hsum, Nat.add_sub_cancel]
        have hDT := Nat.le_trans hDU hul
        rw [len]
        constructor
        · rw [Nat.add_sub_assoc hDT, nE]
          rw [take_digs]
          left
          rw [n1 hul hDU, hUD]
          exact ⟨hpos, Nat.le_refl _⟩
        · intro j h1 h2
          have h3 := n5 hDT h1
          have h4 := n2 hul hDU h3
          rw [hUD] at h4
          have h5 : m.length < j := Nat.lt_of_sub_pos (Nat.lt_of_lt_of_le (Nat.zero_lt_of_lt h3) (Nat.sub_le _ _))
          rw [show j = m.length + 1 + (j - m.length - 1) from n6 h5, nE, Bool.eq_false_iff]
          intro hx
          rcases (take_digs _ _).mp hx with h | h
          · exact absurd h.2 (Nat.not_le_of_lt h4)
          · exact absurd (n4 hul (n7 h2)) (Nat.not_le_of_lt h.2.2.1)
theorem grammar_none {body : List Nat} (h1 : body.takeWhile dig = []) (h2 : hd? (· == 46) body = false ∨ hd? dig (body.drop 1) = false) (j : Nat) : isNumB (body.take j) = false := by
  have nil : isNumB [] = false := by rw [num_N (m := []) (fun c hc => by cases hc)]; rfl
  cases body with
  | nil => rw [List.take_nil]; exact nil
  | cons c t =>
    have hc : dig c = false := by
      rw [List.takeWhile_cons] at h1
      cases hd : dig c with
      | false => rfl
      | true => rw [hd, if_pos rfl] at h1; cases h1
    cases j with
    | zero => exact nil
    | succ j =>
      rw [List.take_succ_cons]
      cases hE : isE c with
      | true =>
        have := num_E (m := []) (fun c hc => by cases hc) hE (t.take j)
        rw [List.nil_append] at this
        rw [this]; rfl
      | false =>
        by_cases h46 : c = 46
        · subst h46
          have hd : hd? dig t = false := by
            rcases h2 with h2 | h2
            · cases h2
            · exact h2
          cases t with
          | nil =>
            rw [List.take_nil, num_N (m := [46]) (fun c hc => by rw [List.mem_singleton.mp hc]; exact hE)]; rfl
          | cons d u =>
            cases j with
            | zero => rw [List.take_zero, num_N (m := [46]) (fun c hc => by rw [List.mem_singleton.mp hc]; exact hE)]; rfl
            | succ j =>
              rw [List.take_succ_cons]
              cases hdE : isE d with
              | true =>
                have := num_E (m := [46]) (fun c hc => by rw [List.mem_singleton.mp hc]; exact hE) hdE (u.take j)
                rw [List.singleton_append] at this
                rw [this]; rfl
              | false =>
                refine num_bad (m := [46, d]) (fun c hc => ?_) ?_ (u.take j)
                · rcases List.mem_cons.mp hc with rfl | hc
                  · exact hE
                  · rw [List.mem_singleton.mp hc]; exact hdE
                · have hd' : dig d = false := hd
                  have e : [46, d].erase 46 = [d] := by rw [List.erase_cons, if_pos (by rfl)]
                  rw [e, List.all_cons, hd', Bool.false_and]
        · refine num_bad (m := [c]) (fun d hd => ?_) ?_ (t.take j)
          · rw [List.mem_singleton.mp hd]; exact hE
          · rw [List.erase_of_not_mem (by simpa using fun h => h46 h.symm), List.all_cons, hc, Bool.false_and]
end Mine
end
section
open PySem PySem.W PySem.Calls PyProof.Rows PySem.Builtin.Str PySem.StrLaws
set_option maxRecDepth 100000
namespace Mine
theorem last_filter (p : Nat → Bool) (k : Nat) (hp : p k = true) : ∀ n, k ≤ n → (∀ j, k < j → j ≤ n → p j = false) → ((List.range (n + 1)).filter p).getLast? = some k
  | 0, hk, _ => by
    have : k = 0 := by lia
    subst this
    simp [List.range_succ, hp]
  | n + 1, hk, h => by
    rw [List.range_succ, List.filter_append]
    by_cases e : k = n + 1
    · subst e
      rw [List.filter_cons_of_pos hp, List.filter_nil, List.getLast?_append]
      rfl
    · rw [List.filter_cons_of_neg (by rw [h (n + 1) (by omega) (Nat.le_refl _)]; exact Bool.false_ne_true), List.filter_nil, List.append_nil]
      exact last_filter p k hp n (by omega) fun j h1 h2 => h j h1 (by omega)
theorem none_filter (p : Nat → Bool) (n : Nat) (h : ∀ j, p j = false) : ((List.range n).filter p).getLast? = none := by
  rw [List.getLast?_eq_none_iff, List.filter_eq_nil_iff]
  intro j _
  rw [h j]; exact Bool.false_ne_true
theorem unsg_suffix (r : List Nat) : unsg r <:+ r := by
  cases r with
  | nil => exact List.suffix_refl _
  | cons c t =>
    rw [unsg_cons]
    split
    · exact List.suffix_cons c t
    · exact List.suffix_refl _
theorem expo_suffix (l : List Nat) : expo l <:+ l := by
  unfold expo
  split
  · split
    · exact ((List.dropWhile_suffix dig).trans (unsg_suffix _)).trans (List.drop_suffix 1 l)
    · exact List.suffix_refl _
  · exact List.suffix_refl _
theorem dw_head {p : Nat → Bool} {l t : List Nat} {c : Nat} (h : l.dropWhile p = c :: t) : p c = false := by
  induction l with
  | nil => cases h
  | cons d r ih =>
    rw [List.dropWhile_cons] at h
    cases hd : p d with
    | true => rw [hd, if_pos rfl] at h; exact ih h
    | false => rw [hd] at h; simp at h; rw [← h.1]; exact hd
theorem sat_within {v : Int} (h : 0 ≤ v) (b : Bool) : withinF (if b then -(sat v) else sat v) = withinF (if b then -v else v) := by
  unfold sat
  by_cases hv : v > 9223372036854775808
  · rw [if_pos hv]
    cases b
    · simp only [Bool.false_eq_true, if_false]; unfold withinF; rw [if_neg (by omega), if_neg (by omega)]
    · simp only [if_true]; unfold withinF; rw [if_neg (by omega), if_neg (by omega)]
  · rw [if_neg hv]
theorem num_from {r m rest : List Nat} (hbody : unsg r = m ++ rest) (hm : noE m) (hg : digs (m.erase 46) = true) (hb : ∀ c t, rest = c :: t → isE c = false → ((m ++ [c]).erase 46).all dig = false)
    (hA : gA2 r = rest) (hn : ¬ ((gD r).isEmpty = true ∧ gPt r = false)) (hcase : (gPt r = true) ∨ m = gD r ∧ rest = gA r) : lnumR r = numL r := by
  obtain ⟨g1, g2⟩ := grammar_max hm hg hb
  rw [← hbody] at g1 g2
  have hA3 : expo rest = gA3 r := by unfold gA3; rw [hA]
  rw [hA3] at g1 g2
  have hul := unsg_len r
  have sfx : gA3 r <:+ unsg r := by rw [← hA3, hbody]; exact (expo_suffix rest).trans (List.suffix_append m rest)
  have hsl := sfx.length_le
  have hk : (lsizes r).getLast? = some (r.length - (gA3 r).length) := by
    unfold lsizes
    refine last_filter (fun i => isNum (r.take i)) _ ?_ _ (Nat.sub_le _ _) fun j h1 h2 => ?_
    · show isNum _ = true
      unfold isNum
      rw [unsg_take, show r.length - (gA3 r).length - (r.length - (unsg r).length) = (unsg r).length - (gA3 r).length from n1 hul hsl]
      exact g1
    · show isNum _ = false
      unfold isNum
      rw [unsg_take]
      exact g2 _ (n2 hul hsl h1) (n4 hul h2)
  have hdrop : r.drop (r.length - (gA3 r).length) = gA3 r := (List.suffix_iff_eq_drop.mp (sfx.trans (unsg_suffix r))).symm
  have htake : unsg (r.take (r.length - (gA3 r).length)) = (unsg r).take ((unsg r).length - (gA3 r).length) := by
    rw [unsg_take]; congr 1; exact n1 hul hsl
  have hDA : unsg r = gD r ++ gA r := (List.takeWhile_append_dropWhile (p := dig) (l := unsg r)).symm
  have hDall : (gD r).all dig = true := List.all_takeWhile
  have hlen : (gD r).length + (gA r).length = (unsg r).length := by rw [hDA, List.length_append]
  have hA3A : (gA3 r).length ≤ (gA2 r).length := by unfold gA3; exact (expo_suffix _).length_le
  unfold lnumR numL
  rw [hk]
  simp only
  rw [if_neg hn, hdrop, htake]
  congr 1
  by_cases hq : (gA3 r).length = (gA r).length
  · rw [if_pos hq]
    have htk : (unsg r).take ((unsg r).length - (gA3 r).length) = gD r := by
      rw [hq, show (unsg r).length - (gA r).length = (gD r).length by rw [← hlen, Nat.add_sub_cancel]]
      conv => lhs; rw [hDA]
      exact List.take_left
    rw [htk]
    have hpt : gPt r = false := by
      cases hp : gPt r with
      | false => rfl
      | true =>
        exfalso
        have h1 : (gA2 r).length ≤ ((gA r).drop 1).length := by unfold gA2; rw [if_pos hp]; exact (List.dropWhile_suffix dig).length_le
        have h2 : gA r ≠ [] := by
          intro h; unfold gPt at hp; rw [h] at hp; simp [hd?] at hp
        have h3 : 0 < (gA r).length := List.length_pos_iff.mpr h2
        rw [List.length_drop] at h1
        rw [hq] at hA3A; exact absurd (Nat.le_trans hA3A h1) (Nat.not_le_of_lt (Nat.sub_lt h3 (by decide)))
    have hne : (gD r).isEmpty = false := by
      cases he : (gD r).isEmpty with
      | false => rfl
      | true => exact absurd ⟨he, hpt⟩ hn
    have hdg : digs (gD r) = true := by unfold digs; rw [hne, hDall]; rfl
    rw [if_pos hdg, signed_within]
    have hdpos : 0 < (gD r).length := by cases h : gD r with
      | nil => rw [h] at hne; cases hne
      | cons c t => simp
    rw [sat_within (dv_nonneg _ hDall)]
    unfold valP
    rw [htake, htk]
    have hh : (r.take (r.length - (gA3 r).length)).head? = some 45 ↔ hd? (· == 45) r = true := by
      rw [List.head?_take, if_neg (Nat.sub_ne_zero_of_lt (by rw [hq]; exact Nat.lt_of_lt_of_le (by rw [← hlen]; exact Nat.lt_add_of_pos_left hdpos) hul))]
      cases r with
      | nil => simp [hd?]
      | cons c t => simp [hd?]
    congr 1
    by_cases h45 : hd? (· == 45) r = true
    · rw [if_pos h45, if_pos (hh.mpr h45)]
    · rw [if_neg h45, if_neg (fun h => h45 (hh.mp h))]
  · rw [if_neg hq, if_neg]
    have hlt : (gA3 r).length < (gA r).length := by
      have : (gA2 r).length ≤ (gA r).length := by
        unfold gA2
        split
        · exact Nat.le_trans (List.dropWhile_suffix dig).length_le (List.drop_suffix 1 _).length_le
        · exact Nat.le_refl _
      exact Nat.lt_of_le_of_ne (Nat.le_trans hA3A this) hq
    rw [hDA]
    cases hgA : gA r with
    | nil => rw [hgA] at hlt; simp at hlt
    | cons c t =>
      have hc : dig c = false := dw_head (p := dig) (l := unsg r) hgA
      rw [List.take_append, List.take_of_length_le (by rw [List.length_append, List.length_cons]; rw [hgA, List.length_cons] at hlt; rw [Nat.add_sub_assoc (Nat.le_of_lt hlt)]; exact Nat.le_add_right _ _)]
      obtain ⟨z, hz⟩ : ∃ z, (gD r ++ c :: t).length - (gA3 r).length - (gD r).length = z + 1 := by
        refine ⟨(gD r ++ c :: t).length - (gA3 r).length - (gD r).length - 1, ?_⟩
        rw [List.length_append, List.length_cons]
        rw [hgA, List.length_cons] at hlt
        lia
      rw [hz, List.take_succ_cons]
      unfold digs
      rw [List.all_append, List.all_cons, hc, Bool.false_and, Bool.and_false, Bool.and_false]
      exact Bool.false_ne_true
theorem num_L (r : List Nat) : lnumR r = numL r := by
  have hDA : unsg r = gD r ++ gA r := (List.takeWhile_append_dropWhile (p := dig) (l := unsg r)).symm
  have hDall : (gD r).all dig = true := List.all_takeWhile
  by_cases hn : (gD r).isEmpty = true ∧ gPt r = false
  · have hnum : numL r = (0, some 0) := by unfold numL; rw [if_pos hn]
    rw [hnum]
    obtain ⟨h1, h2⟩ := hn
    rw [List.isEmpty_iff] at h1
    have hA : gA r = unsg r := by rw [hDA, h1]; rfl
    have : ∀ j, isNum (r.take j) = false := fun j => by
      unfold isNum
      rw [unsg_take]
      refine grammar_none h1 ?_ _
      unfold gPt at h2
      rw [h1, hA] at h2
      simp only [List.isEmpty_nil, Bool.not_true, Bool.false_or, Bool.and_eq_false_iff] at h2
      exact h2
    unfold lnumR lsizes
    rw [none_filter _ _ this]
  · cases hp : gPt r with
    | true =>
      have hp' := hp
      unfold gPt at hp'
      rw [Bool.and_eq_true] at hp'
      cases hgA : gA r with
      | nil => rw [hgA] at hp'; simp [hd?] at hp'
      | cons c a2 =>
        rw [hgA] at hp'
        have hc : c = 46 := by have := hp'.1; simpa [hd?] using this
        subst hc
        have hA2 : gA2 r = a2.dropWhile dig := by unfold gA2; rw [if_pos hp, hgA]; rfl
        have hD2 : (a2.takeWhile dig).all dig = true := List.all_takeWhile
        have n46 : 46 ∉ gD r := not46 hDall
        have her : (gD r ++ 46 :: a2.takeWhile dig).erase 46 = gD r ++ a2.takeWhile dig := by
          rw [List.erase_append_right _ n46, List.erase_cons, if_pos (by rfl)]
        refine num_from (m := gD r ++ 46 :: a2.takeWhile dig) (rest := a2.dropWhile dig) ?_ ?_ ?_ ?_ hA2 hn (Or.inl hp)
        · rw [hDA, hgA, List.append_assoc, List.cons_append, List.takeWhile_append_dropWhile]
        · intro d hd
          rcases List.mem_append.mp hd with hd | hd
          · exact noE_dig hDall d hd
          · rcases List.mem_cons.mp hd with rfl | hd
            · rfl
            · exact noE_dig hD2 d hd
        · rw [her]
          unfold digs
          rw [List.all_append, hDall, hD2]
          simp only [Bool.and_self, Bool.and_true, Bool.not_eq_true']
          rw [List.isEmpty_eq_false_iff]
          intro hnil
          rw [List.append_eq_nil_iff] at hnil
          have h3 := hp'.2
          rw [hnil.1] at h3
          simp only [List.isEmpty_nil, Bool.not_true, Bool.false_or, List.drop_succ_cons, List.drop_zero] at h3
          cases ha : a2 with
          | nil => rw [ha] at h3; cases h3
          | cons d u =>
            rw [ha] at h3 hnil
            have h4 : dig d = true := h3
            have h5 := hnil.2
            rw [List.takeWhile_cons, h4, if_pos rfl] at h5
            cases h5
        · intro d t hd _
          have hdd := dw_head hd
          have e : ((gD r ++ 46 :: a2.takeWhile dig) ++ [d]).erase 46 = (gD r ++ a2.takeWhile dig) ++ [d] := by
            rw [List.erase_append_left _ (by simp), her]
          rw [e, List.all_append, List.all_cons, hdd, Bool.false_and, Bool.and_false]
    | false =>
      have hne : (gD r).isEmpty = false := by
        cases he : (gD r).isEmpty with
        | false => rfl
        | true => exact absurd ⟨he, hp⟩ hn
      have hA2 : gA2 r = gA r := by unfold gA2; rw [hp]; rfl
      refine num_from (m := gD r) (rest := gA r) hDA (noE_dig hDall) ?_ ?_ hA2 hn (Or.inr ⟨rfl, rfl⟩)
      · rw [List.erase_of_not_mem (not46 hDall)]
        unfold digs
        rw [hne, hDall]; rfl
      · intro c t hc _
        have hcd : dig c = false := dw_head (p := dig) (l := unsg r) hc
        have h46 : c ≠ 46 := by
          intro h
          unfold gPt at hp
          rw [hc, hne, h] at hp
          simp [hd?] at hp
        have : 46 ∉ gD r ++ [c] := by
          intro hm
          rcases List.mem_append.mp hm with hm | hm
          · exact not46 hDall hm
          · exact h46 (List.mem_singleton.mp hm).symm
        rw [List.erase_of_not_mem this, List.all_append, List.all_cons, hcd, Bool.false_and, Bool.and_false]
theorem num_law (x : Str) : lnum x = numP x := by
  rw [numP_L]; exact num_L _
end Mine
end
section
open PySem PySem.W PySem.Calls PyProof.Rows PySem.Builtin.Str PySem.StrLaws
set_option maxRecDepth 100000
namespace Mine
theorem hd45 (l : List Nat) : hd? (· == 45) l = decide (l.head? = some 45) := by
  cases l with
  | nil => rfl
  | cons c t => rw [Bool.eq_iff_iff]; simp [hd?]
theorem kS_le {x : Str} : kS x = 0 ∨ (kS x = 1 ∧ (co x).head? = some 45) := by
  unfold kS
  rw [atIs45]
  by_cases h : (co x).head? = some 45
  · rw [if_pos (by simpa using h)]; exact Or.inr ⟨rfl, h⟩
  · rw [if_neg (by simpa using h)]; exact Or.inl rfl
theorem R_kS (x : Str) : Rr x (kS x) = bare (co x) := by
  unfold kS bare Rr
  rw [atIs45]
  by_cases h : (co x).head? = some 45
  · rw [if_pos (by simpa using h), if_pos h]; simp
  · rw [if_neg (by simpa using h), if_neg h]; rfl
theorem kS_len (x : Str) : kS x ≤ x.length := by
  rcases kS_le (x := x) with h | ⟨h, h2⟩
  · omega
  · rw [h, ← co_len]
    cases e : co x with
    | nil => rw [e] at h2; cases h2
    | cons c t => rw [List.length_cons]; omega
theorem key_law (x : Str) : lkeyP (co x) = keyP x := by
  have h0 : 0 ≤ kS x := by rcases kS_le (x := x) with h | ⟨h, _⟩ <;> lia
  have hR := R_kS x
  have hd : (atIs dig x (kS x) = false ∨ pEnd dig x (kS x) ≠ x.length) ↔ ¬ digs (bare (co x)) = true := by
    have he := end_all x (p := dig) h0 (kS_len x)
    rw [hR] at he
    rw [atIs_R, hR]
    unfold digs
    rw [Bool.and_eq_true, ← he]
    cases eb : bare (co x) with
    | nil => simp [hd?]
    | cons c t =>
      rw [eb] at he
      simp only [hd?, List.isEmpty_cons, Bool.not_false, true_and]
      constructor
      · rintro (h | h)
        · intro h2; rw [he, List.all_cons, h, Bool.false_and] at h2; cases h2
        · exact h
      · exact Or.inr
  unfold lkeyP keyP
  by_cases hg : digs (bare (co x)) = true
  · rw [if_neg (fun h => hd.mp h hg)]
    have hz : (atIs (· == 48) x (kS x) = true ∧ (atIs (· == 45) x 0 = true ∨ 1 < x.length)) ↔ ((bare (co x)).head? = some 48 ∧ co x ≠ [48]) := by
      rw [atIs_R, hR, atIs45]
      have e1 : hd? (· == 48) (bare (co x)) = true ↔ (bare (co x)).head? = some 48 := by
        cases bare (co x) with
        | nil => simp [hd?]
        | cons c t => simp [hd?]
      rw [e1, decide_eq_true_eq, ← co_len]
      refine and_congr_right fun h48 => ?_
      by_cases h45 : (co x).head? = some 45
      · constructor
        · intro _ h; rw [h] at h45; cases h45
        · intro _; exact Or.inl h45
      · have eb : bare (co x) = co x := by unfold bare; rw [if_neg h45]
        rw [eb] at h48
        cases e : co x with
        | nil => rw [e] at h48; cases h48
        | cons c t =>
          rw [e] at h48 h45
          have hc : c = 48 := by simpa using h48
          subst hc
          cases t with
          | nil => simp
          | cons d u => simp
    by_cases h2 : (bare (co x)).head? = some 48 ∧ co x ≠ [48]
    · rw [if_pos (hz.mpr h2), if_neg (fun h => h.2 h2)]
    · rw [if_neg (fun h => h2 (hz.mp h)), if_pos ⟨hg, h2⟩]
      have hseg : seg x (kS x) x.length = bare (co x) := by
        unfold seg
        have e : (co x).drop (kS x).toNat = bare (co x) := hR
        rw [e]
        refine List.take_of_length_le ?_
        have := R_len (x := x) h0 (kS_len x)
        rw [hR] at this
        omega
      rw [hseg, signed_within, sat_within (dv_nonneg _ (digs_all hg)), atIs45]
      congr 1
      unfold valP
      by_cases h45 : (co x).head? = some 45
      · rw [if_pos h45, if_pos (by simpa using h45)]
        congr 2
        unfold bare
        rw [if_pos h45]
        cases e : co x with
        | nil => rw [e] at h45; cases h45
        | cons c t =>
          rw [e] at h45
          have hc : c = 45 := by simpa using h45
          subst hc
          rw [unsg_cons, if_pos (by decide)]; rfl
      · rw [if_neg h45, if_neg (by simpa using h45)]
        have eb : bare (co x) = co x := by unfold bare; rw [if_neg h45]
        rw [eb]
        rw [eb] at hg
        rw [unsg_all (digs_all hg)]
  · rw [if_pos (hd.mpr hg), if_neg (fun h => hg h.1)]
end Mine
end
section
open PySem PySem.W PySem.Calls PyProof.Rows
set_option maxRecDepth 100000
set_option maxHeartbeats 20000000
namespace Mine
theorem law_numeric_con2 (w : World) (x : Str) (tx : Tok) (hx : x.length < 64) : ConT w 201 [.str x tx] 18 (fun t => .int (numP x).1 t) (fun t => optV (numP x).2 t) := by
  have := law_numeric_con w x tx hx
  rw [num_law] at this
  exact this
theorem law_key_con2 (w : World) (x : Str) (tx : Tok) (hx : x.length < 64) : ConP w 208 [.str x tx] 16 (fun t => optV (keyP x) t) True := by
  have := law_key_con w x tx hx
  rw [key_law] at this
  exact this
theorem law_text_right_con (w : World) (x : Str) (tx : Tok) (hx : x.length < 64) : ConS w 222 [.str x tx] 24 (fun _ => .bool true) := by
  unfold ConS
  intro mean mg mb dp un gd cn cs a ccd outer A₀ base g₀ h₀ L m news s Q E B F X N T XB TB D T0 hk hd hu hret
  k_with_none
  k_with "compareOp Eq ref ref" => first | ((k_here; k_dflt (refine' eq_pairs ?Nq7 ?m1q7 ?m2q7 ?uq7 ?_; (case Nq7 => k_asm); (case m1q7 => k_mem); (case m2q7 => k_mem); (case uq7 => first | exact units3 (by with_reducible assumption) (by exact rfl) (by exact rfl) | ke_room); k_whole))) | fail "next"
  k_with "compareOp Eq" => first | ((k_here; (refine eq_opt ?_))) | fail "next"
  k_with "call ref" => first | ((k_here; k_dflt (refine' useT (law_numeric_con2 _ _ _ ?c0q7) ?k1q7 ?k2q7 ?k3q7 ?k4q7 ?k5q7 ?kKq7 ?kdq7 ?kuq7 ?_; (case k1q7 => k_asm); (case k2q7 => k_asm); (case k3q7 => k_asm); (case k4q7 => k_asm); (case k5q7 => k_asm); (case kKq7 => first | exact rfl | assumption); (case kdq7 => first | exact room1 (by with_reducible assumption) (by exact rfl) (by exact rfl) | ktr_room); (case kuq7 => first | exact units3 (by with_reducible assumption) (by exact rfl) (by exact rfl) | ktr_units); (case c0q7 => first | with_reducible assumption | omega); k_whole; (intro Dz tz uz hz tkz Fz Nz lz; (try dsimp only at Nz); (try dsimp only); (try k_fold))))) | fail "next"
  k_with "call ref" => first | ((k_here; k_dflt (refine' useT (numeric_con _ _ _ ?c0q7) ?k1q7 ?k2q7 ?k3q7 ?k4q7 ?k5q7 ?kKq7 ?kdq7 ?kuq7 ?_; (case k1q7 => k_asm); (case k2q7 => k_asm); (case k3q7 => k_asm); (case k4q7 => k_asm); (case k5q7 => k_asm); (case kKq7 => first | exact rfl | assumption); (case kdq7 => first | exact room1 (by with_reducible assumption) (by exact rfl) (by exact rfl) | ktr_room); (case kuq7 => first | exact units3 (by with_reducible assumption) (by exact rfl) (by exact rfl) | ktr_units); (case c0q7 => first | with_reducible assumption | omega); k_whole; (intro Dz tz uz hz tkz Fz Nz lz; (try dsimp only at Nz); (try dsimp only); (try k_fold))))) | fail "next"
  k_with "call ref" => first | ((k_here; k_dflt (refine' useS (law_read_con _ _ _ ?c0q7) ?k1q7 ?k2q7 ?k3q7 ?k4q7 ?k5q7 ?XBq7 ?TBq7 ?Dq7 ?T0q7 ?kKq7 ?kdq7 ?kuq7 ?_; (case k2q7 => k_asm); (case k1q7 => k_asm); (case k3q7 => k_asm); (case k4q7 => k_asm); (case k5q7 => k_asm); (case XBq7 => assumption); (case TBq7 => assumption); (case Dq7 => assumption); (case T0q7 => first | assumption | exact KtsTurn.refl); (case kKq7 => first | exact rfl | assumption); (case kdq7 => first | exact room1 (by with_reducible assumption) (by exact rfl) (by exact rfl) | ktr_room); (case kuq7 => first | exact units3 (by with_reducible assumption) (by exact rfl) (by exact rfl) | ktr_units); (case c0q7 => first | with_reducible assumption | omega); k_whole; (intro tz gz hz tkz kTz kFz kNz kBz kXz kPz kDz; (have kYz := kFor kFz kXz); (try k_lift kBz); (try dsimp only); (try k_fold))))) | fail "next"
  k_with "call ref" => first | ((k_here; k_dflt (refine' useP (key_number_con _ _ _ ?c0q7) ?k1q7 ?k2q7 ?k3q7 ?k4q7 ?k5q7 ?kKq7 ?kdq7 ?kuq7 ?_; (case k1q7 => k_asm); (case k2q7 => k_asm); (case k3q7 => k_asm); (case k4q7 => k_asm); (case k5q7 => k_asm); (case kKq7 => first | exact rfl | assumption); (case kdq7 => first | exact room1 (by with_reducible assumption) (by exact rfl) (by exact rfl) | ktr_room); (case kuq7 => first | exact units3 (by with_reducible assumption) (by exact rfl) (by exact rfl) | ktr_units); (case c0q7 => first | with_reducible assumption | omega | walk_at "len9"); k_whole; (intro tz hz tkz gz Fz Nz; (try dsimp only); (try k_fold))))) | fail "next"
  k_with "call ref" => first | ((k_here; k_dflt (refine' useP (law_key_con2 _ _ _ ?c0q7) ?k1q7 ?k2q7 ?k3q7 ?k4q7 ?k5q7 ?kKq7 ?kdq7 ?kuq7 ?_; (case k1q7 => k_asm); (case k2q7 => k_asm); (case k3q7 => k_asm); (case k4q7 => k_asm); (case k5q7 => k_asm); (case kKq7 => first | exact rfl | assumption); (case kdq7 => first | exact room1 (by with_reducible assumption) (by exact rfl) (by exact rfl) | ktr_room); (case kuq7 => first | exact units3 (by with_reducible assumption) (by exact rfl) (by exact rfl) | ktr_units); (case c0q7 => first | with_reducible assumption | omega); k_whole; (intro tz hz tkz gz Fz Nz; (try dsimp only); (try k_fold))))) | fail "next"
  refine wpAny_call ?_
  k_dflt (refine' code_defS B F X N T XB TB D T0 ?kA ?k6 ?k7 ?k8 ?k9 ?kB ?_ hk ?c2 ?c3 ?c4 ?c5; (case kA => exact rfl); (case k6 => k_is); (case k7 => k_is); (case k8 => ktr_room); (case k9 => exact BindsTo.of_eq rfl); (case kB => exact locs rfl); (case c2 => exact rfl); (case c3 => exact rfl); (case c4 => exact rfl); (case c5 => decide); k_whole; intro g' L' h' FG' F' N' B' X' T' D'; (try dsimp only); (try k_lift B'); (try k_fold))
  (rename Fr _ _ _ _ => F0); have F1 := lkF F0 (l' := [(Str.ofString "text", Value.str x tx)]) (by kernel_rfl); clear F0
  k_steps
  exact retS hret 0 (by assumption) (by k_asm) (by first | k_asm | (refine' cb_drop ?cbN ?cbS; (case cbN => assumption); (case cbS => kcj_all))) (by assumption) (by assumption) (by assumption) (by assumption) rfl
end Mine
end
section
open PySem PySem.W PySem.Calls PyProof.Rows PySem.Builtin.Str PySem.StrLaws
set_option maxRecDepth 100000
namespace Mine
inductive StrLits : List Expr → List Str → Prop
  | nil : StrLits [] []
  | cons (y : Str) (k : Nat) (pos : Pos) {es : List Expr} {ys : List Str} : StrLits es ys → StrLits (.Constant (.str y) k pos :: es) (y :: ys)
theorem spliced_strs {M : Model} {A : Around} {E : Value → Shared → Prop} {env : Env} {pos : Pos} {elts : List Expr} {ys : List Str} (h : StrLits elts ys) :
    ∀ {s : Shared} {Q : List Value → Shared → Prop}, (∀ vs tk, StrsAre vs ys → Q vs { s with toks := tk }) → wpAny M A (spliced (backTo pos (starEach elts env))) Q E s := by
  induction h with
  | nil => exact fun ret => args_nil (ret [] _ .nil)
  | cons y k pos _ ih => exact fun {s Q} ret => args_cons (PySem.Calls.Constant_str (ih fun vs tk hv => ret (.str y s.toks :: vs) tk (.cons y s.toks hv)))
theorem strsLen {vs : List Value} {ys : List Str} (h : StrsAre vs ys) : vs.length = ys.length := by
  induction h with
  | nil => rfl
  | cons _ _ _ ih => rw [List.length_cons, List.length_cons, ih]
theorem eval_strs {prog : Program} {w : World} {A : Around} {E : Value → Shared → Prop} {s : Shared} {h₀ : Heap} {L : Addr} {m : Str → Option Value} {news : List (Addr × Obj)} {env : Env} {pos : Pos} {elts : List Expr} {ys : List Str} {Q : Value → Shared → Prop}
    (F : Fr h₀ L s.heap m) (N : News h₀ L s.heap news) (h : StrLits elts ys) (hl : Nat.ble ys.length 1000 = true)
    (ret : ∀ l vs h' tk', StrsAre vs ys → Fr h₀ L h' m → News h₀ L h' ((l, listOf vs.toArray 0) :: news) → (∀ p ∈ news, p.1 < l) → Q (.ref l) { s with heap := h', toks := tk' }) :
    wpAny (model prog w) A (eval (.List elts pos) env) Q E s :=
  List_ (spliced_strs h fun vs tk hv => newList_K (s := { s with toks := tk }) F N (fun l h' F' N' lt => ret l vs h' tk hv F' N' lt) (by rw [strsLen hv]; exact Nat.le_trans (Nat.le_of_ble_eq_true hl) (by decide)))
section
variable {prog : Program} {w : World} {A : Around} {E : Value → Shared → Prop} {s : Shared} {h₀ : Heap} {L : Addr} {m : Str → Option Value} {news : List (Addr × Obj)} {P : Addr} {vs : List Value} {ns : List Int} {n : Nat} {u : Tok} {Q : Value → Shared → Prop}
theorem pop1 (F : Fr h₀ L s.heap m) (N : News h₀ L s.heap ((P, listOf vs.toArray n) :: news)) (hne : ∀ p ∈ news, p.1 ≠ P) (hi : IntsAre vs ns) (h1 : 1 < (ns.length : Int)) (hl2 : ns.length < 100)
    (h : ∀ h' vs' ns' y t, Fr h₀ L h' m → News h₀ L h' ((P, listOf vs'.toArray (n + 1)) :: news) → IntsAre vs' ns' → ns'.length + 1 = ns.length → 0 < ns'.length → Q (.int y t) { s with heap := h' }) :
    wpAny (model prog w) A (call (.builtin "list.pop") [.ref P, .int 1 u]) Q E s := by
  cases hi with
  | nil => simp at h1
  | cons x t r =>
    cases r with
    | nil => simp at h1
    | cons y t' r' =>
      rename_i vs2 ns2
      have hlen := r'.length
      refine kl_popAt (k := 1) (p := [Value.int x t]) (q := vs2) F N (by rfl) ?_ (by rfl) (Upd.head hne) ?_ fun h' F' N' => ?_
      · simp [seqIndex?]
        omega
      · rw [List.toList_toArray, List.length_cons, List.length_cons, sizeLine_eq]
        simp only [List.length_cons] at hl2
        lia
      · exact h h' _ _ y t' F' N' (.cons x t r') (by simp) (by simp)
end
end Mine
namespace Mine
theorem menuTurn {t : Str} {pre : List Int} {k : Int} {l : List Str} {i : Nat} {d : Str} (h : t.length = pre.length) (hi : i < l.length) (hl : ∀ y ∈ l, y.length = 1) : (t ++ l.getD i d).length = (pre ++ [k]).length := by
  rw [Str.length_append, List.length_append, List.length_singleton, h]
  have : (l.getD i d).length = 1 := by
    rw [List.getD_eq_getElem?_getD, List.getElem?_eq_getElem hi]
    exact hl _ (List.getElem_mem hi)
  lia
theorem menuDone {t : Str} {d most : Int} (h : t.length = (rangeKs 0 (d - 0).toNat).length) (hd : 0 ≤ d ∧ d < most) : (t.length : Int) < most := by
  rw [rangeKs_length] at h; omega
noncomputable def ConPen (w : World) (f : Addr) (P : Addr) (extra : List Value) (nd : Nat) (R : Value → Prop) : Prop :=
  ∀ (mean : ExcName → Option Value) (mg mb : Str → Option Value) (dp un : Nat) (gd : Option (List Code)) (cn : Str) (cs : Scope) (a : Addr) (ccd : Value) (cl : List (Str × Addr)) (outer : List Env) (A₀ : Around) (base h₀ : Heap) (L : Addr) (m : Str → Option Value) (news : List (Addr × Obj)) (vs : List Value) (ns : List Int) (n : Nat) (s : Shared) (Q E : Value → Shared → Prop),
    Below A₀ base outer h₀ → Fr h₀ L s.heap m → (hK w.params).In h₀ → News h₀ L s.heap ((P, listOf vs.toArray n) :: news) → (∀ p ∈ news, p.1 ≠ P) → IntsAre vs ns → 0 < ns.length → ns.length < 100 → Top hd.view_39 (looseW hd.view_39 []) mean mg mb h₀ → cs.kind = .function →
    dp + nd < recursionLimit → un + 8 * nd < cLine →
    (∀ v vs' ns' n' h' tk', R v → IntsAre vs' ns' → 0 < ns'.length → ns'.length < 100 → Fr h₀ L h' m → News h₀ L h' ((P, listOf vs'.toArray n') :: news) → Q v { s with heap := h', toks := tk' }) →
    wpAny (model PySem.Challenge.rw_pc0241_01.row.prog w) (ktrTop dp un gd cn cs L a ccd cl outer) (call (.ref f) (.ref P :: extra)) Q E s
theorem usePen {w : World} {f P : Addr} {extra : List Value} {nd : Nat} {R : Value → Prop} (C : ConPen w f P extra nd R)
    {mean : ExcName → Option Value} {mg mb : Str → Option Value} {dp un : Nat} {gd : Option (List Code)} {cn : Str} {cs : Scope} {a : Addr} {ccd : Value} {cl : List (Str × Addr)} {outer : List Env} {A₀ : Around} {base h₀ : Heap} {L : Addr} {m : Str → Option Value} {l : List (Addr × Obj)} {g : Obj → List (Addr × Obj)} {vs : List Value} {ns : List Int} {n : Nat} {s : Shared} {Q E : Value → Shared → Prop}
    (B : Below A₀ base outer h₀) (F : Fr h₀ L s.heap m) (X : (hK w.params).In h₀) (N : News h₀ L s.heap l) (U : UpdF P (listOf vs.toArray n) l g) (hi : IntsAre vs ns) (hl : 0 < ns.length) (hl2 : ns.length < 100) (T : Top hd.view_39 (looseW hd.view_39 []) mean mg mb h₀) (hk : cs.kind = .function)
    (hdp : dp + nd < recursionLimit) (hu : un + 8 * nd < cLine)
    (ret : ∀ v vs' ns' n' h' tk', R v → IntsAre vs' ns' → 0 < ns'.length → ns'.length < 100 → Fr h₀ L h' m → News h₀ L h' (g (listOf vs'.toArray n')) → Q v { s with heap := h', toks := tk' }) :
    wpAny (model PySem.Challenge.rw_pc0241_01.row.prog w) (ktrTop dp un gd cn cs L a ccd cl outer) (call (.ref f) (.ref P :: extra)) Q E s := by
  obtain ⟨pre, post, rfl, hg, h1, h2⟩ := U.split
  refine C mean mg mb dp un gd cn cs a ccd cl outer A₀ base h₀ L m (pre ++ post) vs ns n s Q E B F X (fun p hp => N p ?_) (fun p hp => ?_) hi hl hl2 T hk hdp hu fun v vs' ns' n' h' tk' hR hi' hl' hl2' F' N' => ret v vs' ns' n' h' tk' hR hi' hl' hl2' F' fun p hp => N' p ?_
  · rcases List.mem_cons.mp hp with rfl | hp
    · exact List.mem_append.mpr (.inr (.head _))
    · rcases List.mem_append.mp hp with hp | hp
      · exact List.mem_append.mpr (.inl hp)
      · exact List.mem_append.mpr (.inr (.tail _ hp))
  · rcases List.mem_append.mp hp with hp | hp
    · exact h1 p hp
    · exact h2 p hp
  · rw [hg] at hp
    rcases List.mem_append.mp hp with hp | hp
    · exact .tail _ (List.mem_append.mpr (.inl hp))
    · rcases List.mem_cons.mp hp with rfl | hp
      · exact .head _
      · exact .tail _ (List.mem_append.mpr (.inr hp))
end Mine
namespace Mine
theorem menuLen {l : List Str} {i : Nat} {d : Str} {n : Nat} (hl : ∀ y ∈ l, y.length ≤ n) (hd : d.length ≤ n) : (l.getD i d).length ≤ n := by
  rw [List.getD_eq_getElem?_getD]
  cases e : l[i]? with
  | none => exact hd
  | some y => exact hl y (List.mem_of_getElem? e)
theorem textLen {a b : Str} {l : List Str} {i : Nat} {d : Str} (ha : (a.length : Int) < 4) (hb : (b.length : Int) < 5) (hl : ∀ y ∈ l, y.length ≤ 20) (hd : d.length ≤ 20) : (a ++ l.getD i d ++ b).length < 64 := by
  have := menuLen (i := i) hl hd
  rw [Str.length_append, Str.length_append]
  omega
structure JP (P : Addr) (h₀ : Heap) (L : Addr) (m : Str → Option Value) (news : List (Addr × Obj)) (s : Shared) (r : Value) (s' : Shared) : Prop where
  out : ∃ d t vs ns n h tk, r = Value.int d t ∧ s' = { s with heap := h, toks := tk } ∧ IntsAre vs ns ∧ 0 < ns.length ∧ ns.length < 100 ∧ Fr h₀ L h m ∧ News h₀ L h ((P, listOf vs.toArray n) :: news)
theorem joinP {M : Model} {A : Around} {E : Value → Shared → Prop} {s : Shared} {P : Addr} {h₀ : Heap} {L : Addr} {m : Str → Option Value} {news news' : List (Addr × Obj)} {tree : Sem Value} {Q : Value → Shared → Prop}
    (_F : Fr h₀ L s.heap m) (_N : News h₀ L s.heap news')
    (h : wpAny M A tree (fun r s₂ => JP P h₀ L m news s r s₂) E s)
    (k : ∀ d t vs ns n h tk, IntsAre vs ns → 0 < ns.length → ns.length < 100 → Fr h₀ L h m → News h₀ L h ((P, listOf vs.toArray n) :: news) → Q (.int d t) { s with heap := h, toks := tk }) : wpAny M A tree Q E s := by
  refine wpAny_mono h (fun r s₂ q => ?_) fun _ _ x => x
  obtain ⟨d, t, vs, ns, n, h', tk', rfl, rfl, I, l1, l2, F', N'⟩ := q.out
  exact k d t vs ns n h' tk' I l1 l2 F' N'
end Mine
end
section
open PySem PySem.W PySem.Calls PyProof.Rows
set_option maxRecDepth 100000
set_option maxHeartbeats 20000000
namespace Mine
local macro_rules | `(tactic| k_all) => `(tactic| with_reducible assumption)
theorem law_take_con (w : World) (P : Addr) (many : Int) (tm : Tok) (hm : 0 < many) (hm2 : many < 100) : ConPen w 130 P [.int many tm] 2 (fun v => ∃ d t, v = .int d t ∧ 0 ≤ d ∧ d < many) := by
  unfold ConPen
  intro mean mg mb dp un gd cn cs a ccd cl outer A₀ base h₀ L m news vs ns n s Q E B F X N hne hi hl hl2 T hk hd hu hret
  k_with_none
  k_with "call builtin:list.pop" => first | ((k_here; k_dflt (refine' pop1 ?Fq7 ?Nq7 ?nq7 ?iq7 ?h1q7 ?h2q7 ?_; (case Fq7 => k_asm); (case Nq7 => k_asm); (case nq7 => assumption); (case iq7 => assumption); (case h1q7 => assumption); (case h2q7 => assumption)); (intro hz vsz nsz yz tz Fz Nz iz ez pz))) | fail "next"
  k_with "MSTEP" => first | (first | (k_unfold; (try dsimp only)) | (k_end; wrow_close) | walk1 | (dsimp only; walk1) | (leave1; walk_say "STEP leave1"; try dsimp only) | fail "no step") | fail "next"
  refine wpAny_call ?_
  k_dflt ktr_enter
  (rename Fr _ _ _ _ => F0); have F1 := lkF F0 (l' := [(Str.ofString "many", Value.int many tm), (Str.ofString "pen", Value.ref P)]) (by kernel_rfl); clear F0
  repeat' ((fail_if_success (with_reducible show wpAny _ _ (eval (PySem.Expr.IfExp _ _ _ _) _) _ _ _)); walk_at "MSTEP")
  (rename Fr _ _ _ _ => F8); (rename News _ _ _ _ => N8)
  refine joinP (P := P) (news := news) F8 N8 ?_ ?_
  · k_steps
    all_goals
      (rename IntsAre _ _ => i8)
      exact ⟨⟨_, _, _, _, _, _, _, rfl, rfl, i8, by omega, by omega, by k_asm, by k_asm⟩⟩
  intro d9 t9 vs9 ns9 n9 h9 tk9 I9 l9 m9 F9 N9
  clear F8 N8
  k_steps
  all_goals
    (rename Fr _ _ _ _ => F8); (rename News _ _ _ _ => N8)
    (rename IntsAre _ _ => i8)
    exact hret _ _ _ _ _ _ ⟨_, _, rfl, Int.fmod_nonneg_of_pos _ hm, Int.fmod_lt_of_pos _ hm⟩ i8 (by rw [List.length_set]; omega) (by rw [List.length_set]; omega) (by k_asm) N8
theorem law_pieces_con (w : World) (P : Addr) (most : Int) (tm : Tok) (hm : 0 < most) (hm2 : most < 9) : ConPen w 144 P [.int most tm] 4 (fun v => ∃ y t, v = .str y t ∧ (y.length : Int) < most) := by
  unfold ConPen
  intro mean mg mb dp un gd cn cs a ccd cl outer A₀ base h₀ L m news vs ns n s Q E B F X N hne hi hl hl2 T hk hd hu hret
  k_with_none
  k_with "call builtin:list.pop" => first | ((k_here; k_dflt (refine' pop1 ?Fq7 ?Nq7 ?nq7 ?iq7 ?h1q7 ?h2q7 ?_; (case Fq7 => k_asm); (case Nq7 => k_asm); (case nq7 => assumption); (case iq7 => assumption); (case h1q7 => assumption); (case h2q7 => assumption)); (intro hz vsz nsz yz tz Fz Nz iz ez pz))) | fail "next"
  k_with "MSTEP" => first | (first | (k_unfold; (try dsimp only)) | (k_end; wrow_close) | walk1 | (dsimp only; walk1) | (leave1; walk_say "STEP leave1"; try dsimp only) | fail "no step") | fail "next"
  k_with "call ref" => first | ((k_here; (show wpAny _ _ (call (Value.ref 130) _) _ _ _); k_dflt (refine' usePen (law_take_con _ _ _ _ ?c0q7 ?c1q7) ?k1q7 ?k2q7 ?k3q7 ?k4q7 ?Uq7 ?iq7 ?lq7 ?l2q7 ?k5q7 ?kKq7 ?kdq7 ?kuq7 ?_; (case k1q7 => k_asm); (case k2q7 => k_asm); (case k3q7 => k_asm); (case k4q7 => k_asm); (case Uq7 => k_updF); (case k5q7 => k_asm); (case iq7 => assumption); (case lq7 => assumption); (case l2q7 => assumption); (case kKq7 => first | exact rfl | assumption); (case kdq7 => first | exact room1 (by with_reducible assumption) (by exact rfl) (by exact rfl) | ktr_room); (case kuq7 => first | exact units3 (by with_reducible assumption) (by exact rfl) (by exact rfl) | ktr_units); (case c0q7 => omega); (case c1q7 => omega); k_whole); intro vz vsz nsz nz hz tkz rz iz lz mz Fz Nz; obtain ⟨dz, tz, ez, gz, bz⟩ := rz; subst ez; (try dsimp only at Nz); (try dsimp only); (try k_fold))) | fail "next"
  k_with "eval List" => first | ((k_here; k_dflt (refine' eval_strs ?Fq7 ?Nq7 ?hq7 ?hlq7 ?_; (case Fq7 => k_asm); (case Nq7 => k_asm); (case hq7 => (repeat' (first | exact StrLits.nil | refine' StrLits.cons _ _ _ ?_))); (case hlq7 => exact rfl); k_whole); intro lz vz hz tkz iz Fz Nz tz; (try k_lt tz); (try dsimp only); (try k_fold))) | fail "next"
  k_with "subscriptTail" => first | ((k_here; (with_reducible show wpAny _ _ (subscriptTail _ _ (Value.ref _) (Value.int _ _)) _ _ _); k_dflt (refine' KTb.item_list ?lq7 ?wq7 ?aq7 ?bq7 ?cq7 ?_; (case lq7 => exact News.isList (by k_asm) (by k_mem)); (case wq7 => with_reducible assumption); (case aq7 => ktb_idx); (case bq7 => ktb_idx); (case cq7 => ktb_idx)); intro tz ltz; (simp only [List.length_cons, List.length_nil, Nat.zero_add] at ltz))) | fail "next"
  refine wpAny_call ?_
  k_dflt ktr_enter
  (rename Fr _ _ _ _ => F0); have F1 := lkF F0 (l' := [(Str.ofString "most", Value.int most tm), (Str.ofString "pen", Value.ref P)]) (by kernel_rfl); clear F0
  repeat' ((fail_if_success (with_reducible show wpAny _ _ (pyIter (Value.ref _)) _ _ _)); walk_at "MSTEP")
  k_with "state" => first | exact ⟨rfl, by assumption, by assumption⟩ | exact ⟨menuTurn (by assumption) (by first | assumption | (simp only [List.length_cons, List.length_nil]; omega)) (by decide +kernel), by assumption, by assumption⟩
  k_state (fun pre t p => t.length = pre.length ∧ 0 < p.length ∧ p.length < 100) "text" "pen"
  all_goals (repeat' ((fail_if_success (show InvEndN _ _ _ _ _ _ _)); walk_at "MSTEP"))
  all_goals (first | (show InvEndN _ _ _ _ _ _ _; kst_close) | skip)
  (rename Fr _ _ _ _ => F8); (rename News _ _ _ _ => N8)
  (rename IntsAre _ _ => i8)
  exact hret _ _ _ _ _ _ ⟨_, _, rfl, menuDone (by assumption) ⟨by assumption, by assumption⟩⟩ i8 (by assumption) (by assumption) (by k_asm) N8
end Mine
end
section
open PySem PySem.W PySem.Calls PyProof.Rows
set_option maxRecDepth 100000
set_option maxHeartbeats 20000000
namespace Mine
local macro_rules | `(tactic| k_all) => `(tactic| with_reducible assumption)
theorem law_text_con (w : World) (P : Addr) : ConPen w 151 P [] 6 (fun v => ∃ y t, v = .str y t ∧ y.length < 64) := by
  unfold ConPen
  intro mean mg mb dp un gd cn cs a ccd cl outer A₀ base h₀ L m news vs ns n s Q E B F X N hne hi hl hl2 T hk hd hu hret
  k_with_none
  k_with "call ref" => first | ((k_here; (show wpAny _ _ (call (Value.ref 130) _) _ _ _); k_dflt (refine' usePen (law_take_con _ _ _ _ ?c0q7 ?c1q7) ?k1q7 ?k2q7 ?k3q7 ?k4q7 ?Uq7 ?iq7 ?lq7 ?l2q7 ?k5q7 ?kKq7 ?kdq7 ?kuq7 ?_; (case k1q7 => k_asm); (case k2q7 => k_asm); (case k3q7 => k_asm); (case k4q7 => k_asm); (case Uq7 => k_updF); (case k5q7 => k_asm); (case iq7 => assumption); (case lq7 => assumption); (case l2q7 => assumption); (case kKq7 => first | exact rfl | assumption); (case kdq7 => first | exact room1 (by with_reducible assumption) (by exact rfl) (by exact rfl) | ktr_room); (case kuq7 => first | exact units3 (by with_reducible assumption) (by exact rfl) (by exact rfl) | ktr_units); (case c0q7 => omega); (case c1q7 => omega); k_whole); intro vz vsz nsz nz hz tkz rz iz lz mz Fz Nz; obtain ⟨dz, tz, ez, gz, bz⟩ := rz; subst ez; (try dsimp only at Nz); (try dsimp only); (try k_fold))) | fail "next"
  k_with "call ref" => first | ((k_here; (show wpAny _ _ (call (Value.ref 144) _) _ _ _); k_dflt (refine' usePen (law_pieces_con _ _ _ _ ?c0q7 ?c1q7) ?k1q7 ?k2q7 ?k3q7 ?k4q7 ?Uq7 ?iq7 ?lq7 ?l2q7 ?k5q7 ?kKq7 ?kdq7 ?kuq7 ?_; (case k1q7 => k_asm); (case k2q7 => k_asm); (case k3q7 => k_asm); (case k4q7 => k_asm); (case Uq7 => k_updF); (case k5q7 => k_asm); (case iq7 => assumption); (case lq7 => assumption); (case l2q7 => assumption); (case kKq7 => first | exact rfl | assumption); (case kdq7 => first | exact room1 (by with_reducible assumption) (by exact rfl) (by exact rfl) | ktr_room); (case kuq7 => first | exact units3 (by with_reducible assumption) (by exact rfl) (by exact rfl) | ktr_units); (case c0q7 => omega); (case c1q7 => omega); k_whole); intro vz vsz nsz nz hz tkz rz iz lz mz Fz Nz; obtain ⟨yz, tz, ez, bz⟩ := rz; subst ez; (try dsimp only at Nz); (try dsimp only); (try k_fold))) | fail "next"
  refine wpAny_call ?_
  k_dflt ktr_enter
  (rename Fr _ _ _ _ => F0); have F1 := lkF F0 (l' := [(Str.ofString "pen", Value.ref P)]) (by kernel_rfl); clear F0
  k_steps
  (rename Fr _ _ _ _ => F8); (rename News _ _ _ _ => N8)
  (rename IntsAre _ _ => i8)
  refine' hret _ _ _ ?n9 _ _ ⟨_, _, rfl, textLen (by assumption) (by assumption) (by decide +kernel) (by decide +kernel)⟩ i8 (by assumption) (by assumption) (by k_asm) ?_
  rotate_left
  first | exact N8 | (refine' cb_drop ?cbN ?cbS; (case cbN => exact N8); (case cbS => kcj_all))
end Mine
end
section
open PySem PySem.W PySem.Calls PyProof.Rows PySem.Builtin.Str PySem.StrLaws
set_option maxRecDepth 100000
namespace Mine
/-! the digits that a whole number is written in -/
noncomputable def ds (m : Nat) : List Nat := (Nat.toDigits 10 m).map Char.toNat
theorem digc : ∀ d : Nat, d < 10 → (Nat.digitChar d).toNat = 48 + d := by decide
theorem ds_lt {m : Nat} (h : m < 10) : ds m = [48 + m] := by
  unfold ds; rw [Nat.toDigits_of_lt_base h, List.map_cons, List.map_nil, digc m h]
theorem ds_ge {m : Nat} (h : ¬ m < 10) : ds m = ds (m / 10) ++ [48 + m % 10] := by
  have hm : m % 10 < 10 := Nat.mod_lt m (by decide)
  have t : Nat.toDigits 10 (m / 10) ++ Nat.toDigits 10 (m % 10) = Nat.toDigits 10 (10 * (m / 10) + m % 10) := Nat.toDigits_append_toDigits (by decide) (by omega) hm
  rw [Nat.div_add_mod] at t
  unfold ds
  rw [← t, List.map_append, Nat.toDigits_of_lt_base hm, List.map_cons, List.map_nil, digc _ hm]
theorem dig_48 {d : Nat} (h : d < 10) : dig (48 + d) = true := by unfold dig; simp only [Bool.and_eq_true, decide_eq_true_eq]; omega
theorem ds_facts (m : Nat) : (ds m).all dig = true ∧ ds m ≠ [] ∧ ((ds m).head? = some 48 → m = 0) ∧ dv (ds m) = m := by
  induction m using Nat.strongRecOn with
  | _ m ih =>
    by_cases h : m < 10
    · rw [ds_lt h]
      refine ⟨by rw [List.all_cons, dig_48 h]; rfl, by simp, fun e => ?_, ?_⟩
      · simp at e; exact e
      · simp [dv]; lia
    · rw [ds_ge h]
      obtain ⟨h1, h2, h3, h4⟩ := ih (m / 10) (by omega)
      have hm : m % 10 < 10 := Nat.mod_lt m (by decide)
      refine ⟨by rw [List.all_append, h1, List.all_cons, dig_48 hm]; rfl, by simp, fun e => ?_, ?_⟩
      · cases hd : ds (m / 10) with
        | nil => exact absurd hd h2
        | cons c t =>
          rw [hd] at e h3
          have := h3 (by simpa using e)
          omega
      · rw [dv_snoc, h4]; omega
theorem ds_len (k : Nat) : ∀ m, m < 10 ^ (k + 1) → (ds m).length ≤ k + 1 := by
  induction k with
  | zero => intro m h; rw [ds_lt (by simpa using h)]; simp
  | succ k ih =>
    intro m h
    by_cases h1 : m < 10
    · rw [ds_lt h1]; simp
    · rw [ds_ge h1, List.length_append, List.length_singleton]
      have := ih (m / 10) (by rw [Nat.div_lt_iff_lt_mul (by decide)]; rw [Nat.pow_succ] at h; exact h)
      omega
noncomputable def sd (n : Int) : List Nat := if n < 0 then 45 :: ds n.natAbs else ds n.natAbs
abbrev T (n : Int) : Str := Str.ofString (toString n)
theorem co_T (n : Int) : co (T n) = sd n := by
  cases n with
  | ofNat m =>
    unfold sd
    rw [if_neg (by show ¬ ((m : Int) < 0); omega)]
    exact PySem.W.KIN.signs_num m
  | negSucc k =>
    unfold sd
    rw [if_pos (by omega)]
    show (Str.ofString (toString (Int.negSucc k))).cps.toList = _
    rw [signs_ofString]
    show ("-" ++ Nat.repr (k + 1)).toList.map Char.toNat = 45 :: (Nat.toDigits 10 (k + 1)).map Char.toNat
    rw [String.toList_append, List.map_append, Nat.toList_repr]
    rfl
theorem T_len {n : Int} (h1 : -100000000000000000000 < n) (h2 : n < 100000000000000000000) : (T n).length ≤ 21 := by
  rw [← co_len, co_T]
  have h := ds_len 19 n.natAbs (by have e : 10 ^ (19 + 1) = 100000000000000000000 := by decide
                                   rw [e]; omega)
  unfold sd
  split
  · rw [List.length_cons]; omega
  · omega
theorem numP_dw (x : Str) : numP x = numL ((co x).dropWhile blk) := by
  rw [numP_L]
  unfold nF
  rw [R_end (by decide)]
  rfl
theorem numL_of {r D tail : List Nat} (h : unsg r = D ++ tail) (hD : D.all dig = true) (hne : D ≠ []) (ht : hd? dig tail = false) :
    numL r = (if (expo (if hd? (· == 46) tail then (tail.drop 1).dropWhile dig else tail)).all blk then 2 else 1,
      if (expo (if hd? (· == 46) tail then (tail.drop 1).dropWhile dig else tail)).length = tail.length then withinF (if hd? (· == 45) r then -dv D else dv D) else none) := by
  have tw : ∀ D : List Nat, D.all dig = true → (D ++ tail).takeWhile dig = D ∧ (D ++ tail).dropWhile dig = tail := by
    intro D
    induction D with
    | nil =>
      intro _
      cases tail with
      | nil => exact ⟨rfl, rfl⟩
      | cons c t =>
        have hc : dig c = false := ht
        rw [List.nil_append, List.takeWhile_cons, List.dropWhile_cons, hc]
        exact ⟨rfl, rfl⟩
    | cons d u ih =>
      intro hD
      rw [List.all_cons, Bool.and_eq_true] at hD
      rw [List.cons_append, List.takeWhile_cons, List.dropWhile_cons, hD.1]
      simp only [if_true]
      exact ⟨by rw [(ih hD.2).1], (ih hD.2).2⟩
  have e1 : gD r = D := by unfold gD; rw [h]; exact (tw D hD).1
  have e2 : gA r = tail := by unfold gA; rw [h]; exact (tw D hD).2
  have e3 : gPt r = hd? (· == 46) tail := by
    unfold gPt; rw [e1, e2]
    cases D with
    | nil => exact absurd rfl hne
    | cons c t => simp
  have e4 : gA3 r = expo (if hd? (· == 46) tail then (tail.drop 1).dropWhile dig else tail) := by unfold gA3 gA2; rw [e2, e3]
  unfold numL
  rw [e4, e1, e2, e3, signed_within, sat_within (dv_nonneg _ hD), if_neg]
  rintro ⟨h1, _⟩
  rw [List.isEmpty_iff] at h1
  exact hne h1
theorem numL_nil {r D : List Nat} (h : unsg r = D) (hD : D.all dig = true) (hne : D ≠ []) : numL r = (2, withinF (if hd? (· == 45) r then -dv D else dv D)) := by
  rw [numL_of (D := D) (tail := []) (by rw [h, List.append_nil]) hD hne rfl]; rfl
theorem dig_nblk {c : Nat} (h : dig c = true) : blk c = false := by
  unfold dig at h; unfold blk
  simp only [Bool.and_eq_true, decide_eq_true_eq] at h
  simp only [Bool.or_eq_false_iff, beq_eq_false_iff_ne]
  lia
theorem dw_id {l : List Nat} (h : hd? blk l = false) : l.dropWhile blk = l := by
  cases l with
  | nil => rfl
  | cons c t => have hc : blk c = false := h; rw [List.dropWhile_cons, hc]; rfl
section
variable (n : Int)
theorem sd_facts (tail : List Nat) : hd? blk (sd n ++ tail) = false ∧ unsg (sd n ++ tail) = ds n.natAbs ++ tail ∧ withinF (if hd? (· == 45) (sd n ++ tail) then -dv (ds n.natAbs) else dv (ds n.natAbs)) = withinF n := by
  obtain ⟨h1, h2, _, h4⟩ := ds_facts n.natAbs
  unfold sd
  by_cases hn : n < 0
  · rw [if_pos hn]
    refine ⟨rfl, ?_, ?_⟩
    · rw [List.cons_append, unsg_cons, if_pos (by decide)]
    · rw [show hd? (· == 45) (45 :: ds n.natAbs ++ tail) = true from rfl, if_pos rfl, h4]
      congr 1; omega
  · rw [if_neg hn]
    cases e : ds n.natAbs with
    | nil => exact absurd e h2
    | cons c t =>
      rw [e, List.all_cons, Bool.and_eq_true] at h1
      refine ⟨dig_nblk h1.1, ?_, ?_⟩
      · rw [List.cons_append, unsg_cons, dig_nsgn h1.1]; rfl
      · have hc : hd? (· == 45) ((c :: t) ++ tail) = false := by
          have := h1.1
          unfold dig at this
          simp only [Bool.and_eq_true, decide_eq_true_eq] at this
          show (c == 45) = false
          simp only [beq_eq_false_iff_ne]
          omega
        rw [hc, ← e, h4]
        simp only [Bool.false_eq_true, if_false]
        congr 1; omega
theorem num_sd {tail : List Nat} (ht : hd? dig tail = false) : numL (sd n ++ tail) = (if (expo (if hd? (· == 46) tail then (tail.drop 1).dropWhile dig else tail)).all blk then 2 else 1,
      if (expo (if hd? (· == 46) tail then (tail.drop 1).dropWhile dig else tail)).length = tail.length then withinF n else none) := by
  obtain ⟨_, f2, f3⟩ := sd_facts n tail
  obtain ⟨h1, h2, _, _⟩ := ds_facts n.natAbs
  rw [numL_of f2 h1 h2 ht, f3]
theorem num_tail {x : Str} {tail : List Nat} (hx : co x = sd n ++ tail) (ht : hd? dig tail = false) : numP x = (if (expo (if hd? (· == 46) tail then (tail.drop 1).dropWhile dig else tail)).all blk then 2 else 1,
      if (expo (if hd? (· == 46) tail then (tail.drop 1).dropWhile dig else tail)).length = tail.length then withinF n else none) := by
  rw [numP_dw, hx, dw_id (sd_facts n tail).1, num_sd n ht]
noncomputable def pad : Str := if n < 0 then Str.ofString "-0" ++ Txt.slice (T n) (some 1) none else Str.ofString "+0" ++ T n
theorem co_pad : co (pad n) = if n < 0 then 45 :: 48 :: ds n.natAbs else 43 :: 48 :: ds n.natAbs := by
  unfold pad
  by_cases hn : n < 0
  · rw [if_pos hn, if_pos hn, co_append, co_slice_sn _ (by decide), co_T]
    have e : co (Str.ofString "-0") = [45, 48] := by decide +kernel
    rw [e]; unfold sd; rw [if_pos hn]; rfl
  · rw [if_neg hn, if_neg hn, co_append, co_T]
    have e : co (Str.ofString "+0") = [43, 48] := by decide +kernel
    rw [e]; unfold sd; rw [if_neg hn]; rfl
theorem F2 : numP (T n) = (2, withinF n) := by
  rw [num_tail n (tail := []) (by rw [co_T, List.append_nil]) rfl]; rfl
theorem F3 : numP (Str.ofString "\n " ++ T n ++ Str.ofString "\x0c") = (2, withinF n) := by
  have e1 : co (Str.ofString "\n ") = [10, 32] := by decide +kernel
  have e2 : co (Str.ofString "\x0c") = [12] := by decide +kernel
  rw [numP_dw, co_append, co_append, co_T, e1, e2]
  have e3 : ([10, 32] ++ sd n ++ [12]).dropWhile blk = sd n ++ [12] := by
    show (10 :: 32 :: (sd n ++ [12])).dropWhile blk = _
    rw [List.dropWhile_cons, if_pos (by decide), List.dropWhile_cons, if_pos (by decide), dw_id (sd_facts n [12]).1]
  rw [e3, num_sd n rfl]; rfl
theorem F4 : numP (T n ++ Str.ofString " a") = (1, withinF n) := by
  rw [num_tail n (tail := [32, 97]) (by rw [co_append, co_T]; congr 1) rfl]; rfl
theorem F5 : numP (T n ++ Str.ofString ".") = (2, none) := by
  rw [num_tail n (tail := [46]) (by rw [co_append, co_T]; congr 1) rfl]; rfl
theorem F7 : numP (T n ++ Str.ofString "e0") = (2, none) := by
  rw [num_tail n (tail := [101, 48]) (by rw [co_append, co_T]; congr 1) rfl]; rfl
theorem F6 : numP (pad n) = (2, withinF n) := by
  obtain ⟨h1, h2, _, h4⟩ := ds_facts n.natAbs
  have hD : (48 :: ds n.natAbs).all dig = true := by rw [List.all_cons, h1]; rfl
  have hv : dv (48 :: ds n.natAbs) = n.natAbs := by rw [dv_cons, h4]; lia
  rw [numP_dw, co_pad]
  by_cases hn : n < 0
  · rw [if_pos hn, dw_id rfl, numL_nil (D := 48 :: ds n.natAbs) (by rw [unsg_cons, if_pos (by decide)]) hD (by simp), hv, show hd? (· == 45) (45 :: 48 :: ds n.natAbs) = true from rfl, if_pos rfl]
    have : withinF (-(n.natAbs : Int)) = withinF n := by congr 1; omega
    rw [this]
  · rw [if_neg hn, dw_id rfl, numL_nil (D := 48 :: ds n.natAbs) (by rw [unsg_cons, if_pos (by decide)]) hD (by simp), hv, show hd? (· == 45) (43 :: 48 :: ds n.natAbs) = false from rfl, if_neg Bool.false_ne_true]
    have : withinF (n.natAbs : Int) = withinF n := by congr 1; omega
    rw [this]
theorem F1 : keyP (T n) = withinF n := by
  obtain ⟨h1, h2, h3, h4⟩ := ds_facts n.natAbs
  rw [← key_law, co_T]
  have hdg : digs (ds n.natAbs) = true := by
    unfold digs; rw [h1, Bool.and_true, Bool.not_eq_true', List.isEmpty_eq_false_iff]; exact h2
  have hb : bare (sd n) = ds n.natAbs := by
    unfold bare sd
    by_cases hn : n < 0
    · rw [if_pos hn]; rfl
    · rw [if_neg hn, if_neg]
      intro h
      cases e : ds n.natAbs with
      | nil => exact h2 e
      | cons c t =>
        rw [e] at h h1
        have hc : c = 45 := by simpa using h
        rw [hc] at h1
        simp [dig] at h1
  have hv : valP (sd n) = n := by
    have f := sd_facts n []
    rw [List.append_nil, List.append_nil] at f
    unfold valP
    rw [f.2.1, h4]
    unfold sd
    by_cases hn : n < 0
    · rw [if_pos hn]; simp; omega
    · rw [if_neg hn, if_neg]
      · omega
      · intro h
        cases e : ds n.natAbs with
        | nil => exact h2 e
        | cons c t =>
          rw [e] at h h1
          have hc : c = 45 := by simpa using h
          rw [hc] at h1
          simp [dig] at h1
  unfold lkeyP
  rw [hb, hv, if_pos]
  refine ⟨hdg, fun h => h.2 ?_⟩
  have h0 := h3 h.1
  have hn : n = 0 := by omega
  rw [hn]; decide +kernel
theorem key_bad {x : Str} (h : digs (bare (co x)) = false) : keyP x = none := by
  rw [← key_law]; unfold lkeyP; rw [if_neg]; rw [h]; exact fun q => by cases q.1
theorem bad_tail {c : Nat} (hc : dig c = false) : digs (bare (sd n ++ [c])) = false := by
  have : ∃ u, bare (sd n ++ [c]) = u ++ [c] := by
    unfold bare
    split
    · unfold sd
      by_cases hn : n < 0
      · rw [if_pos hn]; exact ⟨_, rfl⟩
      · rw [if_neg hn]
        cases e : ds n.natAbs with
        | nil => exact absurd e (ds_facts n.natAbs).2.1
        | cons d t => exact ⟨_, rfl⟩
    · exact ⟨_, rfl⟩
  obtain ⟨u, hu⟩ := this
  rw [hu]
  unfold digs
  rw [List.all_append, List.all_cons, hc, Bool.false_and, Bool.and_false, Bool.and_false]
theorem bad_head {c : Nat} (hc : dig c = false) (h45 : c ≠ 45) (l : List Nat) : digs (bare (c :: l)) = false := by
  unfold bare
  rw [if_neg (by simpa using h45)]
  unfold digs
  rw [List.all_cons, hc, Bool.false_and, Bool.and_false]
theorem F8a : keyP (Str.ofString " " ++ T n) = none := key_bad (by
  rw [co_append]
  have e : co (Str.ofString " ") = [32] := by decide +kernel
  rw [e]; exact bad_head (by decide) (by decide) _)
theorem F8b : keyP (T n ++ Str.ofString " ") = none := key_bad (by
  rw [co_append, co_T]
  have e : co (Str.ofString " ") = [32] := by decide +kernel
  rw [e]; exact bad_tail n (by decide))
theorem F8d : keyP (T n ++ Str.ofString ".") = none := key_bad (by
  rw [co_append, co_T]
  have e : co (Str.ofString ".") = [46] := by decide +kernel
  rw [e]; exact bad_tail n (by decide))
theorem F8e : keyP (Str.ofString "a" ++ T n) = none := key_bad (by
  rw [co_append]
  have e : co (Str.ofString "a") = [97] := by decide +kernel
  rw [e]; exact bad_head (by decide) (by decide) _)
theorem F8c : keyP (pad n) = none := by
  by_cases hn : n < 0
  · rw [← key_law, co_pad, if_pos hn]
    unfold lkeyP
    rw [if_neg]
    rintro ⟨_, h⟩
    exact h ⟨rfl, by simp⟩
  · refine key_bad ?_
    rw [co_pad, if_neg hn]
    exact bad_head (by decide) (by decide) _
end
end Mine
end
section
open PySem PySem.W PySem.Calls PyProof.Rows PySem.Builtin.Str PySem.StrLaws
set_option maxRecDepth 100000
namespace Mine
section
variable {prog : Program} {w : World} {A : Around} {E : Value → Shared → Prop} {s : Shared} {h₀ : Heap} {L : Addr} {news : List (Addr × Obj)} {D1 D2 : Addr} {a b : Int} {o p : Option Int} {t u t' u' : Tok} {Q : Value → Shared → Prop}
theorem ne_opt (e : o = p) (h : Q (.bool false) s) : wpAny (model prog w) A (compareOp .NotEq (optV o t) (optV p t')) Q E s := by
  subst e
  cases o with
  | none => exact EqBoolInt.of_rcne SeqAt.RcNeAt.none_none h
  | some n => exact EqBoolInt.of_rcne (SeqAt.RcNeAt.int_int n t n t') (by rw [beq_self_eq_true]; exact h)
theorem ne_pairs (N : News h₀ L s.heap news) (m1 : (D1, ({ cls := .type "tuple", data := .seq #[.int a t, optV o u] } : Obj)) ∈ news) (m2 : (D2, ({ cls := .type "tuple", data := .seq #[.int b t', optV p u'] } : Obj)) ∈ news)
    (e : (a, o) = (b, p)) (hu : A.units + 64 < cLine) (h : Q (.bool false) s) : wpAny (model prog w) A (compareOp .NotEq (.ref D1) (.ref D2)) Q E s := by
  obtain ⟨rfl, rfl⟩ := Prod.mk.inj e
  obtain ⟨_, r1⟩ := reads_opt (h := s.heap) o u
  obtain ⟨_, r2⟩ := reads_opt (h := s.heap) o u'
  refine ne_dataH (reads_tuple_at (N _ m1).1 rfl rfl (.cons (.int a t) (.cons r1 .nil))) (reads_tuple_at (N _ m2).1 rfl rfl (.cons (.int a t') (.cons r2 .nil))) (opt_shaped a o) (opt_shaped a o) hu ?_
  rw [opt_eqv]
  exact h
theorem ne_pairs_none (N : News h₀ L s.heap news) (m1 : (D1, ({ cls := .type "tuple", data := .seq #[.int a t, optV o u] } : Obj)) ∈ news) (m2 : (D2, ({ cls := .type "tuple", data := .seq #[.int b t', .none] } : Obj)) ∈ news)
    (e : (a, o) = (b, none)) (hu : A.units + 64 < cLine) (h : Q (.bool false) s) : wpAny (model prog w) A (compareOp .NotEq (.ref D1) (.ref D2)) Q E s :=
  ne_pairs (p := none) (u' := u) N m1 m2 e hu h
end
structure JS (y : Str) (h₀ : Heap) (L : Addr) (m : Str → Option Value) (news : List (Addr × Obj)) (s : Shared) (r : Value) (s' : Shared) : Prop where
  out : ∃ t, r = Value.str y t
  here : KJoinAt h₀ L m news s s'
theorem joinS (y : Str) {M : Model} {A : Around} {E : Value → Shared → Prop} {s : Shared} {h₀ : Heap} {L : Addr} {m : Str → Option Value} {news : List (Addr × Obj)} {tree : Sem Value} {Q : Value → Shared → Prop}
    (_F : Fr h₀ L s.heap m) (_N : News h₀ L s.heap news)
    (h : wpAny M A tree (fun r s₂ => JS y h₀ L m news s r s₂) E s)
    (k : ∀ t h tk, Fr h₀ L h m → News h₀ L h news → Q (.str y t) { s with heap := h, toks := tk }) : wpAny M A tree Q E s := by
  refine wpAny_mono h (fun r s₂ q => ?_) fun _ _ x => x
  obtain ⟨⟨t, rfl⟩, ⟨h', tk', rfl, F', N'⟩⟩ := q
  exact k t h' tk' F' N'
theorem pad_neg {n : Int} (h : n < 0) : Str.ofString "-0" ++ Txt.slice (T n) (some 1) none = pad n := by unfold pad; rw [if_pos h]
theorem pad_pos {n : Int} (h : ¬ n < 0) : Str.ofString "+0" ++ T n = pad n := by unfold pad; rw [if_neg h]
theorem pad_len {n : Int} (h : (T n).length ≤ 21) : (pad n).length ≤ 23 := by
  rw [← co_len, co_pad]
  rw [← co_len, co_T] at h
  unfold sd at h
  by_cases hn : n < 0
  · rw [if_pos hn] at h ⊢; simp only [List.length_cons] at h ⊢; omega
  · rw [if_neg hn] at h ⊢; simp only [List.length_cons] at h ⊢; omega
theorem lenA {a b : Str} {i : Nat} (ha : a.length = i) (hb : b.length ≤ 23) (e : Nat.ble i 9 = true) : (a ++ b).length < 1000 := by
  rw [Str.length_append, ha]
  exact Nat.lt_of_le_of_lt (Nat.add_le_add (Nat.le_of_ble_eq_true e) hb) (by decide)
theorem lenB {a b : Str} {i : Nat} (ha : a.length = i) (hb : b.length ≤ 23) (e : Nat.ble i 9 = true) : (b ++ a).length < 1000 := by
  rw [Str.length_append, ha]
  exact Nat.lt_of_le_of_lt (Nat.add_le_add hb (Nat.le_of_ble_eq_true e)) (by decide)
theorem lenC {a b c : Str} {i j : Nat} (ha : a.length = i) (hb : b.length ≤ 23) (hc : c.length = j) (e : Nat.ble i 9 = true) (e' : Nat.ble j 9 = true) : (a ++ b ++ c).length < 1000 := by
  rw [Str.length_append, Str.length_append, ha, hc]
  exact Nat.lt_of_le_of_lt (Nat.add_le_add (Nat.add_le_add (Nat.le_of_ble_eq_true e) hb) (Nat.le_of_ble_eq_true e')) (by decide)
theorem key_none_of (w : World) (x : Str) (tx : Tok) (hx : x.length < 1000) (h : keyP x = none) (C : ConP w 116 [.str x tx] 4 (fun t => optV (keyP x) t) True) : ConP w 116 [.str x tx] 4 (fun _ => .none) True := by
  rw [h] at C
  exact C
end Mine
end
section
open PySem PySem.W PySem.Calls PyProof.Rows PySem.Builtin.Str PySem.StrLaws
set_option maxRecDepth 100000
namespace Mine
theorem turn_get {g g' : Heap} (T : KtsTurn [] g g') (b : Addr) : g'.get? b = g.get? b := by
  cases e : g.get? b with
  | none => exact T.none_ b e
  | some o => exact T.other b o e (fun h => nomatch h)
theorem fr_back {g g' h : Heap} {L : Addr} {m : Str → Option Value} (T : KtsTurn [] g g') (F : Fr g' L h m) : Fr g L h m :=
  ⟨F.ns, fun b o e => F.keep b o ((turn_get T b).trans e), T.size ▸ F.above⟩
theorem news_back {g g' h : Heap} {L : Addr} {l : List (Addr × Obj)} (T : KtsTurn [] g g') (N : News g' L h l) : News g L h l :=
  fun p hp => ⟨(N p hp).1, (N p hp).2.1, (turn_get T p.1).symm.trans (N p hp).2.2⟩
theorem useS0 {w : World} {f : Addr} {vs : List Value} {nd : Nat} {v : Tok → Value} (C : ConS w f vs nd v)
    {mean : ExcName → Option Value} {mg mb : Str → Option Value} {dp un : Nat} {gd : Option (List Code)} {cn : Str} {cs : Scope} {a : Addr} {ccd : Value} {A₀ : Around} {base h₀ : Heap} {L : Addr} {m : Str → Option Value} {news : List (Addr × Obj)} {s : Shared} {Q E : Value → Shared → Prop}
    (B : Below A₀ base [] h₀) (F : Fr h₀ L s.heap m) (X : (hK w.params).In h₀) (N : News h₀ L s.heap news) (T : Top hd.view_39 (looseW hd.view_39 []) mean mg mb h₀)
    (XB : (hK w.params).In base) (TB : Top hd.view_39 (looseW hd.view_39 []) mean mg mb base) (hk : cs.kind = .function)
    (hdp : dp + nd < recursionLimit) (hu : un + 8 * nd < cLine)
    (ret : ∀ t h' tk', Fr h₀ L h' m → News h₀ L h' news → Q (v t) { s with heap := h', toks := tk' }) :
    wpAny (model PySem.Challenge.rw_pc0241_01.row.prog w) (ktrTop dp un gd cn cs L a ccd [] []) (call (.ref f) vs) Q E s :=
  C _ _ _ _ _ _ _ _ _ _ _ _ _ _ _ _ _ _ _ _ _ B F X N T XB TB ktsDicts_nil KtsTurn.refl hk hdp hu fun t h₀' h' tk' T' F' N' _ _ _ _ => ret t h' tk' (fr_back T' F') (news_back T' N')
end Mine
namespace Mine
section
variable {prog : Program} {w : World} {A : Around} {E : Value → Shared → Prop} {s : Shared} {h₀ : Heap} {L l : Addr} {m : Str → Option Value} {news : List (Addr × Obj)} {vs : List Value} {ns : List Int} {lo hi st : Option Int} {value slice : Expr}
theorem slice3_ints {vl vu vk : Value} {ops : List Value} {Q : Value → Shared → Prop} (F : Fr h₀ L s.heap m) (N : News h₀ L s.heap news) (hl : s.heap.IsList l vs.toArray) (hi' : IntsAre vs ns) (pl : IsPart vl lo) (pu : IsPart vu hi) (pk : IsPart vk st) (h0 : st ≠ some 0)
    (h : ∀ D ws zs h', Fr h₀ L h' m → News h₀ L h' ((D, listOf ws.toArray 0) :: news) → (∀ p ∈ news, p.1 < D) → IntsAre ws zs → Q (.ref D) { s with heap := h' })
    (hs : subscripted slice false (.ref l) (.ref s.heap.objs.size) = operate ops (getItem (.ref l) (.ref s.heap.objs.size))) (ht : ∀ r, letTemporaryGo value (.ref l) r = pure ()) (hz : vs.toArray.size ≤ sizeLine) :
    wpAny (model prog w) A (subscriptTail value slice (.ref l) (.ref s.heap.objs.size)) Q E { s with heap := s.heap.push { cls := .type "slice", data := .fields #[vl, vu, vk] } } := by
  refine slice_list3 F N hl pl pu pk h0 (fun h' F' N' => h _ (slicePick vs.toArray lo hi st).toList _ h' F' ?_ (fun p hp => Nat.lt_succ_of_lt (Heap.lt_size (N p hp).1)) (hi'.pick lo hi st)) hs ht hz
  rw [Array.toArray_toList]
  exact N'
end
end Mine
namespace Mine
open LCg
noncomputable def TupAt (ax : Addr) (its : Array Value) (news : List (Addr × Obj)) : Prop := False ∨ ∃ o, (ax, o) ∈ news ∧ o.cls = .type "tuple" ∧ ∃ n, o.data = .seq its n
theorem TupAt.tup {h₀ h : Heap} {L ax : Addr} {its : Array Value} {news : List (Addr × Obj)} (x : TupAt ax its news) (N : News h₀ L h news) : h.IsTuple ax its := by
  rcases x with x | ⟨o, hm, r⟩
  · exact x.elim
  · exact ⟨o, (N _ hm).1, r⟩
noncomputable def CompSrcTup (prog : Program) (w : World) (A : Around) (h₀ : Heap) (L : Addr) (m : Str → Option Value) (env : Env) (elt : Expr) (x : Str) (scope : Scope) (cl : List (Str × Addr)) (Q : Value → Shared → Prop) (xv : Value) (s₁ : Shared) : Prop :=
  ∃ ax its news, xv = .ref ax ∧ A.handled = none ∧ Fr h₀ L s₁.heap m ∧ News h₀ L s₁.heap news ∧ TupAt ax its news ∧ its.size ≤ sizeLine ∧
    ∀ g, CompRest prog w A h₀ L m env elt x scope cl { s₁ with heap := g } (TupAt ax its) (fun i v => its[i]? = some v) (FinE h₀ L m { s₁ with heap := g } Q) its.size 0 [] news
section
variable {prog : Program} {w : World} {A : Around} {E : Value → Shared → Prop} {s : Shared} {h₀ : Heap} {L : Addr} {m : Str → Option Value} {env : Env}
theorem CompSrcTup.intro {elt : Expr} {x : Str} {scope : Scope} {cl : List (Str × Addr)} {Q : Value → Shared → Prop} {ax : Addr} {its : Array Value} {k : Nat} {news : List (Addr × Obj)} {s₁ : Shared}
    (hh : A.handled = none) (F : Fr h₀ L s₁.heap m) (N : News h₀ L s₁.heap news) (hm : (ax, ({ cls := .type "tuple", data := .seq its k } : Obj)) ∈ news) (hsz : its.size ≤ sizeLine)
    (h : ∀ g, CompRest prog w A h₀ L m env elt x scope cl { s₁ with heap := g } (TupAt ax its) (fun i v => its[i]? = some v) (FinE h₀ L m { s₁ with heap := g } Q) its.size 0 [] news) :
    CompSrcTup prog w A h₀ L m env elt x scope cl Q (.ref ax) s₁ := ⟨ax, its, news, rfl, hh, F, N, .inr ⟨_, hm, rfl, _, rfl⟩, hsz, h⟩
theorem tup_st {ax I : Addr} {its : Array Value} : ∀ i (h h' : Heap) (o : Obj) (nw : List (Addr × Obj)), (h.IsTupleIter I ax i ∧ h.IsTuple ax its) → h.get? I = some o → h'.get? I = some o → (∀ b o, h₀.get? b = some o → h'.get? b = some o) → News h₀ L h' nw → TupAt ax its nw → (h'.IsTupleIter I ax i ∧ h'.IsTuple ax its) :=
  fun i h h' o nw st e e' _ N S => ⟨by obtain ⟨o', q, r⟩ := st.1; rw [e] at q; cases q; exact ⟨o, e', r⟩, S.tup N⟩
theorem ListComp_tup {elt iter : Expr} {x : Str} {px : Pos} {scope : Scope} {cl : List (Str × Addr)} {pos : Pos} {Q : Value → Shared → Prop} (F₀ : Fr h₀ L s.heap m)
    (hclos : closureFor scope env = pure cl) (hcell : ∀ y ∈ scope.names, y.2 ≠ .cell) (hkind : scope.kind = .function)
    (hnames : ∀ y ∈ scope.names, y.2 = .local → scope.names.lookup y.1 = some .local) (hx : scope.names.lookup x = some .local)
    (h : wpAny (model prog w) A (eval iter env) (CompSrcTup prog w A h₀ L m env elt x scope cl Q) E s)
    (hs : ∀ x, foldedSetIterable iter env x = pure x := by intro _; rfl) :
    wpAny (model prog w) A (eval (.ListComp elt [⟨.Name x px, iter, [], 0⟩] scope pos) env) Q E s := by
  rw [eval_ListComp]
  refine wpAny_comprehension_free (use := none) rfl hs hclos hkind hnames (wpAny_mono h (fun xv s₁ h₁ => ?_) fun _ _ e => e)
  obtain ⟨ax, its, news, rfl, hh, F, N, S, hsz, R⟩ := h₁
  have hl := S.tup N
  have hlt : ax < s₁.heap.objs.size := by obtain ⟨_, e, _⟩ := hl; exact Heap.lt_size e
  refine wpAny_pyIter_tuple hl ?_
  have up : ∀ b o, s₁.heap.get? b = some o → (s₁.heap.push { cls := .type "tuple_iterator", data := .fields #[.ref ax, .int 0 0] }).get? b = some o := fun b o e => Heap.get?_push_of_some _ e
  refine block_U (Walks.tuple hh s₁.heap.objs.size ax (Nat.ne_of_lt hlt) its) hsz (fun i h st => by obtain ⟨o, e, _⟩ := st.1; exact ⟨o, e⟩) tup_st hcell hkind hx ⟨⟨_, Heap.get?_push_size _ rfl, rfl, rfl⟩, hl.at fun o e => up _ o e⟩ (fun b hb => ?_)
    (F.keeps up) (N.grown up) (Nat.ne_of_lt F.ns.lt) (next_is_new F) (fun p hp => Nat.ne_of_lt (Heap.lt_size (N p hp).1)) S (R _) ?_
  · show b < (s₁.heap.push _).objs.size
    rw [Heap.size_push]
    rcases List.mem_cons.mp hb with rfl | hb
    · exact Nat.lt_succ_self _
    · rw [List.mem_singleton.mp hb]; exact Nat.lt_succ_of_lt hlt
  · intro D C h tk m' ys news' F' N' o1 hn hC₀ hD₀ hCL hDL hCD offC fin
    refine ⟨m', hn, fun h'' hs'' => fin D h'' tk (F'.change hs'' hCL hC₀) (fun p hp => ?_) o1⟩
    refine ⟨hs''.extBut _ _ ?_ (N' p hp).1, (N' p hp).2⟩
    rcases List.mem_cons.mp hp with rfl | hp
    · exact Ne.symm hCD
    · exact offC p hp
end
end Mine
namespace Mine
theorem compEndKeep {h₀ : Heap} {L I C D : Addr} {m : Str → Option Value} {s₁ : Shared} {oI oC oD : Obj} {S : List (Addr × Obj) → Prop} {rest : Value → List (Addr × Obj) → Prop} {y : Value} {h' : Heap} {tk : Nat} {news : List (Addr × Obj)}
    (F : Fr h₀ L h' m) (N : News h₀ L h' ((I, oI) :: (C, oC) :: (D, oD) :: news)) (off : LCg.Off3 I C D news) (hS : S news) (r : rest y news) :
    LCg.CompEnd h₀ L m s₁ I oI C oC D oD S rest y { s₁ with heap := h', toks := tk } := ⟨h', tk, news, rfl, F, N, off, hS, r⟩
end Mine
namespace Mine
section
variable {prog : Program} {w : World} {A : Around} {E : Value → Shared → Prop} {s : Shared} {h₀ : Heap} {L : Addr} {news : List (Addr × Obj)} {D1 D2 : Addr} {j k : Nat} {Q : Value → Shared → Prop}
theorem nones_shaped : SeqAt.shaped (.list [.none, .none, .none, .none, .none]) = true := by
  simp [SeqAt.shaped, PyData.canLay0, PyData.canLayAll0, PyData.depth, PyData.depthAll]
theorem eq_nones (N : News h₀ L s.heap news) (m1 : (D1, ({ cls := .type "list", data := .seq #[.none, .none, .none, .none, .none] j } : Obj)) ∈ news) (m2 : (D2, ({ cls := .type "list", data := .seq #[.none, .none, .none, .none, .none] k } : Obj)) ∈ news)
    (hu : A.units + 64 < cLine) (h : Q (.bool true) s) : wpAny (model prog w) A (compareOp .Eq (.ref D1) (.ref D2)) Q E s := by
  refine eq_dataH (reads_list_at (N _ m1).1 rfl rfl (.cons .none (.cons .none (.cons .none (.cons .none (.cons .none .nil)))))) (reads_list_at (N _ m2).1 rfl rfl (.cons .none (.cons .none (.cons .none (.cons .none (.cons .none .nil)))))) nones_shaped nones_shaped hu ?_
  rw [show PyData.eqv (.list [.none, .none, .none, .none, .none]) (.list [.none, .none, .none, .none, .none]) = true by simp [PyData.eqv, PyData.eqvAll]]
  exact h
end
end Mine
namespace Mine
theorem p66 : (2 : Int) ^ Int.toNat 66 = 73786976294838206464 := by decide +kernel
theorem p65 : (2 : Int) ^ Int.toNat 65 = 36893488147419103232 := by decide +kernel
theorem p63 : (2 : Int) ^ Int.toNat 63 = 9223372036854775808 := by decide +kernel
theorem lowA (n : Int) : -100000000000000000000 < n.fmod (2 ^ Int.toNat 66) - 2 ^ Int.toNat 65 := by
  rw [p66, p65]; have := Int.fmod_nonneg_of_pos n (b := 73786976294838206464) (by decide); omega
theorem lowB (n : Int) : n.fmod (2 ^ Int.toNat 66) - 2 ^ Int.toNat 65 < 100000000000000000000 := by
  rw [p66, p65]; have := Int.fmod_lt_of_pos n (b := 73786976294838206464) (by decide); omega
theorem lowC (n : Int) : -100000000000000000000 < 2 ^ Int.toNat 63 + n.fmod 5 - 3 := by
  rw [p63]; have := Int.fmod_nonneg_of_pos n (b := 5) (by decide); omega
theorem lowD (n : Int) : 2 ^ Int.toNat 63 + n.fmod 5 - 3 < 100000000000000000000 := by
  rw [p63]; have := Int.fmod_lt_of_pos n (b := 5) (by decide); omega
theorem lowE (n : Int) : -100000000000000000000 < n.fmod 7 - 3 - 2 ^ Int.toNat 63 := by
  rw [p63]; have := Int.fmod_nonneg_of_pos n (b := 7) (by decide); omega
theorem lowF (n : Int) : n.fmod 7 - 3 - 2 ^ Int.toNat 63 < 100000000000000000000 := by
  rw [p63]; have := Int.fmod_lt_of_pos n (b := 7) (by decide); omega
end Mine
end
section
open PySem PySem.W PySem.Calls PyProof.Rows
set_option maxRecDepth 100000
set_option maxHeartbeats 20000000
namespace Mine
theorem key_number_none (w : World) (x : Str) (tx : Tok) (hx : x.length < 1000) (h : keyP x = none) : ConP w 116 [.str x tx] 4 (fun _ => .none) True := key_none_of w x tx hx h (key_number_con w x tx hx)
theorem law_number_right_con (w : World) (n : Int) (tn : Tok) (h1 : -100000000000000000000 < n) (h2 : n < 100000000000000000000) : ConS w 227 [.int n tn] 24 (fun _ => .bool true) := by
  unfold ConS
  intro mean mg mb dp un gd cn cs a ccd outer A₀ base g₀ h₀ L m news s Q E B F X N T XB TB D T0 hk hd hu hret
  k_with_none
  k_with "eq9" => first | (first | with_reducible assumption | exact congrArg Prod.snd (by with_reducible assumption)) | fail "next"
  k_with "compareOp NotEq" => first | ((k_here; (refine ne_opt (by walk_at "eq9") ?_))) | fail "next"
  k_with "compareOp NotEq ref ref" => first | ((k_here; k_dflt (first
        | (refine' ne_pairs ?Nq7 ?m1q7 ?m2q7 ?eq7 ?uq7 ?_; (case Nq7 => k_asm); (case m1q7 => k_mem); (case m2q7 => k_mem); (case eq7 => with_reducible assumption); (case uq7 => first | exact units3 (by with_reducible assumption) (by exact rfl) (by exact rfl) | ke_room); k_whole)
        | (refine' ne_pairs_none ?Nq7 ?m1q7 ?m2q7 ?eq7 ?uq7 ?_; (case Nq7 => k_asm); (case m1q7 => k_mem); (case m2q7 => k_mem); (case eq7 => with_reducible assumption); (case uq7 => first | exact units3 (by with_reducible assumption) (by exact rfl) (by exact rfl) | ke_room); k_whole)))) | fail "next"
  k_with "MSTEP" => first | (first | (k_unfold; (try dsimp only)) | (k_end; wrow_close) | walk1 | (dsimp only; walk1) | (leave1; walk_say "STEP leave1"; try dsimp only) | fail "no step") | fail "next"
  k_with "call ref" => first | ((k_here; k_dflt (refine' useT (numeric_con _ _ _ ?c0q7) ?k1q7 ?k2q7 ?k3q7 ?k4q7 ?k5q7 ?kKq7 ?kdq7 ?kuq7 ?_; (case k1q7 => k_asm); (case k2q7 => k_asm); (case k3q7 => k_asm); (case k4q7 => k_asm); (case k5q7 => k_asm); (case kKq7 => first | exact rfl | assumption); (case kdq7 => first | exact room1 (by with_reducible assumption) (by exact rfl) (by exact rfl) | ktr_room); (case kuq7 => first | exact units3 (by with_reducible assumption) (by exact rfl) (by exact rfl) | ktr_units); (case c0q7 => first | with_reducible assumption | omega); k_whole; (intro Dz tz uz hz tkz Fz Nz lz; (try dsimp only at Nz); (try dsimp only); (try k_fold))))) | fail "next"
  k_with "call ref" => first | ((k_here; k_dflt (refine' useS (law_read_con _ _ _ ?c0q7) ?k1q7 ?k2q7 ?k3q7 ?k4q7 ?k5q7 ?XBq7 ?TBq7 ?Dq7 ?T0q7 ?kKq7 ?kdq7 ?kuq7 ?_; (case k2q7 => k_asm); (case k1q7 => k_asm); (case k3q7 => k_asm); (case k4q7 => k_asm); (case k5q7 => k_asm); (case XBq7 => assumption); (case TBq7 => assumption); (case Dq7 => assumption); (case T0q7 => first | assumption | exact KtsTurn.refl); (case kKq7 => first | exact rfl | assumption); (case kdq7 => first | exact room1 (by with_reducible assumption) (by exact rfl) (by exact rfl) | ktr_room); (case kuq7 => first | exact units3 (by with_reducible assumption) (by exact rfl) (by exact rfl) | ktr_units); (case c0q7 => first | with_reducible assumption | omega); k_whole; (intro tz gz hz tkz kTz kFz kNz kBz kXz kPz kDz; (have kYz := kFor kFz kXz); (try k_lift kBz); (try dsimp only); (try k_fold))))) | fail "next"
  k_with "call ref" => first | ((k_here; k_dflt (refine' useP (key_number_con _ _ _ ?c0q7) ?k1q7 ?k2q7 ?k3q7 ?k4q7 ?k5q7 ?kKq7 ?kdq7 ?kuq7 ?_; (case k1q7 => k_asm); (case k2q7 => k_asm); (case k3q7 => k_asm); (case k4q7 => k_asm); (case k5q7 => k_asm); (case kKq7 => first | exact rfl | assumption); (case kdq7 => first | exact room1 (by with_reducible assumption) (by exact rfl) (by exact rfl) | ktr_room); (case kuq7 => first | exact units3 (by with_reducible assumption) (by exact rfl) (by exact rfl) | ktr_units); (case c0q7 => first | with_reducible assumption | omega | walk_at "len9"); k_whole; (intro tz hz tkz gz Fz Nz; (try dsimp only); (try k_fold))))) | fail "next"
  k_with "call ref" => first | ((k_here; k_dflt (refine' useP (law_within_con _ _ _ ) ?k1q7 ?k2q7 ?k3q7 ?k4q7 ?k5q7 ?kKq7 ?kdq7 ?kuq7 ?_; (case k1q7 => k_asm); (case k2q7 => k_asm); (case k3q7 => k_asm); (case k4q7 => k_asm); (case k5q7 => k_asm); (case kKq7 => first | exact rfl | assumption); (case kdq7 => first | exact room1 (by with_reducible assumption) (by exact rfl) (by exact rfl) | ktr_room); (case kuq7 => first | exact units3 (by with_reducible assumption) (by exact rfl) (by exact rfl) | ktr_units); k_whole; (intro tz hz tkz gz Fz Nz; (try dsimp only); (try k_fold))))) | fail "next"
  k_with "eval ListComp" => first | ((k_here; k_dflt (refine ListComp_tup (F₀ := by k_asm) (by with_unfolding_all rfl) (by decide) (by rfl) (by decide) (by rfl) ?_))) | fail "next"
  k_with "CompSrcTup" => first | ((k_here; k_dflt (refine CompSrcTup.intro (by rfl) (by k_asm) (by k_asm) (by k_mem) (by first | size_fits | exact Nat.le_of_ble_eq_true rfl) ?_; intro g'; lcg_lit))) | fail "next"
  k_with "CompEnd" => first | ((refine compEndKeep (by assumption) (by assumption) ?kOq7 (Or.inr ⟨_, by k_mem, rfl, _, rfl⟩) ?_; (case kOq7 => with_reducible assumption))) | fail "next"
  k_with "CompRest" => first | ((with_unfolding_all first
        | (refine LCg.CompRest.succ ?_; intro v' I' oI' C' oC' D' m' h' tk' E' hv' hC' hx' F' N' off' ne'; lcg_open hv')
        | refine LCg.CompRest.zero ?_)) | fail "next"
  k_with "binaryOp Mult ref int" => first | ((k_here; k_dflt (refine' KMa.mul (vs := [Value.none]) (ws := [Value.none, Value.none, Value.none, Value.none, Value.none]) ?Fq7 ?Nq7 ?lq7 ?loq7 ?hiq7 ?zq7 ?eq7 ?_; (case Fq7 => k_asm); (case Nq7 => k_asm); (case lq7 => exact News.isList (by k_asm) (by k_mem)); (case loq7 => decide); (case hiq7 => decide); (case zq7 => decide); (case eq7 => rfl); k_whole); intro D' h' F' N' l1)) | fail "next"
  k_with "compareOp Eq ref ref" => first | ((k_here; k_dflt (refine' eq_nones ?Nq7 ?m1q7 ?m2q7 ?uq7 ?_; (case Nq7 => k_asm); (case m1q7 => k_mem); (case m2q7 => k_mem); (case uq7 => first | exact units3 (by with_reducible assumption) (by exact rfl) (by exact rfl) | ke_room); k_whole))) | fail "next"
  k_with "JV" => first | (exact ⟨rfl, ⟨⟨_, _, rfl, by assumption, (by first | k_asm | (refine' cb_drop ?cbNq7 ?cbSq7; (case cbNq7 => assumption); (case cbSq7 => kcj_all)))⟩⟩⟩) | fail "next"
  k_with "call ref" => first | ((k_here; k_dflt (refine' useP (key_number_none _ _ _ ?c0q7 ?c1q7) ?k1q7 ?k2q7 ?k3q7 ?k4q7 ?k5q7 ?kKq7 ?kdq7 ?kuq7 ?_; (case k1q7 => k_asm); (case k2q7 => k_asm); (case k3q7 => k_asm); (case k4q7 => k_asm); (case k5q7 => k_asm); (case kKq7 => first | exact rfl | assumption); (case kdq7 => first | exact room1 (by with_reducible assumption) (by exact rfl) (by exact rfl) | ktr_room); (case kuq7 => first | exact units3 (by with_reducible assumption) (by exact rfl) (by exact rfl) | ktr_units); (case c0q7 => first | with_reducible assumption | omega | walk_at "len9"); (case c1q7 => with_reducible assumption); k_whole; (intro tz hz tkz gz Fz Nz; (try dsimp only); (try k_fold))))) | fail "next"
  refine wpAny_call ?_
  k_dflt (refine' code_defS B F X N T XB TB D T0 ?kA ?k6 ?k7 ?k8 ?k9 ?kB ?_ hk ?c2 ?c3 ?c4 ?c5; (case kA => exact rfl); (case k6 => k_is); (case k7 => k_is); (case k8 => ktr_room); (case k9 => exact BindsTo.of_eq rfl); (case kB => exact locs rfl); (case c2 => exact rfl); (case c3 => exact rfl); (case c4 => exact rfl); (case c5 => decide); k_whole; intro g' L' h' FG' F' N' B' X' T' D'; (try dsimp only); (try k_lift B'); (try k_fold))
  (rename Fr _ _ _ _ => F0); have FQ1 := lkF F0 (l' := [(Str.ofString "n", Value.int n tn)]) (by kernel_rfl); clear F0
  have hT := T_len h1 h2
  have hP := pad_len hT
  have l1 : (Str.ofString "\n ").length = 2 := by decide +kernel
  have l2 : (Str.ofString "\x0c").length = 1 := by decide +kernel
  have l3 : (Str.ofString " a").length = 2 := by decide +kernel
  have l4 : (Str.ofString ".").length = 1 := by decide +kernel
  have l5 : (Str.ofString "e0").length = 2 := by decide +kernel
  have l6 : (Str.ofString " ").length = 1 := by decide +kernel
  have l7 : (Str.ofString "a").length = 1 := by decide +kernel
  have f1 := F1 n
  have f2 := F2 n
  have f3 := F3 n
  have f4 := F4 n
  have f5 := F5 n
  have f6 := F6 n
  have f7 := F7 n
  have f2s := congrArg Prod.snd f2
  dsimp only at f2s
  unfold Mine.T at hT f1 f2 f2s f3 f4 f5 f7
  have g1 := F8a n
  have g2 := F8b n
  have g3 := F8c n
  have g4 := F8d n
  have g5 := F8e n
  unfold Mine.T at g1 g2 g4 g5
  have hT3 := Nat.le_trans hT (by decide : 21 ≤ 23)
  have q0 := Nat.lt_of_le_of_lt hT (by decide : 21 < 1000)
  have q00 := Nat.lt_of_le_of_lt hP (by decide : 23 < 1000)
  have q1 := lenC l1 hT3 l2 rfl rfl
  have q2 := lenB l3 hT3 rfl
  have q3 := lenB l4 hT3 rfl
  have q4 := lenB l5 hT3 rfl
  have q5 := lenA l6 hT3 rfl
  have q6 := lenB l6 hT3 rfl
  have q7 := lenA l7 hT3 rfl
  repeat' ((fail_if_success (with_reducible show wpAny _ _ (isTrue (PySem.Expr.BoolOp _ [_, _, _] _) _ _) _ _ _)); walk_at "MSTEP")
  walk_at "MSTEP"
  repeat' ((fail_if_success (with_reducible show wpAny _ _ (isTrue (PySem.Expr.BoolOp _ [_, _, _] _) _ _) _ _ _)); walk_at "MSTEP")
  (rename Fr _ _ _ _ => F8); (rename News _ _ _ _ => N8)
  have N9 := cb_drop (news := news) N8 (by kcj_all)
  clear N8
  refine joinV false F8 N9 ?_ ?_
  · repeat' walk_at "MSTEP"
  intro h6 tk6 F6 N6
  clear F8 N9
  try simp only [Bool.false_eq_true, if_false]
  repeat' ((fail_if_success (with_reducible show wpAny _ _ (eval (PySem.Expr.IfExp _ _ _ _) _) _ _ _)); walk_at "MSTEP")
  (rename Fr _ _ _ _ => F8); (rename News _ _ _ _ => N8)
  refine joinS (pad n) F8 N8 ?_ ?_
  · k_steps
    · exact ⟨⟨_, congrArg (Value.str · _) (pad_neg (by assumption))⟩, ⟨⟨_, _, rfl, by assumption, (by first | k_asm | (refine' cb_drop ?cbN ?cbS; (case cbN => assumption); (case cbS => kcj_all)))⟩⟩⟩
    · exact ⟨⟨_, congrArg (Value.str · _) (pad_pos (by assumption))⟩, ⟨⟨_, _, rfl, by assumption, (by first | k_asm | (refine' cb_drop ?cbN ?cbS; (case cbN => assumption); (case cbS => kcj_all)))⟩⟩⟩
  intro t7 h7 tk7 F7 N7
  clear F8 N8
  repeat' ((fail_if_success (with_reducible show wpAny _ _ (isTrue (PySem.Expr.BoolOp _ [_, _] _) _ _) _ _ _)); walk_at "MSTEP")
  (rename Fr _ _ _ _ => F8); (rename News _ _ _ _ => N8)
  refine joinV false F8 N8 ?_ ?_
  · repeat' walk_at "MSTEP"
  intro h5 tk5 F5 N5
  clear F8 N8
  try simp only [Bool.false_eq_true, if_false]
  repeat' ((fail_if_success (with_reducible show wpAny _ _ (eval (PySem.Expr.Compare _ _ _ _) _) _ _ _)); walk_at "MSTEP")
  repeat' walk_at "MSTEP"
  exact retS hret 0 (by assumption) (by k_asm) (by first | k_asm | (refine' cb_drop ?cbN ?cbS; (case cbN => assumption); (case cbS => kcj_all))) (by assumption) (by assumption) (by assumption) (by assumption) rfl
end Mine
end
section
open PySem PySem.W PySem.Calls PyProof.Rows
set_option maxRecDepth 100000
namespace Mine
inductive IntLits : List Expr → List Int → Prop
  | nil : IntLits [] []
  | cons (i : Int) (k : Nat) (pos : Pos) {es : List Expr} {ns : List Int} : IntLits es ns → IntLits (.Constant (.int i) k pos :: es) (i :: ns)
theorem spliced_ints {M : Model} {A : Around} {E : Value → Shared → Prop} {env : Env} {pos : Pos} {elts : List Expr} {ns : List Int} (h : IntLits elts ns) :
    ∀ {s : Shared} {Q : List Value → Shared → Prop}, (∀ vs tk, IntsAre vs ns → Q vs { s with toks := tk }) → wpAny M A (spliced (backTo pos (starEach elts env))) Q E s := by
  induction h with
  | nil => exact fun ret => args_nil (ret [] _ .nil)
  | cons i k pos _ ih => exact fun {s Q} ret => args_cons (wpAny_Constant_int (ih fun vs tk hv => ret (.int i s.toks :: vs) tk (.cons i s.toks hv)))
theorem eval_ints {prog : Program} {w : World} {A : Around} {E : Value → Shared → Prop} {s : Shared} {h₀ : Heap} {L : Addr} {m : Str → Option Value} {news : List (Addr × Obj)} {env : Env} {pos : Pos} {elts : List Expr} {ns : List Int} {Q : Value → Shared → Prop}
    (F : Fr h₀ L s.heap m) (N : News h₀ L s.heap news) (h : IntLits elts ns) (hl : Nat.ble ns.length 1000 = true)
    (ret : ∀ l vs h' tk', IntsAre vs ns → Fr h₀ L h' m → News h₀ L h' ((l, listOf vs.toArray 0) :: news) → (∀ p ∈ news, p.1 < l) → Q (.ref l) { s with heap := h', toks := tk' }) :
    wpAny (model prog w) A (eval (.List elts pos) env) Q E s :=
  List_ (spliced_ints h fun vs tk hv => newList_K (s := { s with toks := tk }) F N (fun l h' F' N' lt => ret l vs h' tk hv F' N' lt) (by rw [IntsAre.length hv]; exact Nat.le_trans (Nat.le_of_ble_eq_true hl) (by decide)))
noncomputable def fixedNews (D l5 l4 l3 l2 l1 : Addr) (v5 v4 v3 v2 v1 : List Value) : List (Addr × Obj) :=
  [(D, listOf #[.ref l1, .ref l2, .ref l3, .ref l4, .ref l5] 0), (l5, listOf v5.toArray 0), (l4, listOf v4.toArray 0), (l3, listOf v3.toArray 0), (l2, listOf v2.toArray 0), (l1, listOf v1.toArray 0)]
noncomputable def ConF (w : World) (f : Addr) (nd : Nat) : Prop :=
  ∀ (mean : ExcName → Option Value) (mg mb : Str → Option Value) (dp un : Nat) (gd : Option (List Code)) (cn : Str) (cs : Scope) (a : Addr) (ccd : Value) (cl : List (Str × Addr)) (outer : List Env) (A₀ : Around) (base h₀ : Heap) (L : Addr) (m : Str → Option Value) (s : Shared) (Q E : Value → Shared → Prop),
    Below A₀ base outer h₀ → Fr h₀ L s.heap m → (hK w.params).In h₀ → News h₀ L s.heap [] → Top hd.view_39 (looseW hd.view_39 []) mean mg mb h₀ → cs.kind = .function →
    dp + nd < recursionLimit → un + 8 * nd < cLine →
    (∀ (D l5 l4 l3 l2 l1 : Addr) (v5 v4 v3 v2 v1 : List Value) (h' : Heap) (tk' : Nat), Fr h₀ L h' m → News h₀ L h' (fixedNews D l5 l4 l3 l2 l1 v5 v4 v3 v2 v1) →
      IntsAre v1 [2, 0, 7, 3, 3, 8, 13, 1, 0] → IntsAre v2 [0, 2, 1, 9] → IntsAre v3 [1, 7, 5, 0, 0] → IntsAre v4 [1, 8, 1, 4, 8, 9, 6, 12] → IntsAre v5 [2, 4, 5, 0, 4, 8, 12, 8, 13] →
      (l1 < l2) → (l2 < l3 ∧ l1 < l3) → (l3 < l4 ∧ l2 < l4 ∧ l1 < l4) → (l4 < l5 ∧ l3 < l5 ∧ l2 < l5 ∧ l1 < l5) → (l5 < D ∧ l4 < D ∧ l3 < D ∧ l2 < D ∧ l1 < D) → Q (.ref D) { s with heap := h', toks := tk' }) →
    wpAny (model PySem.Challenge.rw_pc0241_01.row.prog w) (ktrTop dp un gd cn cs L a ccd cl outer) (call (.ref f) []) Q E s
theorem useF {w : World} {f : Addr} {nd : Nat} (C : ConF w f nd)
    {mean : ExcName → Option Value} {mg mb : Str → Option Value} {dp un : Nat} {gd : Option (List Code)} {cn : Str} {cs : Scope} {a : Addr} {ccd : Value} {cl : List (Str × Addr)} {outer : List Env} {A₀ : Around} {base h₀ : Heap} {L : Addr} {m : Str → Option Value} {s : Shared} {Q E : Value → Shared → Prop}
    (B : Below A₀ base outer h₀) (F : Fr h₀ L s.heap m) (X : (hK w.params).In h₀) (N : News h₀ L s.heap []) (T : Top hd.view_39 (looseW hd.view_39 []) mean mg mb h₀) (hk : cs.kind = .function)
    (hdp : dp + nd < recursionLimit) (hu : un + 8 * nd < cLine)
    (ret : ∀ (D l5 l4 l3 l2 l1 : Addr) (v5 v4 v3 v2 v1 : List Value) (h' : Heap) (tk' : Nat), Fr h₀ L h' m → News h₀ L h' [(D, listOf #[.ref l1, .ref l2, .ref l3, .ref l4, .ref l5] 0), (l5, listOf v5.toArray 0), (l4, listOf v4.toArray 0), (l3, listOf v3.toArray 0), (l2, listOf v2.toArray 0), (l1, listOf v1.toArray 0)] →
      IntsAre v1 [2, 0, 7, 3, 3, 8, 13, 1, 0] → IntsAre v2 [0, 2, 1, 9] → IntsAre v3 [1, 7, 5, 0, 0] → IntsAre v4 [1, 8, 1, 4, 8, 9, 6, 12] → IntsAre v5 [2, 4, 5, 0, 4, 8, 12, 8, 13] →
      (l1 < l2) → (l2 < l3 ∧ l1 < l3) → (l3 < l4 ∧ l2 < l4 ∧ l1 < l4) → (l4 < l5 ∧ l3 < l5 ∧ l2 < l5 ∧ l1 < l5) → (l5 < D ∧ l4 < D ∧ l3 < D ∧ l2 < D ∧ l1 < D) → Q (.ref D) { s with heap := h', toks := tk' }) :
    wpAny (model PySem.Challenge.rw_pc0241_01.row.prog w) (ktrTop dp un gd cn cs L a ccd cl outer) (call (.ref f) []) Q E s :=
  C _ _ _ _ _ _ _ _ _ _ _ _ _ _ _ _ _ _ _ _ B F X N T hk hdp hu ret
end Mine
end
section
open PySem PySem.W PySem.Calls PyProof.Rows
set_option maxRecDepth 100000
set_option maxHeartbeats 20000000
namespace Mine
theorem law_fixed_con (w : World) : ConF w 137 2 := by
  unfold ConF
  intro mean mg mb dp un gd cn cs a ccd cl outer A₀ base h₀ L m s Q E B F X N T hk hd hu hret
  k_with_none
  k_with "eval List" => first | ((k_here; k_dflt (refine' eval_ints ?Fq7 ?Nq7 ?hq7 ?hlq7 ?_; (case Fq7 => k_asm); (case Nq7 => k_asm); (case hq7 => (repeat' (first | exact IntLits.nil | refine' IntLits.cons _ _ _ ?_))); (case hlq7 => exact rfl); k_whole); intro lz vz hz tkz iz Fz Nz tz; (try k_lt tz); (try dsimp only); (try k_fold))) | fail "next"
  refine wpAny_call ?_
  k_dflt ktr_enter
  k_steps
  exact hret _ _ _ _ _ _ _ _ _ _ _ _ _ (by k_asm) (by k_asm) (by assumption) (by assumption) (by assumption) (by assumption) (by assumption) (by k_asm) (by k_asm) (by k_asm) (by k_asm) (by k_asm)
end Mine
end
section
open PySem PySem.W PySem.Calls PyProof.Rows
set_option maxRecDepth 100000
namespace Mine
structure TurnText (M : Model) (A : Around) (E : Value → Shared → Prop) (tree : Sem Bool) (h₀ : Heap) (L : Addr) (m₁ : Str → Option Value) (s : Shared) : Prop where
  go : ∀ (k : Int) (t : Tok) (l : Addr) (v : List Value) (n : List Int) (h : Heap) (tk : Nat) (news : List (Addr × Obj)), 0 ≤ k → k < 5 → IntsAre v n → n.length < 90 →
    Fr h₀ L h (fun y => if y = Str.ofString "fixed" then some (.ref l) else if y = Str.ofString "nth" then some (.int k t) else m₁ y) → News h₀ L h ((l, listOf v.toArray 0) :: news) →
    wpAny M A tree (fun r s₂ => JV false h₀ L (fun y => if y = Str.ofString "fixed" then some (.ref l) else if y = Str.ofString "nth" then some (.int k t) else m₁ y) news { s with heap := h, toks := tk } r s₂) E { s with heap := h, toks := tk }
theorem turnsBy {M : Model} {A : Around} {E : Value → Shared → Prop} {tree : Sem Bool} {h₀ : Heap} {L : Addr} {m₁ : Str → Option Value} {s : Shared} {G : Prop}
    (use : TurnText M A E tree h₀ L m₁ s → G) (key : TurnText M A E tree h₀ L m₁ s) : G := use key
theorem joinTurn {M : Model} {A : Around} {E : Value → Shared → Prop} {tree : Sem Bool} {h₀ : Heap} {L : Addr} {m m₁ : Str → Option Value} {s : Shared} {h : Heap} {tk : Nat} {news : List (Addr × Obj)} {k : Int} {t : Tok} {l : Addr} {v : List Value} {n : List Int} {Q : Bool → Shared → Prop}
    (T : TurnText M A E tree h₀ L m₁ s) (F : Fr h₀ L h m) (N : News h₀ L h news)
    (hm : m = fun y => if y = Str.ofString "fixed" then some (.ref l) else if y = Str.ofString "nth" then some (.int k t) else m₁ y)
    (hl : (l, listOf v.toArray 0) ∈ news) (hk : 0 ≤ k) (hk2 : k < 5) (hI : IntsAre v n) (hn : n.length < 90)
    (cont : ∀ h' tk', Fr h₀ L h' (fun y => if y = Str.ofString "fixed" then some (.ref l) else if y = Str.ofString "nth" then some (.int k t) else m₁ y) → News h₀ L h' news → Q false { s with heap := h', toks := tk' }) :
    wpAny M A tree Q E { s with heap := h, toks := tk } := by
  subst hm
  refine wpAny_mono (T.go k t l v n h tk news hk hk2 hI hn F (fun p hp => ?_)) (fun r s₂ q => ?_) fun _ _ x => x
  · rcases List.mem_cons.mp hp with rfl | hp
    · exact N _ hl
    · exact N p hp
  · obtain ⟨rfl, ⟨h', tk', rfl, F', N'⟩⟩ := q
    exact cont h' tk' F' N'
theorem flatMap {A B : Str} {a b c d : Option Value} {m : Str → Option Value} :
    (fun y => if y = A then a else if y = B then b else if y = A then c else if y = B then d else m y) = fun y => if y = A then a else if y = B then b else m y := by
  funext y
  by_cases h1 : y = A
  · simp only [h1, if_true]
  · by_cases h2 : y = B
    · simp only [h1, h2, if_true, if_false]
    · simp only [h1, h2, if_false]
end Mine
end
section
open PySem PySem.W PySem.Calls PyProof.Rows
set_option maxRecDepth 100000
set_option maxHeartbeats 20000000
namespace Mine
theorem law_goes : PySem.Challenge.rw_pc0241_01.Holds := by
  k_with_none
  k_with "exec For Tuple Call cons nil" => first | ((k_here; (rename Fr _ _ _ _ => lF'); (with_unfolding_all refine' For_turns lF' ?_; k_whole))) | fail "next"
  k_with "MSTEP" => first | (first | (k_unfold; (try dsimp only)) | (k_end; wrow_close) | walk1 | (dsimp only; walk1) | (leave1; walk_say "STEP leave1"; try dsimp only) | fail "no step") | fail "next"
  k_with "subscriptTail Name Slice ref ref" => first | ((k_here; (with_reducible show wpAny _ _ (subscriptTail _ (PySem.Expr.Slice _ _ (some _) _) (Value.ref _) (Value.ref _)) _ _ _); k_dflt (refine' slice3_ints ?Fq7 ?Nq7 ?lq7 ?iq7 ?pq7 ?qq7 ?kq7 ?oq7 ?_ ?sq7 ?tq7 ?zq7; (case Fq7 => k_asm); (case Nq7 => k_asm); (case lq7 => is_list); (case pq7 => kmk_part); (case qq7 => kmk_part); (case kq7 => kmk_part); (case oq7 => decide); (case iq7 => l_ints); (case sq7 => with_unfolding_all rfl); (case tq7 => kmk_pure); (case zq7 => kmk_size)); intro D' ws' zs' h' F' N' l1 hI'; (try k_lt l1); (try k_sweep))) | fail "next"
  k_with "call ref" => first | ((k_here; (show wpAny _ _ (call (Value.ref 151) _) _ _ _); k_dflt (refine' usePen (law_text_con _ _) ?k1q7 ?k2q7 ?k3q7 ?k4q7 ?Uq7 ?iq7 ?lq7 ?l2q7 ?k5q7 ?kKq7 ?kdq7 ?kuq7 ?_; (case k1q7 => k_asm); (case k2q7 => k_asm); (case k3q7 => k_asm); (case k4q7 => k_asm); (case Uq7 => k_updF); (case k5q7 => k_asm); (case iq7 => l_ints); (case lq7 => first | assumption | exact Nat.le_of_ble_eq_true rfl | (simp only [List.length_append, List.length_cons, List.length_nil]; omega)); (case l2q7 => first | assumption | exact Nat.le_of_ble_eq_true rfl | (simp only [List.length_append, List.length_cons, List.length_nil]; omega)); (case kKq7 => first | exact rfl | assumption); (case kdq7 => first | exact room1 (by with_reducible assumption) (by exact rfl) (by exact rfl) | ktr_room); (case kuq7 => first | exact units3 (by with_reducible assumption) (by exact rfl) (by exact rfl) | ktr_units); k_whole); intro vz vsz nsz nz hz tkz rz iz lz mz Fz Nz; obtain ⟨yz, tz, ez, bz⟩ := rz; subst ez; (try dsimp only at Nz); (try dsimp only); (try k_fold))) | fail "next"
  k_with "call ref" => first | ((k_here; (show wpAny _ _ (call (Value.ref 222) _) _ _ _); k_dflt (refine' useS0 (law_text_right_con _ _ _ ?c0q7) ?k1q7 ?k2q7 ?k3q7 ?k4q7 ?k5q7 ?XBq7 ?TBq7 ?kKq7 ?kdq7 ?kuq7 ?_; (case k1q7 => k_asm); (case k2q7 => k_asm); (case k3q7 => k_asm); (case k4q7 => k_asm); (case k5q7 => k_asm); (case XBq7 => k_asm); (case TBq7 => k_asm); (case kKq7 => first | exact rfl | assumption); (case kdq7 => first | exact room1 (by with_reducible assumption) (by exact rfl) (by exact rfl) | ktr_room); (case kuq7 => first | exact units3 (by with_reducible assumption) (by exact rfl) (by exact rfl) | ktr_units); (case c0q7 => assumption); k_whole); intro tz hz tkz Fz Nz; (try dsimp only); (try k_fold))) | fail "next"
  k_with "call ref" => first | ((k_here; (show wpAny _ _ (call (Value.ref 227) _) _ _ _); k_dflt (refine' useS0 (law_number_right_con _ _ _ ?c0q7 ?c1q7) ?k1q7 ?k2q7 ?k3q7 ?k4q7 ?k5q7 ?XBq7 ?TBq7 ?kKq7 ?kdq7 ?kuq7 ?_; (case k1q7 => k_asm); (case k2q7 => k_asm); (case k3q7 => k_asm); (case k4q7 => k_asm); (case k5q7 => k_asm); (case XBq7 => k_asm); (case TBq7 => k_asm); (case kKq7 => first | exact rfl | assumption); (case kdq7 => first | exact room1 (by with_reducible assumption) (by exact rfl) (by exact rfl) | ktr_room); (case kuq7 => first | exact units3 (by with_reducible assumption) (by exact rfl) (by exact rfl) | ktr_units); (case c0q7 => walk_at "low9"); (case c1q7 => walk_at "low9"); k_whole); intro tz hz tkz Fz Nz; (try dsimp only); (try k_fold))) | fail "next"
  k_with "call ref" => first | ((k_here; (show wpAny _ _ (call (Value.ref 137) _) _ _ _); k_dflt (refine' useF (law_fixed_con _) ?k1q7 ?k2q7 ?k3q7 ?k4q7 ?k5q7 ?kKq7 ?kdq7 ?kuq7 ?_; (case k1q7 => k_asm); (case k2q7 => k_asm); (case k3q7 => k_asm); (case k4q7 => k_asm); (case k5q7 => k_asm); (case kKq7 => first | exact rfl | assumption); (case kdq7 => first | exact room1 (by with_reducible assumption) (by exact rfl) (by exact rfl) | ktr_room); (case kuq7 => first | exact units3 (by with_reducible assumption) (by exact rfl) (by exact rfl) | ktr_units); k_whole); intro Dz l5z l4z l3z l2z l1z v5z v4z v3z v2z v1z hz tkz Fz Nz az bz cz dz ez oz pz qz rz sz; (try dsimp only at Nz); (try dsimp only); (try k_fold))) | fail "next"
  k_with "low9" => first | (first | exact lowA _ | exact lowB _ | exact lowC _ | exact lowD _ | exact lowE _ | exact lowF _) | fail "next"
  k_with "turn8" => first | (((repeat' ((fail_if_success (with_reducible show wpAny _ _ (isTrue (PySem.Expr.UnaryOp _ _ _) _ _) _ _ _)); (try dsimp only); walk_at "MSTEP")); (rename Fr _ _ _ _ => F8); (rename News _ _ _ _ => N8); (refine joinV false F8 N8 ?_ ?_); (focus (repeat' ((try dsimp only); walk_at "MSTEP"))); (intro h7 tk7 F7 N7); (try clear F8); (try clear N8); (try simp only [Bool.false_eq_true, if_false]))) | fail "next"
  k_with "JV" => first | (exact ⟨rfl, ⟨⟨_, _, rfl, by assumption, (by first | k_asm | (refine' cb_drop ?cbNq7 ?cbSq7; (case cbNq7 => assumption); (case cbSq7 => kcj_all)))⟩⟩⟩) | fail "next"
  k_with "turn9" => first | (((repeat' ((fail_if_success (with_reducible show wpAny _ _ (isTrue (PySem.Expr.UnaryOp _ _ _) _ _) _ _ _)); walk_at "MSTEP")); (rename Fr _ _ _ _ => F8); (rename News _ _ _ _ => N8); (rename TurnText _ _ _ _ _ _ _ _ => hT8); (refine' joinTurn hT8 F8 N8 ?tMq7 ?tLq7 ?tKq7 ?tK2q7 ?tIq7 ?tNq7 ?_; (case tMq7 => first | exact rfl | exact flatMap); (case tLq7 => k_mem); (case tIq7 => assumption); (case tKq7 => decide); (case tK2q7 => decide); (case tNq7 => decide)); (intro h7 tk7 F7 N7); (try clear F8); (try clear N8); (try simp only [Bool.false_eq_true, if_false]))) | fail "next"
  refine hd ?_
  w_strict (
    (intro w s₀ s₁ mg mb G Y fa o pm cd doc dV kV ho hdd hcd hD hmg hg args vals as hpre hlay hrd hwl hlo)
    (have KX := KC_in (kIn_of Y))
    (k_behind G ho hdd hcd hD hmg hpre hlay hrd hwl hlo cd)
    (all_goals try k_fold)
    (refine' turnsBy ?use ?key)
    (case use =>
      intro hTurn
      (walk_at "turn9")
      (walk_at "turn9")
      (walk_at "turn9")
      (walk_at "turn9")
      (walk_at "turn9")
      (walk_at "turn8")
      (walk_at "turn8")
      (walk_at "turn8")
      (repeat' ((try dsimp only); walk_at "MSTEP")))
    (case key =>
      refine TurnText.mk ?_
      intro k9 t9 l9 v9 n9 h9 tk9 news9 a9 b9 I9 c9 F9 N9
      (repeat' walk_at "MSTEP")))
end Mine
end
theorem PySem.Challenge.cw_pc0241_01_holds : PySem.Challenge.rw_pc0241_01.Holds := by
  exact Mine.law_goes
