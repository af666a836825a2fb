import PyProof.Rows.All
import Wide.All
import OpenK.AllK
import Wide.FinOn
import Lean
import PySem.Challenge.RW_pb0416_01
set_option Elab.async false
set_option maxRecDepth 100000
set_option maxHeartbeats 8000000
section
open PySem PySem.W PyProof.Rows
namespace Mine
/-- the view: the law alone; every other name is loose -/
noncomputable def VW : Program := { PySem.Challenge.pw_pb0416_01 with main := { PySem.Challenge.pw_pb0416_01.main with body := [36].filterMap fun i => PySem.Challenge.pw_pb0416_01.main.body[i]? } }
noncomputable def L0 : List Str := [Str.ofString "MintError", Str.ofString "EncodeError", Str.ofString "DecodeError", Str.ofString "FS", Str.ofString "GS", Str.ofString "DATA", Str.ofString "REPNE", Str.ofString "REP", Str.ofString "LOCK", Str.ofString "REX", Str.ofString "rex_octet", Str.ofString "rex_bits", Str.ofString "is_rex", Str.ofString "segment_octet", Str.ofString "sort_of", Str.ofString "Prefixes", Str.ofString "with_rex", Str.ofString "with_legacy", Str.ofString "read_prefixes", Str.ofString "repeat_word", Str.ofString "repeat_octet", Str.ofString "_law_cell", Str.ofString "_law_sort", Str.ofString "_law_step", Str.ofString "_law_walk", Str.ofString "_law_told", Str.ofString "_law_written", Str.ofString "_law_heard", Str.ofString "_law_row", Str.ofString "_law_row_right", Str.ofString "_law_parts", Str.ofString "_law_parts_right", Str.ofString "_law_octet_right"]
section
local macro_rules | `(tactic| o_head $H) => `(tactic| assumption)
/-- makes the written part hk.heap_1 and says nothing -/
theorem hk (h : PySem.Challenge.rw_pb0416_01.row.Holds) : PySem.Challenge.rw_pb0416_01.row.Holds := by x_head
end
end Mine
end
section
open PySem PySem.W PyProof.Rows
namespace Mine
noncomputable abbrev obOf (K : Frag) (a : Addr) (o : Obj) (_ : K.lookup a = some o) : Obj := o
noncomputable def ob0 (P : Params) : Obj := obOf (hk.heap_1 P) (nat_lit 0) _ rfl
noncomputable def ob1 (P : Params) : Obj := obOf (hk.heap_1 P) (nat_lit 1) _ rfl
noncomputable def ob2 (P : Params) : Obj := obOf (hk.heap_1 P) (nat_lit 2) _ rfl
noncomputable def ob3 (P : Params) : Obj := obOf (hk.heap_1 P) (nat_lit 3) _ rfl
noncomputable def ob4 (P : Params) : Obj := obOf (hk.heap_1 P) (nat_lit 4) _ rfl
noncomputable def ob5 (P : Params) : Obj := obOf (hk.heap_1 P) (nat_lit 5) _ rfl
noncomputable def ob6 (P : Params) : Obj := obOf (hk.heap_1 P) (nat_lit 6) _ rfl
noncomputable def ob7 (P : Params) : Obj := obOf (hk.heap_1 P) (nat_lit 7) _ rfl
noncomputable def ob9 (P : Params) : Obj := obOf (hk.heap_1 P) (nat_lit 9) _ rfl
noncomputable def ob10 (P : Params) : Obj := obOf (hk.heap_1 P) (nat_lit 10) _ rfl
noncomputable def ob11 (P : Params) : Obj := obOf (hk.heap_1 P) (nat_lit 11) _ rfl
noncomputable def ob13 (P : Params) : Obj := obOf (hk.heap_1 P) (nat_lit 13) _ rfl
noncomputable def ob14 (P : Params) : Obj := obOf (hk.heap_1 P) (nat_lit 14) _ rfl
noncomputable def ob15 (P : Params) : Obj := obOf (hk.heap_1 P) (nat_lit 15) _ rfl
noncomputable def ob22 (P : Params) : Obj := obOf (hk.heap_1 P) (nat_lit 22) _ rfl
noncomputable def ob23 (P : Params) : Obj := obOf (hk.heap_1 P) (nat_lit 23) _ rfl
noncomputable def ob25 (P : Params) : Obj := obOf (hk.heap_1 P) (nat_lit 25) _ rfl
noncomputable def ob26 (P : Params) : Obj := obOf (hk.heap_1 P) (nat_lit 26) _ rfl
noncomputable def ob28 (P : Params) : Obj := obOf (hk.heap_1 P) (nat_lit 28) _ rfl
noncomputable def ob29 (P : Params) : Obj := obOf (hk.heap_1 P) (nat_lit 29) _ rfl
noncomputable def ob30 (P : Params) : Obj := obOf (hk.heap_1 P) (nat_lit 30) _ rfl
noncomputable def ob32 (P : Params) : Obj := obOf (hk.heap_1 P) (nat_lit 32) _ rfl
noncomputable def ob33 (P : Params) : Obj := obOf (hk.heap_1 P) (nat_lit 33) _ rfl
noncomputable def ob35 (P : Params) : Obj := obOf (hk.heap_1 P) (nat_lit 35) _ rfl
noncomputable def ob36 (P : Params) : Obj := obOf (hk.heap_1 P) (nat_lit 36) _ rfl
noncomputable def ob37 (P : Params) : Obj := obOf (hk.heap_1 P) (nat_lit 37) _ rfl
noncomputable def ob38 (P : Params) : Obj := obOf (hk.heap_1 P) (nat_lit 38) _ rfl
noncomputable def ob39 (P : Params) : Obj := obOf (hk.heap_1 P) (nat_lit 39) _ rfl
noncomputable def ob40 (P : Params) : Obj := obOf (hk.heap_1 P) (nat_lit 40) _ rfl
noncomputable def ob43 (P : Params) : Obj := obOf (hk.heap_1 P) (nat_lit 43) _ rfl
noncomputable def ob50 (P : Params) : Obj := obOf (hk.heap_1 P) (nat_lit 50) _ rfl
noncomputable def ob51 (P : Params) : Obj := obOf (hk.heap_1 P) (nat_lit 51) _ rfl
noncomputable def ob52 (P : Params) : Obj := obOf (hk.heap_1 P) (nat_lit 52) _ rfl
noncomputable def ob55 (P : Params) : Obj := obOf (hk.heap_1 P) (nat_lit 55) _ rfl
noncomputable def ob62 (P : Params) : Obj := obOf (hk.heap_1 P) (nat_lit 62) _ rfl
noncomputable def ob63 (P : Params) : Obj := obOf (hk.heap_1 P) (nat_lit 63) _ rfl
noncomputable def ob64 (P : Params) : Obj := obOf (hk.heap_1 P) (nat_lit 64) _ rfl
noncomputable def ob67 (P : Params) : Obj := obOf (hk.heap_1 P) (nat_lit 67) _ rfl
noncomputable def ob69 (P : Params) : Obj := obOf (hk.heap_1 P) (nat_lit 69) _ rfl
noncomputable def ob70 (P : Params) : Obj := obOf (hk.heap_1 P) (nat_lit 70) _ rfl
noncomputable def ob72 (P : Params) : Obj := obOf (hk.heap_1 P) (nat_lit 72) _ rfl
noncomputable def ob73 (P : Params) : Obj := obOf (hk.heap_1 P) (nat_lit 73) _ rfl
noncomputable def ob74 (P : Params) : Obj := obOf (hk.heap_1 P) (nat_lit 74) _ rfl
noncomputable def ob76 (P : Params) : Obj := obOf (hk.heap_1 P) (nat_lit 76) _ rfl
noncomputable def ob77 (P : Params) : Obj := obOf (hk.heap_1 P) (nat_lit 77) _ rfl
noncomputable def ob79 (P : Params) : Obj := obOf (hk.heap_1 P) (nat_lit 79) _ rfl
noncomputable def ob80 (P : Params) : Obj := obOf (hk.heap_1 P) (nat_lit 80) _ rfl
noncomputable def ob81 (P : Params) : Obj := obOf (hk.heap_1 P) (nat_lit 81) _ rfl
noncomputable def ob83 (P : Params) : Obj := obOf (hk.heap_1 P) (nat_lit 83) _ rfl
noncomputable def ob84 (P : Params) : Obj := obOf (hk.heap_1 P) (nat_lit 84) _ rfl
noncomputable def ob86 (P : Params) : Obj := obOf (hk.heap_1 P) (nat_lit 86) _ rfl
noncomputable def ob87 (P : Params) : Obj := obOf (hk.heap_1 P) (nat_lit 87) _ rfl
noncomputable def ob88 (P : Params) : Obj := obOf (hk.heap_1 P) (nat_lit 88) _ rfl
noncomputable def ob90 (P : Params) : Obj := obOf (hk.heap_1 P) (nat_lit 90) _ rfl
noncomputable def ob91 (P : Params) : Obj := obOf (hk.heap_1 P) (nat_lit 91) _ rfl
noncomputable def ob93 (P : Params) : Obj := obOf (hk.heap_1 P) (nat_lit 93) _ rfl
noncomputable def ob94 (P : Params) : Obj := obOf (hk.heap_1 P) (nat_lit 94) _ rfl
noncomputable def ob95 (P : Params) : Obj := obOf (hk.heap_1 P) (nat_lit 95) _ rfl
noncomputable def ob97 (P : Params) : Obj := obOf (hk.heap_1 P) (nat_lit 97) _ rfl
noncomputable def ob98 (P : Params) : Obj := obOf (hk.heap_1 P) (nat_lit 98) _ rfl
noncomputable def ob100 (P : Params) : Obj := obOf (hk.heap_1 P) (nat_lit 100) _ rfl
noncomputable def ob101 (P : Params) : Obj := obOf (hk.heap_1 P) (nat_lit 101) _ rfl
noncomputable def ob109 (P : Params) : Obj := obOf (hk.heap_1 P) (nat_lit 109) _ rfl
noncomputable def ob110 (P : Params) : Obj := obOf (hk.heap_1 P) (nat_lit 110) _ rfl
noncomputable def ob112 (P : Params) : Obj := obOf (hk.heap_1 P) (nat_lit 112) _ rfl
noncomputable def ob113 (P : Params) : Obj := obOf (hk.heap_1 P) (nat_lit 113) _ rfl
noncomputable def ob115 (P : Params) : Obj := obOf (hk.heap_1 P) (nat_lit 115) _ rfl
noncomputable def ob116 (P : Params) : Obj := obOf (hk.heap_1 P) (nat_lit 116) _ rfl
noncomputable def ob117 (P : Params) : Obj := obOf (hk.heap_1 P) (nat_lit 117) _ rfl
noncomputable def ob119 (P : Params) : Obj := obOf (hk.heap_1 P) (nat_lit 119) _ rfl
noncomputable def ob120 (P : Params) : Obj := obOf (hk.heap_1 P) (nat_lit 120) _ rfl
noncomputable def ob122 (P : Params) : Obj := obOf (hk.heap_1 P) (nat_lit 122) _ rfl
noncomputable def ob123 (P : Params) : Obj := obOf (hk.heap_1 P) (nat_lit 123) _ rfl
noncomputable def ob124 (P : Params) : Obj := obOf (hk.heap_1 P) (nat_lit 124) _ rfl
noncomputable def ob126 (P : Params) : Obj := obOf (hk.heap_1 P) (nat_lit 126) _ rfl
noncomputable def ob127 (P : Params) : Obj := obOf (hk.heap_1 P) (nat_lit 127) _ rfl
noncomputable def ob129 (P : Params) : Obj := obOf (hk.heap_1 P) (nat_lit 129) _ rfl
noncomputable def ob130 (P : Params) : Obj := obOf (hk.heap_1 P) (nat_lit 130) _ rfl
noncomputable def ob131 (P : Params) : Obj := obOf (hk.heap_1 P) (nat_lit 131) _ rfl
noncomputable def ob133 (P : Params) : Obj := obOf (hk.heap_1 P) (nat_lit 133) _ rfl
noncomputable def ob134 (P : Params) : Obj := obOf (hk.heap_1 P) (nat_lit 134) _ rfl
noncomputable def ob136 (P : Params) : Obj := obOf (hk.heap_1 P) (nat_lit 136) _ rfl
noncomputable def ob137 (P : Params) : Obj := obOf (hk.heap_1 P) (nat_lit 137) _ rfl
noncomputable def ob138 (P : Params) : Obj := obOf (hk.heap_1 P) (nat_lit 138) _ rfl
noncomputable def ob140 (P : Params) : Obj := obOf (hk.heap_1 P) (nat_lit 140) _ rfl
noncomputable def ob141 (P : Params) : Obj := obOf (hk.heap_1 P) (nat_lit 141) _ rfl
noncomputable def ob143 (P : Params) : Obj := obOf (hk.heap_1 P) (nat_lit 143) _ rfl
noncomputable def ob144 (P : Params) : Obj := obOf (hk.heap_1 P) (nat_lit 144) _ rfl
noncomputable def ob145 (P : Params) : Obj := obOf (hk.heap_1 P) (nat_lit 145) _ rfl
noncomputable def ob147 (P : Params) : Obj := obOf (hk.heap_1 P) (nat_lit 147) _ rfl
noncomputable def ob148 (P : Params) : Obj := obOf (hk.heap_1 P) (nat_lit 148) _ rfl
noncomputable def ob150 (P : Params) : Obj := obOf (hk.heap_1 P) (nat_lit 150) _ rfl
noncomputable def ob151 (P : Params) : Obj := obOf (hk.heap_1 P) (nat_lit 151) _ rfl
noncomputable def ob152 (P : Params) : Obj := obOf (hk.heap_1 P) (nat_lit 152) _ rfl
noncomputable def ob153 (P : Params) : Obj := obOf (hk.heap_1 P) (nat_lit 153) _ rfl
noncomputable def ob154 (P : Params) : Obj := obOf (hk.heap_1 P) (nat_lit 154) _ rfl
noncomputable def ob155 (P : Params) : Obj := obOf (hk.heap_1 P) (nat_lit 155) _ rfl
noncomputable def ob156 (P : Params) : Obj := obOf (hk.heap_1 P) (nat_lit 156) _ rfl
noncomputable def ob159 (P : Params) : Obj := obOf (hk.heap_1 P) (nat_lit 159) _ rfl
noncomputable def ob161 (P : Params) : Obj := obOf (hk.heap_1 P) (nat_lit 161) _ rfl
noncomputable def ob162 (P : Params) : Obj := obOf (hk.heap_1 P) (nat_lit 162) _ rfl
noncomputable def ob164 (P : Params) : Obj := obOf (hk.heap_1 P) (nat_lit 164) _ rfl
noncomputable def ob165 (P : Params) : Obj := obOf (hk.heap_1 P) (nat_lit 165) _ rfl
noncomputable def ob166 (P : Params) : Obj := obOf (hk.heap_1 P) (nat_lit 166) _ rfl
noncomputable def ob168 (P : Params) : Obj := obOf (hk.heap_1 P) (nat_lit 168) _ rfl
noncomputable def ob169 (P : Params) : Obj := obOf (hk.heap_1 P) (nat_lit 169) _ rfl
noncomputable def ob171 (P : Params) : Obj := obOf (hk.heap_1 P) (nat_lit 171) _ rfl
noncomputable def ob172 (P : Params) : Obj := obOf (hk.heap_1 P) (nat_lit 172) _ rfl
noncomputable def ob173 (P : Params) : Obj := obOf (hk.heap_1 P) (nat_lit 173) _ rfl
noncomputable def ob175 (P : Params) : Obj := obOf (hk.heap_1 P) (nat_lit 175) _ rfl
noncomputable def ob176 (P : Params) : Obj := obOf (hk.heap_1 P) (nat_lit 176) _ rfl
noncomputable def ob178 (P : Params) : Obj := obOf (hk.heap_1 P) (nat_lit 178) _ rfl
noncomputable def ob179 (P : Params) : Obj := obOf (hk.heap_1 P) (nat_lit 179) _ rfl
noncomputable def ob180 (P : Params) : Obj := obOf (hk.heap_1 P) (nat_lit 180) _ rfl
noncomputable def ob182 (P : Params) : Obj := obOf (hk.heap_1 P) (nat_lit 182) _ rfl
noncomputable def ob183 (P : Params) : Obj := obOf (hk.heap_1 P) (nat_lit 183) _ rfl
noncomputable def ob185 (P : Params) : Obj := obOf (hk.heap_1 P) (nat_lit 185) _ rfl
noncomputable def ob186 (P : Params) : Obj := obOf (hk.heap_1 P) (nat_lit 186) _ rfl
noncomputable def ob187 (P : Params) : Obj := obOf (hk.heap_1 P) (nat_lit 187) _ rfl
noncomputable def ob189 (P : Params) : Obj := obOf (hk.heap_1 P) (nat_lit 189) _ rfl
noncomputable def ob190 (P : Params) : Obj := obOf (hk.heap_1 P) (nat_lit 190) _ rfl
noncomputable def ob192 (P : Params) : Obj := obOf (hk.heap_1 P) (nat_lit 192) _ rfl
noncomputable def ob193 (P : Params) : Obj := obOf (hk.heap_1 P) (nat_lit 193) _ rfl
noncomputable def ob194 (P : Params) : Obj := obOf (hk.heap_1 P) (nat_lit 194) _ rfl
noncomputable def ob196 (P : Params) : Obj := obOf (hk.heap_1 P) (nat_lit 196) _ rfl
noncomputable def ob197 (P : Params) : Obj := obOf (hk.heap_1 P) (nat_lit 197) _ rfl
noncomputable def ob199 (P : Params) : Obj := obOf (hk.heap_1 P) (nat_lit 199) _ rfl
noncomputable def ob200 (P : Params) : Obj := obOf (hk.heap_1 P) (nat_lit 200) _ rfl
noncomputable def ob201 (P : Params) : Obj := obOf (hk.heap_1 P) (nat_lit 201) _ rfl
noncomputable def ob203 (P : Params) : Obj := obOf (hk.heap_1 P) (nat_lit 203) _ rfl
noncomputable def ob204 (P : Params) : Obj := obOf (hk.heap_1 P) (nat_lit 204) _ rfl
noncomputable def ob206 (P : Params) : Obj := obOf (hk.heap_1 P) (nat_lit 206) _ rfl
noncomputable def ob207 (P : Params) : Obj := obOf (hk.heap_1 P) (nat_lit 207) _ rfl
noncomputable def ob208 (P : Params) : Obj := obOf (hk.heap_1 P) (nat_lit 208) _ rfl
noncomputable def ob210 (P : Params) : Obj := obOf (hk.heap_1 P) (nat_lit 210) _ rfl
noncomputable def ob211 (P : Params) : Obj := obOf (hk.heap_1 P) (nat_lit 211) _ rfl
noncomputable def ob213 (P : Params) : Obj := obOf (hk.heap_1 P) (nat_lit 213) _ rfl
noncomputable def ob214 (P : Params) : Obj := obOf (hk.heap_1 P) (nat_lit 214) _ rfl
noncomputable def ob215 (P : Params) : Obj := obOf (hk.heap_1 P) (nat_lit 215) _ rfl
noncomputable def ob217 (P : Params) : Obj := obOf (hk.heap_1 P) (nat_lit 217) _ rfl
noncomputable def ob218 (P : Params) : Obj := obOf (hk.heap_1 P) (nat_lit 218) _ rfl
noncomputable def ob220 (P : Params) : Obj := obOf (hk.heap_1 P) (nat_lit 220) _ rfl
noncomputable def ob221 (P : Params) : Obj := obOf (hk.heap_1 P) (nat_lit 221) _ rfl
noncomputable def ob222 (P : Params) : Obj := obOf (hk.heap_1 P) (nat_lit 222) _ rfl
noncomputable def ob224 (P : Params) : Obj := obOf (hk.heap_1 P) (nat_lit 224) _ rfl
noncomputable def ob225 (P : Params) : Obj := obOf (hk.heap_1 P) (nat_lit 225) _ rfl
noncomputable def ob227 (P : Params) : Obj := obOf (hk.heap_1 P) (nat_lit 227) _ rfl
noncomputable def ob228 (P : Params) : Obj := obOf (hk.heap_1 P) (nat_lit 228) _ rfl
noncomputable def ob229 (P : Params) : Obj := obOf (hk.heap_1 P) (nat_lit 229) _ rfl
noncomputable def ob232 (P : Params) : Obj := obOf (hk.heap_1 P) (nat_lit 232) _ rfl
noncomputable def ob233 (P : Params) : Obj := obOf (hk.heap_1 P) (nat_lit 233) _ rfl
noncomputable def ob234 (P : Params) : Obj := obOf (hk.heap_1 P) (nat_lit 234) _ rfl
noncomputable def ob236 (P : Params) : Obj := obOf (hk.heap_1 P) (nat_lit 236) _ rfl
noncomputable def ob237 (P : Params) : Obj := obOf (hk.heap_1 P) (nat_lit 237) _ rfl
noncomputable def ob239 (P : Params) : Obj := obOf (hk.heap_1 P) (nat_lit 239) _ rfl
noncomputable def ob240 (P : Params) : Obj := obOf (hk.heap_1 P) (nat_lit 240) _ rfl
noncomputable def ob241 (P : Params) : Obj := obOf (hk.heap_1 P) (nat_lit 241) _ rfl
noncomputable def ob244 (P : Params) : Obj := obOf (hk.heap_1 P) (nat_lit 244) _ rfl
noncomputable def ob245 (P : Params) : Obj := obOf (hk.heap_1 P) (nat_lit 245) _ rfl
noncomputable def ob246 (P : Params) : Obj := obOf (hk.heap_1 P) (nat_lit 246) _ rfl
noncomputable def ob248 (P : Params) : Obj := obOf (hk.heap_1 P) (nat_lit 248) _ rfl
noncomputable def ob249 (P : Params) : Obj := obOf (hk.heap_1 P) (nat_lit 249) _ rfl
noncomputable def ob251 (P : Params) : Obj := obOf (hk.heap_1 P) (nat_lit 251) _ rfl
noncomputable def ob252 (P : Params) : Obj := obOf (hk.heap_1 P) (nat_lit 252) _ rfl
noncomputable def ob253 (P : Params) : Obj := obOf (hk.heap_1 P) (nat_lit 253) _ rfl
noncomputable def ob255 (P : Params) : Obj := obOf (hk.heap_1 P) (nat_lit 255) _ rfl
noncomputable def ob256 (P : Params) : Obj := obOf (hk.heap_1 P) (nat_lit 256) _ rfl
noncomputable def ob258 (P : Params) : Obj := obOf (hk.heap_1 P) (nat_lit 258) _ rfl
noncomputable def ob259 (P : Params) : Obj := obOf (hk.heap_1 P) (nat_lit 259) _ rfl
noncomputable def ob260 (P : Params) : Obj := obOf (hk.heap_1 P) (nat_lit 260) _ rfl
noncomputable def ob262 (P : Params) : Obj := obOf (hk.heap_1 P) (nat_lit 262) _ rfl
noncomputable def ob263 (P : Params) : Obj := obOf (hk.heap_1 P) (nat_lit 263) _ rfl
noncomputable def ob265 (P : Params) : Obj := obOf (hk.heap_1 P) (nat_lit 265) _ rfl
noncomputable def ob266 (P : Params) : Obj := obOf (hk.heap_1 P) (nat_lit 266) _ rfl
noncomputable def ob267 (P : Params) : Obj := obOf (hk.heap_1 P) (nat_lit 267) _ rfl
noncomputable def ob269 (P : Params) : Obj := obOf (hk.heap_1 P) (nat_lit 269) _ rfl
noncomputable def ob270 (P : Params) : Obj := obOf (hk.heap_1 P) (nat_lit 270) _ rfl
noncomputable def ob272 (P : Params) : Obj := obOf (hk.heap_1 P) (nat_lit 272) _ rfl
noncomputable def ob273 (P : Params) : Obj := obOf (hk.heap_1 P) (nat_lit 273) _ rfl
noncomputable def ob274 (P : Params) : Obj := obOf (hk.heap_1 P) (nat_lit 274) _ rfl
noncomputable def ob277 (P : Params) : Obj := obOf (hk.heap_1 P) (nat_lit 277) _ rfl
noncomputable def ob278 (P : Params) : Obj := obOf (hk.heap_1 P) (nat_lit 278) _ rfl
noncomputable def K2 (P : Params) : Frag := (nat_lit 0, ob0 P) :: (nat_lit 1, ob1 P) :: (nat_lit 2, ob2 P) :: (nat_lit 3, ob3 P) :: (nat_lit 4, ob4 P) :: (nat_lit 5, ob5 P) :: (nat_lit 6, ob6 P) :: (nat_lit 7, ob7 P) :: (nat_lit 9, ob9 P) :: (nat_lit 10, ob10 P) :: (nat_lit 11, ob11 P) :: (nat_lit 13, ob13 P) :: (nat_lit 14, ob14 P) :: (nat_lit 15, ob15 P) :: (nat_lit 22, ob22 P) :: (nat_lit 23, ob23 P) :: (nat_lit 25, ob25 P) :: (nat_lit 26, ob26 P) :: (nat_lit 28, ob28 P) :: (nat_lit 29, ob29 P) :: (nat_lit 30, ob30 P) :: (nat_lit 32, ob32 P) :: (nat_lit 33, ob33 P) :: (nat_lit 35, ob35 P) :: (nat_lit 36, ob36 P) :: (nat_lit 37, ob37 P) :: (nat_lit 38, ob38 P) :: (nat_lit 39, ob39 P) :: (nat_lit 40, ob40 P) :: (nat_lit 43, ob43 P) :: (nat_lit 50, ob50 P) :: (nat_lit 51, ob51 P) :: (nat_lit 52, ob52 P) :: (nat_lit 55, ob55 P) :: (nat_lit 62, ob62 P) :: (nat_lit 63, ob63 P) :: (nat_lit 64, ob64 P) :: (nat_lit 67, ob67 P) :: (nat_lit 69, ob69 P) :: (nat_lit 70, ob70 P) :: (nat_lit 72, ob72 P) :: (nat_lit 73, ob73 P) :: (nat_lit 74, ob74 P) :: (nat_lit 76, ob76 P) :: (nat_lit 77, ob77 P) :: (nat_lit 79, ob79 P) :: (nat_lit 80, ob80 P) :: (nat_lit 81, ob81 P) :: (nat_lit 83, ob83 P) :: (nat_lit 84, ob84 P) :: (nat_lit 86, ob86 P) :: (nat_lit 87, ob87 P) :: (nat_lit 88, ob88 P) :: (nat_lit 90, ob90 P) :: (nat_lit 91, ob91 P) :: (nat_lit 93, ob93 P) :: (nat_lit 94, ob94 P) :: (nat_lit 95, ob95 P) :: (nat_lit 97, ob97 P) :: (nat_lit 98, ob98 P) :: (nat_lit 100, ob100 P) :: (nat_lit 101, ob101 P) :: (nat_lit 109, ob109 P) :: (nat_lit 110, ob110 P) :: (nat_lit 112, ob112 P) :: (nat_lit 113, ob113 P) :: (nat_lit 115, ob115 P) :: (nat_lit 116, ob116 P) :: (nat_lit 117, ob117 P) :: (nat_lit 119, ob119 P) :: (nat_lit 120, ob120 P) :: (nat_lit 122, ob122 P) :: (nat_lit 123, ob123 P) :: (nat_lit 124, ob124 P) :: (nat_lit 126, ob126 P) :: (nat_lit 127, ob127 P) :: (nat_lit 129, ob129 P) :: (nat_lit 130, ob130 P) :: (nat_lit 131, ob131 P) :: (nat_lit 133, ob133 P) :: (nat_lit 134, ob134 P) :: (nat_lit 136, ob136 P) :: (nat_lit 137, ob137 P) :: (nat_lit 138, ob138 P) :: (nat_lit 140, ob140 P) :: (nat_lit 141, ob141 P) :: (nat_lit 143, ob143 P) :: (nat_lit 144, ob144 P) :: (nat_lit 145, ob145 P) :: (nat_lit 147, ob147 P) :: (nat_lit 148, ob148 P) :: (nat_lit 150, ob150 P) :: (nat_lit 151, ob151 P) :: (nat_lit 152, ob152 P) :: (nat_lit 153, ob153 P) :: (nat_lit 154, ob154 P) :: (nat_lit 155, ob155 P) :: (nat_lit 156, ob156 P) :: (nat_lit 159, ob159 P) :: (nat_lit 161, ob161 P) :: (nat_lit 162, ob162 P) :: (nat_lit 164, ob164 P) :: (nat_lit 165, ob165 P) :: (nat_lit 166, ob166 P) :: (nat_lit 168, ob168 P) :: (nat_lit 169, ob169 P) :: (nat_lit 171, ob171 P) :: (nat_lit 172, ob172 P) :: (nat_lit 173, ob173 P) :: (nat_lit 175, ob175 P) :: (nat_lit 176, ob176 P) :: (nat_lit 178, ob178 P) :: (nat_lit 179, ob179 P) :: (nat_lit 180, ob180 P) :: (nat_lit 182, ob182 P) :: (nat_lit 183, ob183 P) :: (nat_lit 185, ob185 P) :: (nat_lit 186, ob186 P) :: (nat_lit 187, ob187 P) :: (nat_lit 189, ob189 P) :: (nat_lit 190, ob190 P) :: (nat_lit 192, ob192 P) :: (nat_lit 193, ob193 P) :: (nat_lit 194, ob194 P) :: (nat_lit 196, ob196 P) :: (nat_lit 197, ob197 P) :: (nat_lit 199, ob199 P) :: (nat_lit 200, ob200 P) :: (nat_lit 201, ob201 P) :: (nat_lit 203, ob203 P) :: (nat_lit 204, ob204 P) :: (nat_lit 206, ob206 P) :: (nat_lit 207, ob207 P) :: (nat_lit 208, ob208 P) :: (nat_lit 210, ob210 P) :: (nat_lit 211, ob211 P) :: (nat_lit 213, ob213 P) :: (nat_lit 214, ob214 P) :: (nat_lit 215, ob215 P) :: (nat_lit 217, ob217 P) :: (nat_lit 218, ob218 P) :: (nat_lit 220, ob220 P) :: (nat_lit 221, ob221 P) :: (nat_lit 222, ob222 P) :: (nat_lit 224, ob224 P) :: (nat_lit 225, ob225 P) :: (nat_lit 227, ob227 P) :: (nat_lit 228, ob228 P) :: (nat_lit 229, ob229 P) :: (nat_lit 232, ob232 P) :: (nat_lit 233, ob233 P) :: (nat_lit 234, ob234 P) :: (nat_lit 236, ob236 P) :: (nat_lit 237, ob237 P) :: (nat_lit 239, ob239 P) :: (nat_lit 240, ob240 P) :: (nat_lit 241, ob241 P) :: (nat_lit 244, ob244 P) :: (nat_lit 245, ob245 P) :: (nat_lit 246, ob246 P) :: (nat_lit 248, ob248 P) :: (nat_lit 249, ob249 P) :: (nat_lit 251, ob251 P) :: (nat_lit 252, ob252 P) :: (nat_lit 253, ob253 P) :: (nat_lit 255, ob255 P) :: (nat_lit 256, ob256 P) :: (nat_lit 258, ob258 P) :: (nat_lit 259, ob259 P) :: (nat_lit 260, ob260 P) :: (nat_lit 262, ob262 P) :: (nat_lit 263, ob263 P) :: (nat_lit 265, ob265 P) :: (nat_lit 266, ob266 P) :: (nat_lit 267, ob267 P) :: (nat_lit 269, ob269 P) :: (nat_lit 270, ob270 P) :: (nat_lit 272, ob272 P) :: (nat_lit 273, ob273 P) :: (nat_lit 274, ob274 P) :: (nat_lit 277, ob277 P) :: (nat_lit 278, ob278 P) :: []
theorem in_of_all {h : Heap} : ∀ {K : Frag}, X.AllIn h K → K.In h
  | [], _, a, o, e => nomatch e
  | p :: K, A, a, o, e => by
    rw [List.lookup_cons] at e
    split at e
    · rename_i q
      cases e
      rw [beq_iff_eq.mp q]
      exact A.1
    · exact in_of_all A.2 a o e
noncomputable def ob247 (P : Params) : Obj := obOf (hk.heap_1 P) (nat_lit 247) _ rfl
noncomputable def ob261 (P : Params) : Obj := obOf (hk.heap_1 P) (nat_lit 261) _ rfl
noncomputable def ob275 (P : Params) : Obj := obOf (hk.heap_1 P) (nat_lit 275) _ rfl
/-- the written part with the three code tables -/
noncomputable def KH (P : Params) : Frag := K2 P ++ ((nat_lit 247, ob247 P) :: (nat_lit 261, ob261 P) :: (nat_lit 275, ob275 P) :: [])
noncomputable def AH : List Addr := [nat_lit 0, nat_lit 1, nat_lit 2, nat_lit 3, nat_lit 4, nat_lit 5, nat_lit 6, nat_lit 7, nat_lit 9, nat_lit 10, nat_lit 11, nat_lit 13, nat_lit 14, nat_lit 15, nat_lit 22, nat_lit 23, nat_lit 25, nat_lit 26, nat_lit 28, nat_lit 29, nat_lit 30, nat_lit 32, nat_lit 33, nat_lit 35, nat_lit 36, nat_lit 37, nat_lit 38, nat_lit 39, nat_lit 40, nat_lit 43, nat_lit 50, nat_lit 51, nat_lit 52, nat_lit 55, nat_lit 62, nat_lit 63, nat_lit 64, nat_lit 67, nat_lit 69, nat_lit 70, nat_lit 72, nat_lit 73, nat_lit 74, nat_lit 76, nat_lit 77, nat_lit 79, nat_lit 80, nat_lit 81, nat_lit 83, nat_lit 84, nat_lit 86, nat_lit 87, nat_lit 88, nat_lit 90, nat_lit 91, nat_lit 93, nat_lit 94, nat_lit 95, nat_lit 97, nat_lit 98, nat_lit 100, nat_lit 101, nat_lit 109, nat_lit 110, nat_lit 112, nat_lit 113, nat_lit 115, nat_lit 116, nat_lit 117, nat_lit 119, nat_lit 120, nat_lit 122, nat_lit 123, nat_lit 124, nat_lit 126, nat_lit 127, nat_lit 129, nat_lit 130, nat_lit 131, nat_lit 133, nat_lit 134, nat_lit 136, nat_lit 137, nat_lit 138, nat_lit 140, nat_lit 141, nat_lit 143, nat_lit 144, nat_lit 145, nat_lit 147, nat_lit 148, nat_lit 150, nat_lit 151, nat_lit 152, nat_lit 153, nat_lit 154, nat_lit 155, nat_lit 156, nat_lit 159, nat_lit 161, nat_lit 162, nat_lit 164, nat_lit 165, nat_lit 166, nat_lit 168, nat_lit 169, nat_lit 171, nat_lit 172, nat_lit 173, nat_lit 175, nat_lit 176, nat_lit 178, nat_lit 179, nat_lit 180, nat_lit 182, nat_lit 183, nat_lit 185, nat_lit 186, nat_lit 187, nat_lit 189, nat_lit 190, nat_lit 192, nat_lit 193, nat_lit 194, nat_lit 196, nat_lit 197, nat_lit 199, nat_lit 200, nat_lit 201, nat_lit 203, nat_lit 204, nat_lit 206, nat_lit 207, nat_lit 208, nat_lit 210, nat_lit 211, nat_lit 213, nat_lit 214, nat_lit 215, nat_lit 217, nat_lit 218, nat_lit 220, nat_lit 221, nat_lit 222, nat_lit 224, nat_lit 225, nat_lit 227, nat_lit 228, nat_lit 229, nat_lit 232, nat_lit 233, nat_lit 234, nat_lit 236, nat_lit 237, nat_lit 239, nat_lit 240, nat_lit 241, nat_lit 244, nat_lit 245, nat_lit 246, nat_lit 248, nat_lit 249, nat_lit 251, nat_lit 252, nat_lit 253, nat_lit 255, nat_lit 256, nat_lit 258, nat_lit 259, nat_lit 260, nat_lit 262, nat_lit 263, nat_lit 265, nat_lit 266, nat_lit 267, nat_lit 269, nat_lit 270, nat_lit 272, nat_lit 273, nat_lit 274, nat_lit 277, nat_lit 278, nat_lit 247, nat_lit 261, nat_lit 275]
theorem K2_in {w : World} {h : Heap} (X : (KH w.params).In h) : (K2 w.params).In h := fun a o e => X a o (by unfold KH; rw [List.lookup_append, e]; rfl)
theorem KH_tab {w : World} {h : Heap} (X : (KH w.params).In h) : ∀ P ∈ [247, 261, 275], h.get? P = some (tabObj #[]) :=
  List.forall_mem_cons.mpr ⟨X _ _ rfl, List.forall_mem_cons.mpr ⟨X _ _ rfl, List.forall_mem_cons.mpr ⟨X _ _ rfl, fun _ h => nomatch h⟩⟩⟩
theorem K2_noTabs (P : Params) : noTabs (K2 P) = true := by kernel_rfl
theorem unhook {P : Prop} (h : PySem.Challenge.rw_pb0416_01 = PySem.Challenge.rw_pb0416_01 → K2 = K2 → P) : P := h rfl rfl
noncomputable abbrev PP : Program := PySem.Challenge.pw_pb0416_01
noncomputable abbrev VV : Program := topProg
noncomputable abbrev LL : List Str := looseW VW L0 ++ (recsOf VW).map (·.name) ++ (litsOf VW).map (·.1) ++ (clssOf VW (looseW VW L0)).map (·.name)
end Mine
end
section
open PySem PySem.W PyProof.Rows
namespace Mine
/-- where the top ends, from the library's own opening -/
noncomputable def topEnd (p : Program) (N : Nat) (w : World) (os : OsState) : Option Shared :=
  topRun treeTable p w (boot_heap w.params).objs.size ((boot_heap w.params).nsMap mainGlobals "__annotations__") N ⟨boot_heap w.params, Array.mk [], boot_drawn, boot_toks, os⟩ (topStub p)
/-- the head behind the library's own opening, look by look -/
theorem left_of_looks {p q : Program} {loose : List Str} {Xt : Shared → Bool} {α : Type} {Yf : Shared → α} {Ya : World → α} {N : Nat}
    (open_ : ∀ w : World, (fencedOpening treeTable p w N).map (fun s => (s.heap, s.gens, s.drawn, s.toks)) = some (boot_heap w.params, Array.mk [], boot_drawn, boot_toks))
    (size : ∀ w : World, ((boot_heap w.params).isNs mainGlobals && (Array.mk [] : Array GenState).size == 0) = true)
    (l1 : ∀ (w : World) (os : OsState), (topEnd p N w os).map (fun s => ((staticsOk (importedModules p.main.body) (boot_heap w.params) s.heap && namesBound p s.heap && gensDone s && laidKept (boot_heap w.params) s.heap),
      (seen ((recsOf q).map (·.name)) (ownsOf q) [] { s with gens := #[] }, s.heap.bltView,
       s.heap.keysOk (looseW q loose) ((recsOf q).map (·.name)) ((litsOf q).map (·.1)) ((clssOf q (looseW q loose)).map (·.name)) && s.heap.accountedOkI (importedModules p.main.body) && s.heap.isNs mainGlobals && s.heap.isNs builtinsNs && tablesOk q s.heap && Xt s && s.gens.size == 0,
       tabsOk q s, pinSeenD q (drecsOf q) s, plainSeenE q (looseW q loose) s, plainSeenD q loose s, wideSeen q s, clsSeenW q loose s))) =
      some (true, (expectedOf q, bltViewBooted, true, true, pinGoodD (drecsOf q), plainGoodE q (looseW q loose), plainGoodD q loose, wideGood q, clsGoodW q loose)))
    (l2 : ∀ (w : World) (os : OsState), (topEnd p N w os).map Yf = some (Ya w)) :
    LeftO p q loose Xt Yf Ya N := fun w => by
  obtain ⟨⟨h0, gs, d, k, os⟩, e, e'⟩ := Option.map_eq_some_iff.mp (open_ w)
  obtain ⟨rfl, rfl, rfl, rfl⟩ : h0 = boot_heap w.params ∧ gs = Array.mk [] ∧ d = boot_drawn ∧ k = boot_toks := by simpa using e'
  obtain ⟨s₁, r, c⟩ := Option.map_eq_some_iff.mp (l1 w os)
  obtain ⟨c0, c1⟩ := Prod.mk.inj c
  have y : Yf s₁ = Ya w := by
    have h := l2 w os
    rw [r] at h
    exact Option.some.inj h
  have t : topFrom treeTable p w N ⟨boot_heap w.params, Array.mk [], boot_drawn, boot_toks, os⟩ = some s₁ := by
    unfold topFrom
    dsimp only
    rw [size w]
    show ((topEnd p N w os).bind _) = _
    rw [r]
    show (match staticsOk (importedModules p.main.body) (boot_heap w.params) s₁.heap && namesBound p s₁.heap && gensDone s₁ && laidKept (boot_heap w.params) s₁.heap with | true => _ | false => _) = _
    rw [c0]
  unfold openEnds
  rw [e]
  show (topFrom treeTable p w N _).map _ = _
  rw [t]
  exact congrArg some (Prod.ext c1 y)
theorem opens : ∀ w : World, (fencedOpening treeTable PySem.Challenge.pw_pb0416_01 w 3880).map (fun s => (s.heap, s.gens, s.drawn, s.toks)) = some (boot_heap w.params, Array.mk [], boot_drawn, boot_toks) :=
  boot_open (by kernel_rfl) (by kernel_rfl) (fun s => by rfl)
/-- what the head asks of a record's facts -/
noncomputable def XW : Shared → Bool := fun s => xlAt VW [] s && recOk (RowW.records (OpenRow.toRowW PySem.Challenge.rw_pb0416_01.row)) s
theorem size0 (w : World) : ((boot_heap w.params).isNs mainGlobals && (Array.mk [] : Array GenState).size == 0) = true := by kernel_rfl
theorem looks : ∀ (w : World) (os : OsState), (topEnd PySem.Challenge.pw_pb0416_01 3880 w os).map (fun s => ((staticsOk (importedModules PySem.Challenge.pw_pb0416_01.main.body) (boot_heap w.params) s.heap && namesBound PySem.Challenge.pw_pb0416_01 s.heap && gensDone s && laidKept (boot_heap w.params) s.heap),
      (seen ((recsOf VW).map (·.name)) (ownsOf VW) [] { s with gens := #[] }, s.heap.bltView,
       s.heap.keysOk (looseW VW L0) ((recsOf VW).map (·.name)) ((litsOf VW).map (·.1)) ((clssOf VW (looseW VW L0)).map (·.name)) && s.heap.accountedOkI (importedModules PySem.Challenge.pw_pb0416_01.main.body) && s.heap.isNs mainGlobals && s.heap.isNs builtinsNs && tablesOk VW s.heap && XW s && s.gens.size == 0,
       tabsOk VW s, pinSeenD VW (drecsOf VW) s, plainSeenE VW (looseW VW L0) s, plainSeenD VW L0 s, wideSeen VW s, clsSeenW VW L0 s))) =
      some (true, (expectedOf VW, bltViewBooted, true, true, pinGoodD (drecsOf VW), plainGoodE VW (looseW VW L0), plainGoodD VW L0, wideGood VW, clsGoodW VW L0)) := by
  intro w os
  unfold topEnd
  rw [PySem.W.Fast.te14364793385576792824, PySem.W.Fast.te14082659384304107361]
  kernel_rfl
theorem parts_look : ∀ (w : World) (os : OsState), (topEnd PySem.Challenge.pw_pb0416_01 3880 w os).map (fun s => AH.map s.heap.get?) = some ((KH w.params).map fun p => some p.2) := by
  intro w os
  unfold topEnd
  rw [PySem.W.Fast.te14364793385576792824, PySem.W.Fast.te14082659384304107361]
  kernel_rfl
theorem row_ok : PySem.Challenge.rw_pb0416_01.row.wellSaid = true := by kernel_rfl
theorem law_ok : PySem.Challenge.rw_pb0416_01.wellSaid = true := by
  unfold OpenLaw.wellSaid
  iterate 18 refine look_both ?_ ?_
  exact row_ok
  all_goals kernel_rfl
section
local macro_rules | `(tactic| o_law) => `(tactic| refine holds_law law_ok fun said => ?_)
local macro_rules | `(tactic| o_head $H) => `(tactic| (
  refine PySem.W.holds_open (r := PySem.Challenge.rw_pb0416_01.row) (q := VW) (loose := L0) (Xt := XW) (XP := XL VW []) (Yf := Hook.obs $H) (Ya := Hook.val $H) (YP := Hook.says $H) (N := 3880) (left_of_looks opens size0 looks parts_look) (Hook.of $H) (Hook.keeps $H) (fun s e => xl_of s (Bool.and_eq_true_iff.mp e).1) XL.keeps (by rfl) (by rfl) (by rfl) (fun s e => recFacts_of (Bool.and_eq_true_iff.mp e).2) (by rfl) (by first | assumption | decide +kernel) (by decide +kernel) ⟨rfl, rfl, rfl, rfl, rfl, by decide +kernel⟩ ?hw ?hc))
local macro_rules | `(tactic| k_head) => `(tactic| o_head (kHook KH AH (fun _ => by kernel_rfl)))
open_top head for PySem.Challenge.rw_pb0416_01
end
end Mine
end
section
open PySem PySem.W PyProof.Rows PySem.W.X
namespace Mine

/-- an exception of an own class, just made -/
structure ExcMade (h h' : Heap) (e : Addr) (C : Addr) : Prop where
  keeps : ∀ b o, h.get? b = some o → h'.get? b = some o
  new : h.get? e = none
  there : ∃ ob t, h'.get? e = some ob ∧ ob.cls = .ref C ∧ ob.data = .fields #[.ref t, .none, .none, .none, .bool false, .none]

theorem exc_of {h₀ h : Heap} {news : List (Addr × Obj)} {e t C : Addr} {ob : Obj} (D : Mem h₀ h [] news) (i : Nat) (hi : news[i]? = some (e, ob)) (hc : ob.cls = .ref C)
    (hd : ob.data = .fields #[.ref t, .none, .none, .none, .bool false, .none]) : ExcMade h₀ h e C :=
  ⟨fun b o q => D.keep b o q (by simp [away]), (D.nw _ (List.mem_of_getElem? hi)).2, ob, t, (D.nw _ (List.mem_of_getElem? hi)).1, hc, hd⟩

noncomputable abbrev XA : Around := { handled := none, depth := 950, frames := none, guards := none, units := 9500 }
theorem wpAny_of_XA {α : Type} {M : Model} {A : Around} {t : Sem α} {Q : α → Shared → Prop} {E : Value → Shared → Prop} {s : Shared} (h : wpAny M XA t Q E s)
    (hh : A.handled = none) (hd : A.depth ≤ 950) (hu : A.units ≤ 9500) : wpAny M A t Q E s := fun Γ p hΓ =>
  h Γ p ⟨hΓ.1.trans hh, Nat.le_trans hΓ.2.1 hd, (fun _ e => nomatch e), (fun _ e => nomatch e), Nat.le_trans hΓ.2.2.2.2 hu⟩

/-- the names of the builtins and of the program, written out -/
noncomputable def ob0n (P : Params) : Obj := (PySem.Obj.mk (PySem.Value.type "dict") none (PySem.Data.dict (Array.mk [⟨(PySem.PyData.keyHash P (PySem.Str.mk (Array.mk [(nat_lit 95), (nat_lit 95), (nat_lit 110), (nat_lit 97), (nat_lit 109), (nat_lit 101), (nat_lit 95), (nat_lit 95)]))), (PySem.Value.str (PySem.Str.mk (Array.mk [(nat_lit 95), (nat_lit 95), (nat_lit 110), (nat_lit 97), (nat_lit 109), (nat_lit 101), (nat_lit 95), (nat_lit 95)])) 1), (PySem.Value.str (PySem.Str.mk (Array.mk [(nat_lit 98), (nat_lit 117), (nat_lit 105), (nat_lit 108), (nat_lit 116), (nat_lit 105), (nat_lit 110), (nat_lit 115)])) 160)⟩, ⟨(PySem.PyData.keyHash P (PySem.Str.mk (Array.mk [(nat_lit 95), (nat_lit 95), (nat_lit 100), (nat_lit 111), (nat_lit 99), (nat_lit 95), (nat_lit 95)]))), (PySem.Value.str (PySem.Str.mk (Array.mk [(nat_lit 95), (nat_lit 95), (nat_lit 100), (nat_lit 111), (nat_lit 99), (nat_lit 95), (nat_lit 95)])) 2), (PySem.Value.builtin "builtins.__doc__:str#opaque")⟩, ⟨(PySem.PyData.keyHash P (PySem.Str.mk (Array.mk [(nat_lit 95), (nat_lit 95), (nat_lit 112), (nat_lit 97), (nat_lit 99), (nat_lit 107), (nat_lit 97), (nat_lit 103), (nat_lit 101), (nat_lit 95), (nat_lit 95)]))), (PySem.Value.str (PySem.Str.mk (Array.mk [(nat_lit 95), (nat_lit 95), (nat_lit 112), (nat_lit 97), (nat_lit 99), (nat_lit 107), (nat_lit 97), (nat_lit 103), (nat_lit 101), (nat_lit 95), (nat_lit 95)])) 3), (PySem.Value.builtin "builtins.__package__:str#opaque")⟩, ⟨(PySem.PyData.keyHash P (PySem.Str.mk (Array.mk [(nat_lit 95), (nat_lit 95), (nat_lit 108), (nat_lit 111), (nat_lit 97), (nat_lit 100), (nat_lit 101), (nat_lit 114), (nat_lit 95), (nat_lit 95)]))), (PySem.Value.str (PySem.Str.mk (Array.mk [(nat_lit 95), (nat_lit 95), (nat_lit 108), (nat_lit 111), (nat_lit 97), (nat_lit 100), (nat_lit 101), (nat_lit 114), (nat_lit 95), (nat_lit 95)])) 4), (PySem.Value.builtin "builtins.__loader__:shared#opaque")⟩, ⟨(PySem.PyData.keyHash P (PySem.Str.mk (Array.mk [(nat_lit 95), (nat_lit 95), (nat_lit 115), (nat_lit 112), (nat_lit 101), (nat_lit 99), (nat_lit 95), (nat_lit 95)]))), (PySem.Value.str (PySem.Str.mk (Array.mk [(nat_lit 95), (nat_lit 95), (nat_lit 115), (nat_lit 112), (nat_lit 101), (nat_lit 99), (nat_lit 95), (nat_lit 95)])) 5), (PySem.Value.builtin "builtins.__spec__#opaque")⟩, ⟨(PySem.PyData.keyHash P (PySem.Str.mk (Array.mk [(nat_lit 95), (nat_lit 95), (nat_lit 98), (nat_lit 117), (nat_lit 105), (nat_lit 108), (nat_lit 100), (nat_lit 95), (nat_lit 99), (nat_lit 108), (nat_lit 97), (nat_lit 115), (nat_lit 115), (nat_lit 95), (nat_lit 95)]))), (PySem.Value.str (PySem.Str.mk (Array.mk [(nat_lit 95), (nat_lit 95), (nat_lit 98), (nat_lit 117), (nat_lit 105), (nat_lit 108), (nat_lit 100), (nat_lit 95), (nat_lit 99), (nat_lit 108), (nat_lit 97), (nat_lit 115), (nat_lit 115), (nat_lit 95), (nat_lit 95)])) 6), (PySem.Value.builtin "__build_class__")⟩, ⟨(PySem.PyData.keyHash P (PySem.Str.mk (Array.mk [(nat_lit 95), (nat_lit 95), (nat_lit 105), (nat_lit 109), (nat_lit 112), (nat_lit 111), (nat_lit 114), (nat_lit 116), (nat_lit 95), (nat_lit 95)]))), (PySem.Value.str (PySem.Str.mk (Array.mk [(nat_lit 95), (nat_lit 95), (nat_lit 105), (nat_lit 109), (nat_lit 112), (nat_lit 111), (nat_lit 114), (nat_lit 116), (nat_lit 95), (nat_lit 95)])) 7), (PySem.Value.builtin "__import__")⟩, ⟨(PySem.PyData.keyHash P (PySem.Str.mk (Array.mk [(nat_lit 97), (nat_lit 98), (nat_lit 115)]))), (PySem.Value.str (PySem.Str.mk (Array.mk [(nat_lit 97), (nat_lit 98), (nat_lit 115)])) 8), (PySem.Value.builtin "abs")⟩, ⟨(PySem.PyData.keyHash P (PySem.Str.mk (Array.mk [(nat_lit 97), (nat_lit 108), (nat_lit 108)]))), (PySem.Value.str (PySem.Str.mk (Array.mk [(nat_lit 97), (nat_lit 108), (nat_lit 108)])) 9), (PySem.Value.builtin "all")⟩, ⟨(PySem.PyData.keyHash P (PySem.Str.mk (Array.mk [(nat_lit 97), (nat_lit 110), (nat_lit 121)]))), (PySem.Value.str (PySem.Str.mk (Array.mk [(nat_lit 97), (nat_lit 110), (nat_lit 121)])) 10), (PySem.Value.builtin "any")⟩, ⟨(PySem.PyData.keyHash P (PySem.Str.mk (Array.mk [(nat_lit 97), (nat_lit 115), (nat_lit 99), (nat_lit 105), (nat_lit 105)]))), (PySem.Value.str (PySem.Str.mk (Array.mk [(nat_lit 97), (nat_lit 115), (nat_lit 99), (nat_lit 105), (nat_lit 105)])) 11), (PySem.Value.builtin "ascii")⟩, ⟨(PySem.PyData.keyHash P (PySem.Str.mk (Array.mk [(nat_lit 98), (nat_lit 105), (nat_lit 110)]))), (PySem.Value.str (PySem.Str.mk (Array.mk [(nat_lit 98), (nat_lit 105), (nat_lit 110)])) 12), (PySem.Value.builtin "bin")⟩, ⟨(PySem.PyData.keyHash P (PySem.Str.mk (Array.mk [(nat_lit 98), (nat_lit 114), (nat_lit 101), (nat_lit 97), (nat_lit 107), (nat_lit 112), (nat_lit 111), (nat_lit 105), (nat_lit 110), (nat_lit 116)]))), (PySem.Value.str (PySem.Str.mk (Array.mk [(nat_lit 98), (nat_lit 114), (nat_lit 101), (nat_lit 97), (nat_lit 107), (nat_lit 112), (nat_lit 111), (nat_lit 105), (nat_lit 110), (nat_lit 116)])) 13), (PySem.Value.builtin "breakpoint")⟩, ⟨(PySem.PyData.keyHash P (PySem.Str.mk (Array.mk [(nat_lit 99), (nat_lit 97), (nat_lit 108), (nat_lit 108), (nat_lit 97), (nat_lit 98), (nat_lit 108), (nat_lit 101)]))), (PySem.Value.str (PySem.Str.mk (Array.mk [(nat_lit 99), (nat_lit 97), (nat_lit 108), (nat_lit 108), (nat_lit 97), (nat_lit 98), (nat_lit 108), (nat_lit 101)])) 14), (PySem.Value.builtin "callable")⟩, ⟨(PySem.PyData.keyHash P (PySem.Str.mk (Array.mk [(nat_lit 99), (nat_lit 104), (nat_lit 114)]))), (PySem.Value.str (PySem.Str.mk (Array.mk [(nat_lit 99), (nat_lit 104), (nat_lit 114)])) 15), (PySem.Value.builtin "chr")⟩, ⟨(PySem.PyData.keyHash P (PySem.Str.mk (Array.mk [(nat_lit 99), (nat_lit 111), (nat_lit 109), (nat_lit 112), (nat_lit 105), (nat_lit 108), (nat_lit 101)]))), (PySem.Value.str (PySem.Str.mk (Array.mk [(nat_lit 99), (nat_lit 111), (nat_lit 109), (nat_lit 112), (nat_lit 105), (nat_lit 108), (nat_lit 101)])) 16), (PySem.Value.builtin "compile")⟩, ⟨(PySem.PyData.keyHash P (PySem.Str.mk (Array.mk [(nat_lit 100), (nat_lit 101), (nat_lit 108), (nat_lit 97), (nat_lit 116), (nat_lit 116), (nat_lit 114)]))), (PySem.Value.str (PySem.Str.mk (Array.mk [(nat_lit 100), (nat_lit 101), (nat_lit 108), (nat_lit 97), (nat_lit 116), (nat_lit 116), (nat_lit 114)])) 17), (PySem.Value.builtin "delattr")⟩, ⟨(PySem.PyData.keyHash P (PySem.Str.mk (Array.mk [(nat_lit 100), (nat_lit 105), (nat_lit 114)]))), (PySem.Value.str (PySem.Str.mk (Array.mk [(nat_lit 100), (nat_lit 105), (nat_lit 114)])) 18), (PySem.Value.builtin "dir")⟩, ⟨(PySem.PyData.keyHash P (PySem.Str.mk (Array.mk [(nat_lit 100), (nat_lit 105), (nat_lit 118), (nat_lit 109), (nat_lit 111), (nat_lit 100)]))), (PySem.Value.str (PySem.Str.mk (Array.mk [(nat_lit 100), (nat_lit 105), (nat_lit 118), (nat_lit 109), (nat_lit 111), (nat_lit 100)])) 19), (PySem.Value.builtin "divmod")⟩, ⟨(PySem.PyData.keyHash P (PySem.Str.mk (Array.mk [(nat_lit 101), (nat_lit 118), (nat_lit 97), (nat_lit 108)]))), (PySem.Value.str (PySem.Str.mk (Array.mk [(nat_lit 101), (nat_lit 118), (nat_lit 97), (nat_lit 108)])) 20), (PySem.Value.builtin "eval")⟩, ⟨(PySem.PyData.keyHash P (PySem.Str.mk (Array.mk [(nat_lit 101), (nat_lit 120), (nat_lit 101), (nat_lit 99)]))), (PySem.Value.str (PySem.Str.mk (Array.mk [(nat_lit 101), (nat_lit 120), (nat_lit 101), (nat_lit 99)])) 21), (PySem.Value.builtin "exec")⟩, ⟨(PySem.PyData.keyHash P (PySem.Str.mk (Array.mk [(nat_lit 102), (nat_lit 111), (nat_lit 114), (nat_lit 109), (nat_lit 97), (nat_lit 116)]))), (PySem.Value.str (PySem.Str.mk (Array.mk [(nat_lit 102), (nat_lit 111), (nat_lit 114), (nat_lit 109), (nat_lit 97), (nat_lit 116)])) 22), (PySem.Value.builtin "format")⟩, ⟨(PySem.PyData.keyHash P (PySem.Str.mk (Array.mk [(nat_lit 103), (nat_lit 101), (nat_lit 116), (nat_lit 97), (nat_lit 116), (nat_lit 116), (nat_lit 114)]))), (PySem.Value.str (PySem.Str.mk (Array.mk [(nat_lit 103), (nat_lit 101), (nat_lit 116), (nat_lit 97), (nat_lit 116), (nat_lit 116), (nat_lit 114)])) 23), (PySem.Value.builtin "getattr")⟩, ⟨(PySem.PyData.keyHash P (PySem.Str.mk (Array.mk [(nat_lit 103), (nat_lit 108), (nat_lit 111), (nat_lit 98), (nat_lit 97), (nat_lit 108), (nat_lit 115)]))), (PySem.Value.str (PySem.Str.mk (Array.mk [(nat_lit 103), (nat_lit 108), (nat_lit 111), (nat_lit 98), (nat_lit 97), (nat_lit 108), (nat_lit 115)])) 24), (PySem.Value.builtin "globals")⟩, ⟨(PySem.PyData.keyHash P (PySem.Str.mk (Array.mk [(nat_lit 104), (nat_lit 97), (nat_lit 115), (nat_lit 97), (nat_lit 116), (nat_lit 116), (nat_lit 114)]))), (PySem.Value.str (PySem.Str.mk (Array.mk [(nat_lit 104), (nat_lit 97), (nat_lit 115), (nat_lit 97), (nat_lit 116), (nat_lit 116), (nat_lit 114)])) 25), (PySem.Value.builtin "hasattr")⟩, ⟨(PySem.PyData.keyHash P (PySem.Str.mk (Array.mk [(nat_lit 104), (nat_lit 97), (nat_lit 115), (nat_lit 104)]))), (PySem.Value.str (PySem.Str.mk (Array.mk [(nat_lit 104), (nat_lit 97), (nat_lit 115), (nat_lit 104)])) 26), (PySem.Value.builtin "hash")⟩, ⟨(PySem.PyData.keyHash P (PySem.Str.mk (Array.mk [(nat_lit 104), (nat_lit 101), (nat_lit 120)]))), (PySem.Value.str (PySem.Str.mk (Array.mk [(nat_lit 104), (nat_lit 101), (nat_lit 120)])) 27), (PySem.Value.builtin "hex")⟩, ⟨(PySem.PyData.keyHash P (PySem.Str.mk (Array.mk [(nat_lit 105), (nat_lit 100)]))), (PySem.Value.str (PySem.Str.mk (Array.mk [(nat_lit 105), (nat_lit 100)])) 28), (PySem.Value.builtin "id")⟩, ⟨(PySem.PyData.keyHash P (PySem.Str.mk (Array.mk [(nat_lit 105), (nat_lit 110), (nat_lit 112), (nat_lit 117), (nat_lit 116)]))), (PySem.Value.str (PySem.Str.mk (Array.mk [(nat_lit 105), (nat_lit 110), (nat_lit 112), (nat_lit 117), (nat_lit 116)])) 29), (PySem.Value.builtin "input")⟩, ⟨(PySem.PyData.keyHash P (PySem.Str.mk (Array.mk [(nat_lit 105), (nat_lit 115), (nat_lit 105), (nat_lit 110), (nat_lit 115), (nat_lit 116), (nat_lit 97), (nat_lit 110), (nat_lit 99), (nat_lit 101)]))), (PySem.Value.str (PySem.Str.mk (Array.mk [(nat_lit 105), (nat_lit 115), (nat_lit 105), (nat_lit 110), (nat_lit 115), (nat_lit 116), (nat_lit 97), (nat_lit 110), (nat_lit 99), (nat_lit 101)])) 30), (PySem.Value.builtin "isinstance")⟩, ⟨(PySem.PyData.keyHash P (PySem.Str.mk (Array.mk [(nat_lit 105), (nat_lit 115), (nat_lit 115), (nat_lit 117), (nat_lit 98), (nat_lit 99), (nat_lit 108), (nat_lit 97), (nat_lit 115), (nat_lit 115)]))), (PySem.Value.str (PySem.Str.mk (Array.mk [(nat_lit 105), (nat_lit 115), (nat_lit 115), (nat_lit 117), (nat_lit 98), (nat_lit 99), (nat_lit 108), (nat_lit 97), (nat_lit 115), (nat_lit 115)])) 31), (PySem.Value.builtin "issubclass")⟩, ⟨(PySem.PyData.keyHash P (PySem.Str.mk (Array.mk [(nat_lit 105), (nat_lit 116), (nat_lit 101), (nat_lit 114)]))), (PySem.Value.str (PySem.Str.mk (Array.mk [(nat_lit 105), (nat_lit 116), (nat_lit 101), (nat_lit 114)])) 32), (PySem.Value.builtin "iter")⟩, ⟨(PySem.PyData.keyHash P (PySem.Str.mk (Array.mk [(nat_lit 97), (nat_lit 105), (nat_lit 116), (nat_lit 101), (nat_lit 114)]))), (PySem.Value.str (PySem.Str.mk (Array.mk [(nat_lit 97), (nat_lit 105), (nat_lit 116), (nat_lit 101), (nat_lit 114)])) 33), (PySem.Value.builtin "aiter")⟩, ⟨(PySem.PyData.keyHash P (PySem.Str.mk (Array.mk [(nat_lit 108), (nat_lit 101), (nat_lit 110)]))), (PySem.Value.str (PySem.Str.mk (Array.mk [(nat_lit 108), (nat_lit 101), (nat_lit 110)])) 34), (PySem.Value.builtin "len")⟩, ⟨(PySem.PyData.keyHash P (PySem.Str.mk (Array.mk [(nat_lit 108), (nat_lit 111), (nat_lit 99), (nat_lit 97), (nat_lit 108), (nat_lit 115)]))), (PySem.Value.str (PySem.Str.mk (Array.mk [(nat_lit 108), (nat_lit 111), (nat_lit 99), (nat_lit 97), (nat_lit 108), (nat_lit 115)])) 35), (PySem.Value.builtin "locals")⟩, ⟨(PySem.PyData.keyHash P (PySem.Str.mk (Array.mk [(nat_lit 109), (nat_lit 97), (nat_lit 120)]))), (PySem.Value.str (PySem.Str.mk (Array.mk [(nat_lit 109), (nat_lit 97), (nat_lit 120)])) 36), (PySem.Value.builtin "max")⟩, ⟨(PySem.PyData.keyHash P (PySem.Str.mk (Array.mk [(nat_lit 109), (nat_lit 105), (nat_lit 110)]))), (PySem.Value.str (PySem.Str.mk (Array.mk [(nat_lit 109), (nat_lit 105), (nat_lit 110)])) 37), (PySem.Value.builtin "min")⟩, ⟨(PySem.PyData.keyHash P (PySem.Str.mk (Array.mk [(nat_lit 110), (nat_lit 101), (nat_lit 120), (nat_lit 116)]))), (PySem.Value.str (PySem.Str.mk (Array.mk [(nat_lit 110), (nat_lit 101), (nat_lit 120), (nat_lit 116)])) 38), (PySem.Value.builtin "next")⟩, ⟨(PySem.PyData.keyHash P (PySem.Str.mk (Array.mk [(nat_lit 97), (nat_lit 110), (nat_lit 101), (nat_lit 120), (nat_lit 116)]))), (PySem.Value.str (PySem.Str.mk (Array.mk [(nat_lit 97), (nat_lit 110), (nat_lit 101), (nat_lit 120), (nat_lit 116)])) 39), (PySem.Value.builtin "anext")⟩, ⟨(PySem.PyData.keyHash P (PySem.Str.mk (Array.mk [(nat_lit 111), (nat_lit 99), (nat_lit 116)]))), (PySem.Value.str (PySem.Str.mk (Array.mk [(nat_lit 111), (nat_lit 99), (nat_lit 116)])) 40), (PySem.Value.builtin "oct")⟩, ⟨(PySem.PyData.keyHash P (PySem.Str.mk (Array.mk [(nat_lit 111), (nat_lit 114), (nat_lit 100)]))), (PySem.Value.str (PySem.Str.mk (Array.mk [(nat_lit 111), (nat_lit 114), (nat_lit 100)])) 41), (PySem.Value.builtin "ord")⟩, ⟨(PySem.PyData.keyHash P (PySem.Str.mk (Array.mk [(nat_lit 112), (nat_lit 111), (nat_lit 119)]))), (PySem.Value.str (PySem.Str.mk (Array.mk [(nat_lit 112), (nat_lit 111), (nat_lit 119)])) 42), (PySem.Value.builtin "pow")⟩, ⟨(PySem.PyData.keyHash P (PySem.Str.mk (Array.mk [(nat_lit 112), (nat_lit 114), (nat_lit 105), (nat_lit 110), (nat_lit 116)]))), (PySem.Value.str (PySem.Str.mk (Array.mk [(nat_lit 112), (nat_lit 114), (nat_lit 105), (nat_lit 110), (nat_lit 116)])) 43), (PySem.Value.builtin "print")⟩, ⟨(PySem.PyData.keyHash P (PySem.Str.mk (Array.mk [(nat_lit 114), (nat_lit 101), (nat_lit 112), (nat_lit 114)]))), (PySem.Value.str (PySem.Str.mk (Array.mk [(nat_lit 114), (nat_lit 101), (nat_lit 112), (nat_lit 114)])) 44), (PySem.Value.builtin "repr")⟩, ⟨(PySem.PyData.keyHash P (PySem.Str.mk (Array.mk [(nat_lit 114), (nat_lit 111), (nat_lit 117), (nat_lit 110), (nat_lit 100)]))), (PySem.Value.str (PySem.Str.mk (Array.mk [(nat_lit 114), (nat_lit 111), (nat_lit 117), (nat_lit 110), (nat_lit 100)])) 45), (PySem.Value.builtin "round")⟩, ⟨(PySem.PyData.keyHash P (PySem.Str.mk (Array.mk [(nat_lit 115), (nat_lit 101), (nat_lit 116), (nat_lit 97), (nat_lit 116), (nat_lit 116), (nat_lit 114)]))), (PySem.Value.str (PySem.Str.mk (Array.mk [(nat_lit 115), (nat_lit 101), (nat_lit 116), (nat_lit 97), (nat_lit 116), (nat_lit 116), (nat_lit 114)])) 46), (PySem.Value.builtin "setattr")⟩, ⟨(PySem.PyData.keyHash P (PySem.Str.mk (Array.mk [(nat_lit 115), (nat_lit 111), (nat_lit 114), (nat_lit 116), (nat_lit 101), (nat_lit 100)]))), (PySem.Value.str (PySem.Str.mk (Array.mk [(nat_lit 115), (nat_lit 111), (nat_lit 114), (nat_lit 116), (nat_lit 101), (nat_lit 100)])) 47), (PySem.Value.builtin "sorted")⟩, ⟨(PySem.PyData.keyHash P (PySem.Str.mk (Array.mk [(nat_lit 115), (nat_lit 117), (nat_lit 109)]))), (PySem.Value.str (PySem.Str.mk (Array.mk [(nat_lit 115), (nat_lit 117), (nat_lit 109)])) 48), (PySem.Value.builtin "sum")⟩, ⟨(PySem.PyData.keyHash P (PySem.Str.mk (Array.mk [(nat_lit 118), (nat_lit 97), (nat_lit 114), (nat_lit 115)]))), (PySem.Value.str (PySem.Str.mk (Array.mk [(nat_lit 118), (nat_lit 97), (nat_lit 114), (nat_lit 115)])) 49), (PySem.Value.builtin "vars")⟩, ⟨(PySem.PyData.keyHash P (PySem.Str.mk (Array.mk [(nat_lit 78), (nat_lit 111), (nat_lit 110), (nat_lit 101)]))), (PySem.Value.str (PySem.Str.mk (Array.mk [(nat_lit 78), (nat_lit 111), (nat_lit 110), (nat_lit 101)])) 50), PySem.Value.none⟩, ⟨(PySem.PyData.keyHash P (PySem.Str.mk (Array.mk [(nat_lit 69), (nat_lit 108), (nat_lit 108), (nat_lit 105), (nat_lit 112), (nat_lit 115), (nat_lit 105), (nat_lit 115)]))), (PySem.Value.str (PySem.Str.mk (Array.mk [(nat_lit 69), (nat_lit 108), (nat_lit 108), (nat_lit 105), (nat_lit 112), (nat_lit 115), (nat_lit 105), (nat_lit 115)])) 51), PySem.Value.ellipsis⟩, ⟨(PySem.PyData.keyHash P (PySem.Str.mk (Array.mk [(nat_lit 78), (nat_lit 111), (nat_lit 116), (nat_lit 73), (nat_lit 109), (nat_lit 112), (nat_lit 108), (nat_lit 101), (nat_lit 109), (nat_lit 101), (nat_lit 110), (nat_lit 116), (nat_lit 101), (nat_lit 100)]))), (PySem.Value.str (PySem.Str.mk (Array.mk [(nat_lit 78), (nat_lit 111), (nat_lit 116), (nat_lit 73), (nat_lit 109), (nat_lit 112), (nat_lit 108), (nat_lit 101), (nat_lit 109), (nat_lit 101), (nat_lit 110), (nat_lit 116), (nat_lit 101), (nat_lit 100)])) 52), PySem.Value.notImplemented⟩, ⟨(PySem.PyData.keyHash P (PySem.Str.mk (Array.mk [(nat_lit 70), (nat_lit 97), (nat_lit 108), (nat_lit 115), (nat_lit 101)]))), (PySem.Value.str (PySem.Str.mk (Array.mk [(nat_lit 70), (nat_lit 97), (nat_lit 108), (nat_lit 115), (nat_lit 101)])) 53), (PySem.Value.bool Bool.false)⟩, ⟨(PySem.PyData.keyHash P (PySem.Str.mk (Array.mk [(nat_lit 84), (nat_lit 114), (nat_lit 117), (nat_lit 101)]))), (PySem.Value.str (PySem.Str.mk (Array.mk [(nat_lit 84), (nat_lit 114), (nat_lit 117), (nat_lit 101)])) 54), (PySem.Value.bool Bool.true)⟩, ⟨(PySem.PyData.keyHash P (PySem.Str.mk (Array.mk [(nat_lit 98), (nat_lit 111), (nat_lit 111), (nat_lit 108)]))), (PySem.Value.str (PySem.Str.mk (Array.mk [(nat_lit 98), (nat_lit 111), (nat_lit 111), (nat_lit 108)])) 55), (PySem.Value.type "bool")⟩, ⟨(PySem.PyData.keyHash P (PySem.Str.mk (Array.mk [(nat_lit 109), (nat_lit 101), (nat_lit 109), (nat_lit 111), (nat_lit 114), (nat_lit 121), (nat_lit 118), (nat_lit 105), (nat_lit 101), (nat_lit 119)]))), (PySem.Value.str (PySem.Str.mk (Array.mk [(nat_lit 109), (nat_lit 101), (nat_lit 109), (nat_lit 111), (nat_lit 114), (nat_lit 121), (nat_lit 118), (nat_lit 105), (nat_lit 101), (nat_lit 119)])) 56), (PySem.Value.type "memoryview")⟩, ⟨(PySem.PyData.keyHash P (PySem.Str.mk (Array.mk [(nat_lit 98), (nat_lit 121), (nat_lit 116), (nat_lit 101), (nat_lit 97), (nat_lit 114), (nat_lit 114), (nat_lit 97), (nat_lit 121)]))), (PySem.Value.str (PySem.Str.mk (Array.mk [(nat_lit 98), (nat_lit 121), (nat_lit 116), (nat_lit 101), (nat_lit 97), (nat_lit 114), (nat_lit 114), (nat_lit 97), (nat_lit 121)])) 57), (PySem.Value.type "bytearray")⟩, ⟨(PySem.PyData.keyHash P (PySem.Str.mk (Array.mk [(nat_lit 98), (nat_lit 121), (nat_lit 116), (nat_lit 101), (nat_lit 115)]))), (PySem.Value.str (PySem.Str.mk (Array.mk [(nat_lit 98), (nat_lit 121), (nat_lit 116), (nat_lit 101), (nat_lit 115)])) 58), (PySem.Value.type "bytes")⟩, ⟨(PySem.PyData.keyHash P (PySem.Str.mk (Array.mk [(nat_lit 99), (nat_lit 108), (nat_lit 97), (nat_lit 115), (nat_lit 115), (nat_lit 109), (nat_lit 101), (nat_lit 116), (nat_lit 104), (nat_lit 111), (nat_lit 100)]))), (PySem.Value.str (PySem.Str.mk (Array.mk [(nat_lit 99), (nat_lit 108), (nat_lit 97), (nat_lit 115), (nat_lit 115), (nat_lit 109), (nat_lit 101), (nat_lit 116), (nat_lit 104), (nat_lit 111), (nat_lit 100)])) 59), (PySem.Value.type "classmethod")⟩, ⟨(PySem.PyData.keyHash P (PySem.Str.mk (Array.mk [(nat_lit 99), (nat_lit 111), (nat_lit 109), (nat_lit 112), (nat_lit 108), (nat_lit 101), (nat_lit 120)]))), (PySem.Value.str (PySem.Str.mk (Array.mk [(nat_lit 99), (nat_lit 111), (nat_lit 109), (nat_lit 112), (nat_lit 108), (nat_lit 101), (nat_lit 120)])) 60), (PySem.Value.type "complex")⟩, ⟨(PySem.PyData.keyHash P (PySem.Str.mk (Array.mk [(nat_lit 100), (nat_lit 105), (nat_lit 99), (nat_lit 116)]))), (PySem.Value.str (PySem.Str.mk (Array.mk [(nat_lit 100), (nat_lit 105), (nat_lit 99), (nat_lit 116)])) 61), (PySem.Value.type "dict")⟩, ⟨(PySem.PyData.keyHash P (PySem.Str.mk (Array.mk [(nat_lit 101), (nat_lit 110), (nat_lit 117), (nat_lit 109), (nat_lit 101), (nat_lit 114), (nat_lit 97), (nat_lit 116), (nat_lit 101)]))), (PySem.Value.str (PySem.Str.mk (Array.mk [(nat_lit 101), (nat_lit 110), (nat_lit 117), (nat_lit 109), (nat_lit 101), (nat_lit 114), (nat_lit 97), (nat_lit 116), (nat_lit 101)])) 62), (PySem.Value.type "enumerate")⟩, ⟨(PySem.PyData.keyHash P (PySem.Str.mk (Array.mk [(nat_lit 102), (nat_lit 105), (nat_lit 108), (nat_lit 116), (nat_lit 101), (nat_lit 114)]))), (PySem.Value.str (PySem.Str.mk (Array.mk [(nat_lit 102), (nat_lit 105), (nat_lit 108), (nat_lit 116), (nat_lit 101), (nat_lit 114)])) 63), (PySem.Value.type "filter")⟩, ⟨(PySem.PyData.keyHash P (PySem.Str.mk (Array.mk [(nat_lit 102), (nat_lit 108), (nat_lit 111), (nat_lit 97), (nat_lit 116)]))), (PySem.Value.str (PySem.Str.mk (Array.mk [(nat_lit 102), (nat_lit 108), (nat_lit 111), (nat_lit 97), (nat_lit 116)])) 64), (PySem.Value.type "float")⟩, ⟨(PySem.PyData.keyHash P (PySem.Str.mk (Array.mk [(nat_lit 102), (nat_lit 114), (nat_lit 111), (nat_lit 122), (nat_lit 101), (nat_lit 110), (nat_lit 115), (nat_lit 101), (nat_lit 116)]))), (PySem.Value.str (PySem.Str.mk (Array.mk [(nat_lit 102), (nat_lit 114), (nat_lit 111), (nat_lit 122), (nat_lit 101), (nat_lit 110), (nat_lit 115), (nat_lit 101), (nat_lit 116)])) 65), (PySem.Value.type "frozenset")⟩, ⟨(PySem.PyData.keyHash P (PySem.Str.mk (Array.mk [(nat_lit 112), (nat_lit 114), (nat_lit 111), (nat_lit 112), (nat_lit 101), (nat_lit 114), (nat_lit 116), (nat_lit 121)]))), (PySem.Value.str (PySem.Str.mk (Array.mk [(nat_lit 112), (nat_lit 114), (nat_lit 111), (nat_lit 112), (nat_lit 101), (nat_lit 114), (nat_lit 116), (nat_lit 121)])) 66), (PySem.Value.type "property")⟩, ⟨(PySem.PyData.keyHash P (PySem.Str.mk (Array.mk [(nat_lit 105), (nat_lit 110), (nat_lit 116)]))), (PySem.Value.str (PySem.Str.mk (Array.mk [(nat_lit 105), (nat_lit 110), (nat_lit 116)])) 67), (PySem.Value.type "int")⟩, ⟨(PySem.PyData.keyHash P (PySem.Str.mk (Array.mk [(nat_lit 108), (nat_lit 105), (nat_lit 115), (nat_lit 116)]))), (PySem.Value.str (PySem.Str.mk (Array.mk [(nat_lit 108), (nat_lit 105), (nat_lit 115), (nat_lit 116)])) 68), (PySem.Value.type "list")⟩, ⟨(PySem.PyData.keyHash P (PySem.Str.mk (Array.mk [(nat_lit 109), (nat_lit 97), (nat_lit 112)]))), (PySem.Value.str (PySem.Str.mk (Array.mk [(nat_lit 109), (nat_lit 97), (nat_lit 112)])) 69), (PySem.Value.type "map")⟩, ⟨(PySem.PyData.keyHash P (PySem.Str.mk (Array.mk [(nat_lit 111), (nat_lit 98), (nat_lit 106), (nat_lit 101), (nat_lit 99), (nat_lit 116)]))), (PySem.Value.str (PySem.Str.mk (Array.mk [(nat_lit 111), (nat_lit 98), (nat_lit 106), (nat_lit 101), (nat_lit 99), (nat_lit 116)])) 70), (PySem.Value.type "object")⟩, ⟨(PySem.PyData.keyHash P (PySem.Str.mk (Array.mk [(nat_lit 114), (nat_lit 97), (nat_lit 110), (nat_lit 103), (nat_lit 101)]))), (PySem.Value.str (PySem.Str.mk (Array.mk [(nat_lit 114), (nat_lit 97), (nat_lit 110), (nat_lit 103), (nat_lit 101)])) 71), (PySem.Value.type "range")⟩, ⟨(PySem.PyData.keyHash P (PySem.Str.mk (Array.mk [(nat_lit 114), (nat_lit 101), (nat_lit 118), (nat_lit 101), (nat_lit 114), (nat_lit 115), (nat_lit 101), (nat_lit 100)]))), (PySem.Value.str (PySem.Str.mk (Array.mk [(nat_lit 114), (nat_lit 101), (nat_lit 118), (nat_lit 101), (nat_lit 114), (nat_lit 115), (nat_lit 101), (nat_lit 100)])) 72), (PySem.Value.type "reversed")⟩, ⟨(PySem.PyData.keyHash P (PySem.Str.mk (Array.mk [(nat_lit 115), (nat_lit 101), (nat_lit 116)]))), (PySem.Value.str (PySem.Str.mk (Array.mk [(nat_lit 115), (nat_lit 101), (nat_lit 116)])) 73), (PySem.Value.type "set")⟩, ⟨(PySem.PyData.keyHash P (PySem.Str.mk (Array.mk [(nat_lit 115), (nat_lit 108), (nat_lit 105), (nat_lit 99), (nat_lit 101)]))), (PySem.Value.str (PySem.Str.mk (Array.mk [(nat_lit 115), (nat_lit 108), (nat_lit 105), (nat_lit 99), (nat_lit 101)])) 74), (PySem.Value.type "slice")⟩, ⟨(PySem.PyData.keyHash P (PySem.Str.mk (Array.mk [(nat_lit 115), (nat_lit 116), (nat_lit 97), (nat_lit 116), (nat_lit 105), (nat_lit 99), (nat_lit 109), (nat_lit 101), (nat_lit 116), (nat_lit 104), (nat_lit 111), (nat_lit 100)]))), (PySem.Value.str (PySem.Str.mk (Array.mk [(nat_lit 115), (nat_lit 116), (nat_lit 97), (nat_lit 116), (nat_lit 105), (nat_lit 99), (nat_lit 109), (nat_lit 101), (nat_lit 116), (nat_lit 104), (nat_lit 111), (nat_lit 100)])) 75), (PySem.Value.type "staticmethod")⟩, ⟨(PySem.PyData.keyHash P (PySem.Str.mk (Array.mk [(nat_lit 115), (nat_lit 116), (nat_lit 114)]))), (PySem.Value.str (PySem.Str.mk (Array.mk [(nat_lit 115), (nat_lit 116), (nat_lit 114)])) 76), (PySem.Value.type "str")⟩, ⟨(PySem.PyData.keyHash P (PySem.Str.mk (Array.mk [(nat_lit 115), (nat_lit 117), (nat_lit 112), (nat_lit 101), (nat_lit 114)]))), (PySem.Value.str (PySem.Str.mk (Array.mk [(nat_lit 115), (nat_lit 117), (nat_lit 112), (nat_lit 101), (nat_lit 114)])) 77), (PySem.Value.type "super")⟩, ⟨(PySem.PyData.keyHash P (PySem.Str.mk (Array.mk [(nat_lit 116), (nat_lit 117), (nat_lit 112), (nat_lit 108), (nat_lit 101)]))), (PySem.Value.str (PySem.Str.mk (Array.mk [(nat_lit 116), (nat_lit 117), (nat_lit 112), (nat_lit 108), (nat_lit 101)])) 78), (PySem.Value.type "tuple")⟩, ⟨(PySem.PyData.keyHash P (PySem.Str.mk (Array.mk [(nat_lit 116), (nat_lit 121), (nat_lit 112), (nat_lit 101)]))), (PySem.Value.str (PySem.Str.mk (Array.mk [(nat_lit 116), (nat_lit 121), (nat_lit 112), (nat_lit 101)])) 79), (PySem.Value.type "type")⟩, ⟨(PySem.PyData.keyHash P (PySem.Str.mk (Array.mk [(nat_lit 122), (nat_lit 105), (nat_lit 112)]))), (PySem.Value.str (PySem.Str.mk (Array.mk [(nat_lit 122), (nat_lit 105), (nat_lit 112)])) 80), (PySem.Value.type "zip")⟩, ⟨(PySem.PyData.keyHash P (PySem.Str.mk (Array.mk [(nat_lit 95), (nat_lit 95), (nat_lit 100), (nat_lit 101), (nat_lit 98), (nat_lit 117), (nat_lit 103), (nat_lit 95), (nat_lit 95)]))), (PySem.Value.str (PySem.Str.mk (Array.mk [(nat_lit 95), (nat_lit 95), (nat_lit 100), (nat_lit 101), (nat_lit 98), (nat_lit 117), (nat_lit 103), (nat_lit 95), (nat_lit 95)])) 81), (PySem.Value.bool Bool.true)⟩, ⟨(PySem.PyData.keyHash P (PySem.Str.mk (Array.mk [(nat_lit 66), (nat_lit 97), (nat_lit 115), (nat_lit 101), (nat_lit 69), (nat_lit 120), (nat_lit 99), (nat_lit 101), (nat_lit 112), (nat_lit 116), (nat_lit 105), (nat_lit 111), (nat_lit 110)]))), (PySem.Value.str (PySem.Str.mk (Array.mk [(nat_lit 66), (nat_lit 97), (nat_lit 115), (nat_lit 101), (nat_lit 69), (nat_lit 120), (nat_lit 99), (nat_lit 101), (nat_lit 112), (nat_lit 116), (nat_lit 105), (nat_lit 111), (nat_lit 110)])) 82), (PySem.Value.type "BaseException")⟩, ⟨(PySem.PyData.keyHash P (PySem.Str.mk (Array.mk [(nat_lit 66), (nat_lit 97), (nat_lit 115), (nat_lit 101), (nat_lit 69), (nat_lit 120), (nat_lit 99), (nat_lit 101), (nat_lit 112), (nat_lit 116), (nat_lit 105), (nat_lit 111), (nat_lit 110), (nat_lit 71), (nat_lit 114), (nat_lit 111), (nat_lit 117), (nat_lit 112)]))), (PySem.Value.str (PySem.Str.mk (Array.mk [(nat_lit 66), (nat_lit 97), (nat_lit 115), (nat_lit 101), (nat_lit 69), (nat_lit 120), (nat_lit 99), (nat_lit 101), (nat_lit 112), (nat_lit 116), (nat_lit 105), (nat_lit 111), (nat_lit 110), (nat_lit 71), (nat_lit 114), (nat_lit 111), (nat_lit 117), (nat_lit 112)])) 83), (PySem.Value.type "BaseExceptionGroup")⟩, ⟨(PySem.PyData.keyHash P (PySem.Str.mk (Array.mk [(nat_lit 69), (nat_lit 120), (nat_lit 99), (nat_lit 101), (nat_lit 112), (nat_lit 116), (nat_lit 105), (nat_lit 111), (nat_lit 110)]))), (PySem.Value.str (PySem.Str.mk (Array.mk [(nat_lit 69), (nat_lit 120), (nat_lit 99), (nat_lit 101), (nat_lit 112), (nat_lit 116), (nat_lit 105), (nat_lit 111), (nat_lit 110)])) 84), (PySem.Value.type "Exception")⟩, ⟨(PySem.PyData.keyHash P (PySem.Str.mk (Array.mk [(nat_lit 71), (nat_lit 101), (nat_lit 110), (nat_lit 101), (nat_lit 114), (nat_lit 97), (nat_lit 116), (nat_lit 111), (nat_lit 114), (nat_lit 69), (nat_lit 120), (nat_lit 105), (nat_lit 116)]))), (PySem.Value.str (PySem.Str.mk (Array.mk [(nat_lit 71), (nat_lit 101), (nat_lit 110), (nat_lit 101), (nat_lit 114), (nat_lit 97), (nat_lit 116), (nat_lit 111), (nat_lit 114), (nat_lit 69), (nat_lit 120), (nat_lit 105), (nat_lit 116)])) 85), (PySem.Value.type "GeneratorExit")⟩, ⟨(PySem.PyData.keyHash P (PySem.Str.mk (Array.mk [(nat_lit 75), (nat_lit 101), (nat_lit 121), (nat_lit 98), (nat_lit 111), (nat_lit 97), (nat_lit 114), (nat_lit 100), (nat_lit 73), (nat_lit 110), (nat_lit 116), (nat_lit 101), (nat_lit 114), (nat_lit 114), (nat_lit 117), (nat_lit 112), (nat_lit 116)]))), (PySem.Value.str (PySem.Str.mk (Array.mk [(nat_lit 75), (nat_lit 101), (nat_lit 121), (nat_lit 98), (nat_lit 111), (nat_lit 97), (nat_lit 114), (nat_lit 100), (nat_lit 73), (nat_lit 110), (nat_lit 116), (nat_lit 101), (nat_lit 114), (nat_lit 114), (nat_lit 117), (nat_lit 112), (nat_lit 116)])) 86), (PySem.Value.type "KeyboardInterrupt")⟩, ⟨(PySem.PyData.keyHash P (PySem.Str.mk (Array.mk [(nat_lit 83), (nat_lit 121), (nat_lit 115), (nat_lit 116), (nat_lit 101), (nat_lit 109), (nat_lit 69), (nat_lit 120), (nat_lit 105), (nat_lit 116)]))), (PySem.Value.str (PySem.Str.mk (Array.mk [(nat_lit 83), (nat_lit 121), (nat_lit 115), (nat_lit 116), (nat_lit 101), (nat_lit 109), (nat_lit 69), (nat_lit 120), (nat_lit 105), (nat_lit 116)])) 87), (PySem.Value.type "SystemExit")⟩, ⟨(PySem.PyData.keyHash P (PySem.Str.mk (Array.mk [(nat_lit 65), (nat_lit 114), (nat_lit 105), (nat_lit 116), (nat_lit 104), (nat_lit 109), (nat_lit 101), (nat_lit 116), (nat_lit 105), (nat_lit 99), (nat_lit 69), (nat_lit 114), (nat_lit 114), (nat_lit 111), (nat_lit 114)]))), (PySem.Value.str (PySem.Str.mk (Array.mk [(nat_lit 65), (nat_lit 114), (nat_lit 105), (nat_lit 116), (nat_lit 104), (nat_lit 109), (nat_lit 101), (nat_lit 116), (nat_lit 105), (nat_lit 99), (nat_lit 69), (nat_lit 114), (nat_lit 114), (nat_lit 111), (nat_lit 114)])) 88), (PySem.Value.type "ArithmeticError")⟩, ⟨(PySem.PyData.keyHash P (PySem.Str.mk (Array.mk [(nat_lit 65), (nat_lit 115), (nat_lit 115), (nat_lit 101), (nat_lit 114), (nat_lit 116), (nat_lit 105), (nat_lit 111), (nat_lit 110), (nat_lit 69), (nat_lit 114), (nat_lit 114), (nat_lit 111), (nat_lit 114)]))), (PySem.Value.str (PySem.Str.mk (Array.mk [(nat_lit 65), (nat_lit 115), (nat_lit 115), (nat_lit 101), (nat_lit 114), (nat_lit 116), (nat_lit 105), (nat_lit 111), (nat_lit 110), (nat_lit 69), (nat_lit 114), (nat_lit 114), (nat_lit 111), (nat_lit 114)])) 89), (PySem.Value.type "AssertionError")⟩, ⟨(PySem.PyData.keyHash P (PySem.Str.mk (Array.mk [(nat_lit 65), (nat_lit 116), (nat_lit 116), (nat_lit 114), (nat_lit 105), (nat_lit 98), (nat_lit 117), (nat_lit 116), (nat_lit 101), (nat_lit 69), (nat_lit 114), (nat_lit 114), (nat_lit 111), (nat_lit 114)]))), (PySem.Value.str (PySem.Str.mk (Array.mk [(nat_lit 65), (nat_lit 116), (nat_lit 116), (nat_lit 114), (nat_lit 105), (nat_lit 98), (nat_lit 117), (nat_lit 116), (nat_lit 101), (nat_lit 69), (nat_lit 114), (nat_lit 114), (nat_lit 111), (nat_lit 114)])) 90), (PySem.Value.type "AttributeError")⟩, ⟨(PySem.PyData.keyHash P (PySem.Str.mk (Array.mk [(nat_lit 66), (nat_lit 117), (nat_lit 102), (nat_lit 102), (nat_lit 101), (nat_lit 114), (nat_lit 69), (nat_lit 114), (nat_lit 114), (nat_lit 111), (nat_lit 114)]))), (PySem.Value.str (PySem.Str.mk (Array.mk [(nat_lit 66), (nat_lit 117), (nat_lit 102), (nat_lit 102), (nat_lit 101), (nat_lit 114), (nat_lit 69), (nat_lit 114), (nat_lit 114), (nat_lit 111), (nat_lit 114)])) 91), (PySem.Value.type "BufferError")⟩, ⟨(PySem.PyData.keyHash P (PySem.Str.mk (Array.mk [(nat_lit 69), (nat_lit 79), (nat_lit 70), (nat_lit 69), (nat_lit 114), (nat_lit 114), (nat_lit 111), (nat_lit 114)]))), (PySem.Value.str (PySem.Str.mk (Array.mk [(nat_lit 69), (nat_lit 79), (nat_lit 70), (nat_lit 69), (nat_lit 114), (nat_lit 114), (nat_lit 111), (nat_lit 114)])) 92), (PySem.Value.type "EOFError")⟩, ⟨(PySem.PyData.keyHash P (PySem.Str.mk (Array.mk [(nat_lit 73), (nat_lit 109), (nat_lit 112), (nat_lit 111), (nat_lit 114), (nat_lit 116), (nat_lit 69), (nat_lit 114), (nat_lit 114), (nat_lit 111), (nat_lit 114)]))), (PySem.Value.str (PySem.Str.mk (Array.mk [(nat_lit 73), (nat_lit 109), (nat_lit 112), (nat_lit 111), (nat_lit 114), (nat_lit 116), (nat_lit 69), (nat_lit 114), (nat_lit 114), (nat_lit 111), (nat_lit 114)])) 93), (PySem.Value.type "ImportError")⟩, ⟨(PySem.PyData.keyHash P (PySem.Str.mk (Array.mk [(nat_lit 76), (nat_lit 111), (nat_lit 111), (nat_lit 107), (nat_lit 117), (nat_lit 112), (nat_lit 69), (nat_lit 114), (nat_lit 114), (nat_lit 111), (nat_lit 114)]))), (PySem.Value.str (PySem.Str.mk (Array.mk [(nat_lit 76), (nat_lit 111), (nat_lit 111), (nat_lit 107), (nat_lit 117), (nat_lit 112), (nat_lit 69), (nat_lit 114), (nat_lit 114), (nat_lit 111), (nat_lit 114)])) 94), (PySem.Value.type "LookupError")⟩, ⟨(PySem.PyData.keyHash P (PySem.Str.mk (Array.mk [(nat_lit 77), (nat_lit 101), (nat_lit 109), (nat_lit 111), (nat_lit 114), (nat_lit 121), (nat_lit 69), (nat_lit 114), (nat_lit 114), (nat_lit 111), (nat_lit 114)]))), (PySem.Value.str (PySem.Str.mk (Array.mk [(nat_lit 77), (nat_lit 101), (nat_lit 109), (nat_lit 111), (nat_lit 114), (nat_lit 121), (nat_lit 69), (nat_lit 114), (nat_lit 114), (nat_lit 111), (nat_lit 114)])) 95), (PySem.Value.type "MemoryError")⟩, ⟨(PySem.PyData.keyHash P (PySem.Str.mk (Array.mk [(nat_lit 78), (nat_lit 97), (nat_lit 109), (nat_lit 101), (nat_lit 69), (nat_lit 114), (nat_lit 114), (nat_lit 111), (nat_lit 114)]))), (PySem.Value.str (PySem.Str.mk (Array.mk [(nat_lit 78), (nat_lit 97), (nat_lit 109), (nat_lit 101), (nat_lit 69), (nat_lit 114), (nat_lit 114), (nat_lit 111), (nat_lit 114)])) 96), (PySem.Value.type "NameError")⟩, ⟨(PySem.PyData.keyHash P (PySem.Str.mk (Array.mk [(nat_lit 79), (nat_lit 83), (nat_lit 69), (nat_lit 114), (nat_lit 114), (nat_lit 111), (nat_lit 114)]))), (PySem.Value.str (PySem.Str.mk (Array.mk [(nat_lit 79), (nat_lit 83), (nat_lit 69), (nat_lit 114), (nat_lit 114), (nat_lit 111), (nat_lit 114)])) 97), (PySem.Value.type "OSError")⟩, ⟨(PySem.PyData.keyHash P (PySem.Str.mk (Array.mk [(nat_lit 82), (nat_lit 101), (nat_lit 102), (nat_lit 101), (nat_lit 114), (nat_lit 101), (nat_lit 110), (nat_lit 99), (nat_lit 101), (nat_lit 69), (nat_lit 114), (nat_lit 114), (nat_lit 111), (nat_lit 114)]))), (PySem.Value.str (PySem.Str.mk (Array.mk [(nat_lit 82), (nat_lit 101), (nat_lit 102), (nat_lit 101), (nat_lit 114), (nat_lit 101), (nat_lit 110), (nat_lit 99), (nat_lit 101), (nat_lit 69), (nat_lit 114), (nat_lit 114), (nat_lit 111), (nat_lit 114)])) 98), (PySem.Value.type "ReferenceError")⟩, ⟨(PySem.PyData.keyHash P (PySem.Str.mk (Array.mk [(nat_lit 82), (nat_lit 117), (nat_lit 110), (nat_lit 116), (nat_lit 105), (nat_lit 109), (nat_lit 101), (nat_lit 69), (nat_lit 114), (nat_lit 114), (nat_lit 111), (nat_lit 114)]))), (PySem.Value.str (PySem.Str.mk (Array.mk [(nat_lit 82), (nat_lit 117), (nat_lit 110), (nat_lit 116), (nat_lit 105), (nat_lit 109), (nat_lit 101), (nat_lit 69), (nat_lit 114), (nat_lit 114), (nat_lit 111), (nat_lit 114)])) 99), (PySem.Value.type "RuntimeError")⟩, ⟨(PySem.PyData.keyHash P (PySem.Str.mk (Array.mk [(nat_lit 83), (nat_lit 116), (nat_lit 111), (nat_lit 112), (nat_lit 65), (nat_lit 115), (nat_lit 121), (nat_lit 110), (nat_lit 99), (nat_lit 73), (nat_lit 116), (nat_lit 101), (nat_lit 114), (nat_lit 97), (nat_lit 116), (nat_lit 105), (nat_lit 111), (nat_lit 110)]))), (PySem.Value.str (PySem.Str.mk (Array.mk [(nat_lit 83), (nat_lit 116), (nat_lit 111), (nat_lit 112), (nat_lit 65), (nat_lit 115), (nat_lit 121), (nat_lit 110), (nat_lit 99), (nat_lit 73), (nat_lit 116), (nat_lit 101), (nat_lit 114), (nat_lit 97), (nat_lit 116), (nat_lit 105), (nat_lit 111), (nat_lit 110)])) 100), (PySem.Value.type "StopAsyncIteration")⟩, ⟨(PySem.PyData.keyHash P (PySem.Str.mk (Array.mk [(nat_lit 83), (nat_lit 116), (nat_lit 111), (nat_lit 112), (nat_lit 73), (nat_lit 116), (nat_lit 101), (nat_lit 114), (nat_lit 97), (nat_lit 116), (nat_lit 105), (nat_lit 111), (nat_lit 110)]))), (PySem.Value.str (PySem.Str.mk (Array.mk [(nat_lit 83), (nat_lit 116), (nat_lit 111), (nat_lit 112), (nat_lit 73), (nat_lit 116), (nat_lit 101), (nat_lit 114), (nat_lit 97), (nat_lit 116), (nat_lit 105), (nat_lit 111), (nat_lit 110)])) 101), (PySem.Value.type "StopIteration")⟩, ⟨(PySem.PyData.keyHash P (PySem.Str.mk (Array.mk [(nat_lit 83), (nat_lit 121), (nat_lit 110), (nat_lit 116), (nat_lit 97), (nat_lit 120), (nat_lit 69), (nat_lit 114), (nat_lit 114), (nat_lit 111), (nat_lit 114)]))), (PySem.Value.str (PySem.Str.mk (Array.mk [(nat_lit 83), (nat_lit 121), (nat_lit 110), (nat_lit 116), (nat_lit 97), (nat_lit 120), (nat_lit 69), (nat_lit 114), (nat_lit 114), (nat_lit 111), (nat_lit 114)])) 102), (PySem.Value.type "SyntaxError")⟩, ⟨(PySem.PyData.keyHash P (PySem.Str.mk (Array.mk [(nat_lit 83), (nat_lit 121), (nat_lit 115), (nat_lit 116), (nat_lit 101), (nat_lit 109), (nat_lit 69), (nat_lit 114), (nat_lit 114), (nat_lit 111), (nat_lit 114)]))), (PySem.Value.str (PySem.Str.mk (Array.mk [(nat_lit 83), (nat_lit 121), (nat_lit 115), (nat_lit 116), (nat_lit 101), (nat_lit 109), (nat_lit 69), (nat_lit 114), (nat_lit 114), (nat_lit 111), (nat_lit 114)])) 103), (PySem.Value.type "SystemError")⟩, ⟨(PySem.PyData.keyHash P (PySem.Str.mk (Array.mk [(nat_lit 84), (nat_lit 121), (nat_lit 112), (nat_lit 101), (nat_lit 69), (nat_lit 114), (nat_lit 114), (nat_lit 111), (nat_lit 114)]))), (PySem.Value.str (PySem.Str.mk (Array.mk [(nat_lit 84), (nat_lit 121), (nat_lit 112), (nat_lit 101), (nat_lit 69), (nat_lit 114), (nat_lit 114), (nat_lit 111), (nat_lit 114)])) 104), (PySem.Value.type "TypeError")⟩, ⟨(PySem.PyData.keyHash P (PySem.Str.mk (Array.mk [(nat_lit 86), (nat_lit 97), (nat_lit 108), (nat_lit 117), (nat_lit 101), (nat_lit 69), (nat_lit 114), (nat_lit 114), (nat_lit 111), (nat_lit 114)]))), (PySem.Value.str (PySem.Str.mk (Array.mk [(nat_lit 86), (nat_lit 97), (nat_lit 108), (nat_lit 117), (nat_lit 101), (nat_lit 69), (nat_lit 114), (nat_lit 114), (nat_lit 111), (nat_lit 114)])) 105), (PySem.Value.type "ValueError")⟩, ⟨(PySem.PyData.keyHash P (PySem.Str.mk (Array.mk [(nat_lit 87), (nat_lit 97), (nat_lit 114), (nat_lit 110), (nat_lit 105), (nat_lit 110), (nat_lit 103)]))), (PySem.Value.str (PySem.Str.mk (Array.mk [(nat_lit 87), (nat_lit 97), (nat_lit 114), (nat_lit 110), (nat_lit 105), (nat_lit 110), (nat_lit 103)])) 106), (PySem.Value.type "Warning")⟩, ⟨(PySem.PyData.keyHash P (PySem.Str.mk (Array.mk [(nat_lit 70), (nat_lit 108), (nat_lit 111), (nat_lit 97), (nat_lit 116), (nat_lit 105), (nat_lit 110), (nat_lit 103), (nat_lit 80), (nat_lit 111), (nat_lit 105), (nat_lit 110), (nat_lit 116), (nat_lit 69), (nat_lit 114), (nat_lit 114), (nat_lit 111), (nat_lit 114)]))), (PySem.Value.str (PySem.Str.mk (Array.mk [(nat_lit 70), (nat_lit 108), (nat_lit 111), (nat_lit 97), (nat_lit 116), (nat_lit 105), (nat_lit 110), (nat_lit 103), (nat_lit 80), (nat_lit 111), (nat_lit 105), (nat_lit 110), (nat_lit 116), (nat_lit 69), (nat_lit 114), (nat_lit 114), (nat_lit 111), (nat_lit 114)])) 107), (PySem.Value.type "FloatingPointError")⟩, ⟨(PySem.PyData.keyHash P (PySem.Str.mk (Array.mk [(nat_lit 79), (nat_lit 118), (nat_lit 101), (nat_lit 114), (nat_lit 102), (nat_lit 108), (nat_lit 111), (nat_lit 119), (nat_lit 69), (nat_lit 114), (nat_lit 114), (nat_lit 111), (nat_lit 114)]))), (PySem.Value.str (PySem.Str.mk (Array.mk [(nat_lit 79), (nat_lit 118), (nat_lit 101), (nat_lit 114), (nat_lit 102), (nat_lit 108), (nat_lit 111), (nat_lit 119), (nat_lit 69), (nat_lit 114), (nat_lit 114), (nat_lit 111), (nat_lit 114)])) 108), (PySem.Value.type "OverflowError")⟩, ⟨(PySem.PyData.keyHash P (PySem.Str.mk (Array.mk [(nat_lit 90), (nat_lit 101), (nat_lit 114), (nat_lit 111), (nat_lit 68), (nat_lit 105), (nat_lit 118), (nat_lit 105), (nat_lit 115), (nat_lit 105), (nat_lit 111), (nat_lit 110), (nat_lit 69), (nat_lit 114), (nat_lit 114), (nat_lit 111), (nat_lit 114)]))), (PySem.Value.str (PySem.Str.mk (Array.mk [(nat_lit 90), (nat_lit 101), (nat_lit 114), (nat_lit 111), (nat_lit 68), (nat_lit 105), (nat_lit 118), (nat_lit 105), (nat_lit 115), (nat_lit 105), (nat_lit 111), (nat_lit 110), (nat_lit 69), (nat_lit 114), (nat_lit 114), (nat_lit 111), (nat_lit 114)])) 109), (PySem.Value.type "ZeroDivisionError")⟩, ⟨(PySem.PyData.keyHash P (PySem.Str.mk (Array.mk [(nat_lit 66), (nat_lit 121), (nat_lit 116), (nat_lit 101), (nat_lit 115), (nat_lit 87), (nat_lit 97), (nat_lit 114), (nat_lit 110), (nat_lit 105), (nat_lit 110), (nat_lit 103)]))), (PySem.Value.str (PySem.Str.mk (Array.mk [(nat_lit 66), (nat_lit 121), (nat_lit 116), (nat_lit 101), (nat_lit 115), (nat_lit 87), (nat_lit 97), (nat_lit 114), (nat_lit 110), (nat_lit 105), (nat_lit 110), (nat_lit 103)])) 110), (PySem.Value.type "BytesWarning")⟩, ⟨(PySem.PyData.keyHash P (PySem.Str.mk (Array.mk [(nat_lit 68), (nat_lit 101), (nat_lit 112), (nat_lit 114), (nat_lit 101), (nat_lit 99), (nat_lit 97), (nat_lit 116), (nat_lit 105), (nat_lit 111), (nat_lit 110), (nat_lit 87), (nat_lit 97), (nat_lit 114), (nat_lit 110), (nat_lit 105), (nat_lit 110), (nat_lit 103)]))), (PySem.Value.str (PySem.Str.mk (Array.mk [(nat_lit 68), (nat_lit 101), (nat_lit 112), (nat_lit 114), (nat_lit 101), (nat_lit 99), (nat_lit 97), (nat_lit 116), (nat_lit 105), (nat_lit 111), (nat_lit 110), (nat_lit 87), (nat_lit 97), (nat_lit 114), (nat_lit 110), (nat_lit 105), (nat_lit 110), (nat_lit 103)])) 111), (PySem.Value.type "DeprecationWarning")⟩, ⟨(PySem.PyData.keyHash P (PySem.Str.mk (Array.mk [(nat_lit 69), (nat_lit 110), (nat_lit 99), (nat_lit 111), (nat_lit 100), (nat_lit 105), (nat_lit 110), (nat_lit 103), (nat_lit 87), (nat_lit 97), (nat_lit 114), (nat_lit 110), (nat_lit 105), (nat_lit 110), (nat_lit 103)]))), (PySem.Value.str (PySem.Str.mk (Array.mk [(nat_lit 69), (nat_lit 110), (nat_lit 99), (nat_lit 111), (nat_lit 100), (nat_lit 105), (nat_lit 110), (nat_lit 103), (nat_lit 87), (nat_lit 97), (nat_lit 114), (nat_lit 110), (nat_lit 105), (nat_lit 110), (nat_lit 103)])) 112), (PySem.Value.type "EncodingWarning")⟩, ⟨(PySem.PyData.keyHash P (PySem.Str.mk (Array.mk [(nat_lit 70), (nat_lit 117), (nat_lit 116), (nat_lit 117), (nat_lit 114), (nat_lit 101), (nat_lit 87), (nat_lit 97), (nat_lit 114), (nat_lit 110), (nat_lit 105), (nat_lit 110), (nat_lit 103)]))), (PySem.Value.str (PySem.Str.mk (Array.mk [(nat_lit 70), (nat_lit 117), (nat_lit 116), (nat_lit 117), (nat_lit 114), (nat_lit 101), (nat_lit 87), (nat_lit 97), (nat_lit 114), (nat_lit 110), (nat_lit 105), (nat_lit 110), (nat_lit 103)])) 113), (PySem.Value.type "FutureWarning")⟩, ⟨(PySem.PyData.keyHash P (PySem.Str.mk (Array.mk [(nat_lit 73), (nat_lit 109), (nat_lit 112), (nat_lit 111), (nat_lit 114), (nat_lit 116), (nat_lit 87), (nat_lit 97), (nat_lit 114), (nat_lit 110), (nat_lit 105), (nat_lit 110), (nat_lit 103)]))), (PySem.Value.str (PySem.Str.mk (Array.mk [(nat_lit 73), (nat_lit 109), (nat_lit 112), (nat_lit 111), (nat_lit 114), (nat_lit 116), (nat_lit 87), (nat_lit 97), (nat_lit 114), (nat_lit 110), (nat_lit 105), (nat_lit 110), (nat_lit 103)])) 114), (PySem.Value.type "ImportWarning")⟩, ⟨(PySem.PyData.keyHash P (PySem.Str.mk (Array.mk [(nat_lit 80), (nat_lit 101), (nat_lit 110), (nat_lit 100), (nat_lit 105), (nat_lit 110), (nat_lit 103), (nat_lit 68), (nat_lit 101), (nat_lit 112), (nat_lit 114), (nat_lit 101), (nat_lit 99), (nat_lit 97), (nat_lit 116), (nat_lit 105), (nat_lit 111), (nat_lit 110), (nat_lit 87), (nat_lit 97), (nat_lit 114), (nat_lit 110), (nat_lit 105), (nat_lit 110), (nat_lit 103)]))), (PySem.Value.str (PySem.Str.mk (Array.mk [(nat_lit 80), (nat_lit 101), (nat_lit 110), (nat_lit 100), (nat_lit 105), (nat_lit 110), (nat_lit 103), (nat_lit 68), (nat_lit 101), (nat_lit 112), (nat_lit 114), (nat_lit 101), (nat_lit 99), (nat_lit 97), (nat_lit 116), (nat_lit 105), (nat_lit 111), (nat_lit 110), (nat_lit 87), (nat_lit 97), (nat_lit 114), (nat_lit 110), (nat_lit 105), (nat_lit 110), (nat_lit 103)])) 115), (PySem.Value.type "PendingDeprecationWarning")⟩, ⟨(PySem.PyData.keyHash P (PySem.Str.mk (Array.mk [(nat_lit 82), (nat_lit 101), (nat_lit 115), (nat_lit 111), (nat_lit 117), (nat_lit 114), (nat_lit 99), (nat_lit 101), (nat_lit 87), (nat_lit 97), (nat_lit 114), (nat_lit 110), (nat_lit 105), (nat_lit 110), (nat_lit 103)]))), (PySem.Value.str (PySem.Str.mk (Array.mk [(nat_lit 82), (nat_lit 101), (nat_lit 115), (nat_lit 111), (nat_lit 117), (nat_lit 114), (nat_lit 99), (nat_lit 101), (nat_lit 87), (nat_lit 97), (nat_lit 114), (nat_lit 110), (nat_lit 105), (nat_lit 110), (nat_lit 103)])) 116), (PySem.Value.type "ResourceWarning")⟩, ⟨(PySem.PyData.keyHash P (PySem.Str.mk (Array.mk [(nat_lit 82), (nat_lit 117), (nat_lit 110), (nat_lit 116), (nat_lit 105), (nat_lit 109), (nat_lit 101), (nat_lit 87), (nat_lit 97), (nat_lit 114), (nat_lit 110), (nat_lit 105), (nat_lit 110), (nat_lit 103)]))), (PySem.Value.str (PySem.Str.mk (Array.mk [(nat_lit 82), (nat_lit 117), (nat_lit 110), (nat_lit 116), (nat_lit 105), (nat_lit 109), (nat_lit 101), (nat_lit 87), (nat_lit 97), (nat_lit 114), (nat_lit 110), (nat_lit 105), (nat_lit 110), (nat_lit 103)])) 117), (PySem.Value.type "RuntimeWarning")⟩, ⟨(PySem.PyData.keyHash P (PySem.Str.mk (Array.mk [(nat_lit 83), (nat_lit 121), (nat_lit 110), (nat_lit 116), (nat_lit 97), (nat_lit 120), (nat_lit 87), (nat_lit 97), (nat_lit 114), (nat_lit 110), (nat_lit 105), (nat_lit 110), (nat_lit 103)]))), (PySem.Value.str (PySem.Str.mk (Array.mk [(nat_lit 83), (nat_lit 121), (nat_lit 110), (nat_lit 116), (nat_lit 97), (nat_lit 120), (nat_lit 87), (nat_lit 97), (nat_lit 114), (nat_lit 110), (nat_lit 105), (nat_lit 110), (nat_lit 103)])) 118), (PySem.Value.type "SyntaxWarning")⟩, ⟨(PySem.PyData.keyHash P (PySem.Str.mk (Array.mk [(nat_lit 85), (nat_lit 110), (nat_lit 105), (nat_lit 99), (nat_lit 111), (nat_lit 100), (nat_lit 101), (nat_lit 87), (nat_lit 97), (nat_lit 114), (nat_lit 110), (nat_lit 105), (nat_lit 110), (nat_lit 103)]))), (PySem.Value.str (PySem.Str.mk (Array.mk [(nat_lit 85), (nat_lit 110), (nat_lit 105), (nat_lit 99), (nat_lit 111), (nat_lit 100), (nat_lit 101), (nat_lit 87), (nat_lit 97), (nat_lit 114), (nat_lit 110), (nat_lit 105), (nat_lit 110), (nat_lit 103)])) 119), (PySem.Value.type "UnicodeWarning")⟩, ⟨(PySem.PyData.keyHash P (PySem.Str.mk (Array.mk [(nat_lit 85), (nat_lit 115), (nat_lit 101), (nat_lit 114), (nat_lit 87), (nat_lit 97), (nat_lit 114), (nat_lit 110), (nat_lit 105), (nat_lit 110), (nat_lit 103)]))), (PySem.Value.str (PySem.Str.mk (Array.mk [(nat_lit 85), (nat_lit 115), (nat_lit 101), (nat_lit 114), (nat_lit 87), (nat_lit 97), (nat_lit 114), (nat_lit 110), (nat_lit 105), (nat_lit 110), (nat_lit 103)])) 120), (PySem.Value.type "UserWarning")⟩, ⟨(PySem.PyData.keyHash P (PySem.Str.mk (Array.mk [(nat_lit 66), (nat_lit 108), (nat_lit 111), (nat_lit 99), (nat_lit 107), (nat_lit 105), (nat_lit 110), (nat_lit 103), (nat_lit 73), (nat_lit 79), (nat_lit 69), (nat_lit 114), (nat_lit 114), (nat_lit 111), (nat_lit 114)]))), (PySem.Value.str (PySem.Str.mk (Array.mk [(nat_lit 66), (nat_lit 108), (nat_lit 111), (nat_lit 99), (nat_lit 107), (nat_lit 105), (nat_lit 110), (nat_lit 103), (nat_lit 73), (nat_lit 79), (nat_lit 69), (nat_lit 114), (nat_lit 114), (nat_lit 111), (nat_lit 114)])) 121), (PySem.Value.type "BlockingIOError")⟩, ⟨(PySem.PyData.keyHash P (PySem.Str.mk (Array.mk [(nat_lit 67), (nat_lit 104), (nat_lit 105), (nat_lit 108), (nat_lit 100), (nat_lit 80), (nat_lit 114), (nat_lit 111), (nat_lit 99), (nat_lit 101), (nat_lit 115), (nat_lit 115), (nat_lit 69), (nat_lit 114), (nat_lit 114), (nat_lit 111), (nat_lit 114)]))), (PySem.Value.str (PySem.Str.mk (Array.mk [(nat_lit 67), (nat_lit 104), (nat_lit 105), (nat_lit 108), (nat_lit 100), (nat_lit 80), (nat_lit 114), (nat_lit 111), (nat_lit 99), (nat_lit 101), (nat_lit 115), (nat_lit 115), (nat_lit 69), (nat_lit 114), (nat_lit 114), (nat_lit 111), (nat_lit 114)])) 122), (PySem.Value.type "ChildProcessError")⟩, ⟨(PySem.PyData.keyHash P (PySem.Str.mk (Array.mk [(nat_lit 67), (nat_lit 111), (nat_lit 110), (nat_lit 110), (nat_lit 101), (nat_lit 99), (nat_lit 116), (nat_lit 105), (nat_lit 111), (nat_lit 110), (nat_lit 69), (nat_lit 114), (nat_lit 114), (nat_lit 111), (nat_lit 114)]))), (PySem.Value.str (PySem.Str.mk (Array.mk [(nat_lit 67), (nat_lit 111), (nat_lit 110), (nat_lit 110), (nat_lit 101), (nat_lit 99), (nat_lit 116), (nat_lit 105), (nat_lit 111), (nat_lit 110), (nat_lit 69), (nat_lit 114), (nat_lit 114), (nat_lit 111), (nat_lit 114)])) 123), (PySem.Value.type "ConnectionError")⟩, ⟨(PySem.PyData.keyHash P (PySem.Str.mk (Array.mk [(nat_lit 70), (nat_lit 105), (nat_lit 108), (nat_lit 101), (nat_lit 69), (nat_lit 120), (nat_lit 105), (nat_lit 115), (nat_lit 116), (nat_lit 115), (nat_lit 69), (nat_lit 114), (nat_lit 114), (nat_lit 111), (nat_lit 114)]))), (PySem.Value.str (PySem.Str.mk (Array.mk [(nat_lit 70), (nat_lit 105), (nat_lit 108), (nat_lit 101), (nat_lit 69), (nat_lit 120), (nat_lit 105), (nat_lit 115), (nat_lit 116), (nat_lit 115), (nat_lit 69), (nat_lit 114), (nat_lit 114), (nat_lit 111), (nat_lit 114)])) 124), (PySem.Value.type "FileExistsError")⟩, ⟨(PySem.PyData.keyHash P (PySem.Str.mk (Array.mk [(nat_lit 70), (nat_lit 105), (nat_lit 108), (nat_lit 101), (nat_lit 78), (nat_lit 111), (nat_lit 116), (nat_lit 70), (nat_lit 111), (nat_lit 117), (nat_lit 110), (nat_lit 100), (nat_lit 69), (nat_lit 114), (nat_lit 114), (nat_lit 111), (nat_lit 114)]))), (PySem.Value.str (PySem.Str.mk (Array.mk [(nat_lit 70), (nat_lit 105), (nat_lit 108), (nat_lit 101), (nat_lit 78), (nat_lit 111), (nat_lit 116), (nat_lit 70), (nat_lit 111), (nat_lit 117), (nat_lit 110), (nat_lit 100), (nat_lit 69), (nat_lit 114), (nat_lit 114), (nat_lit 111), (nat_lit 114)])) 125), (PySem.Value.type "FileNotFoundError")⟩, ⟨(PySem.PyData.keyHash P (PySem.Str.mk (Array.mk [(nat_lit 73), (nat_lit 110), (nat_lit 116), (nat_lit 101), (nat_lit 114), (nat_lit 114), (nat_lit 117), (nat_lit 112), (nat_lit 116), (nat_lit 101), (nat_lit 100), (nat_lit 69), (nat_lit 114), (nat_lit 114), (nat_lit 111), (nat_lit 114)]))), (PySem.Value.str (PySem.Str.mk (Array.mk [(nat_lit 73), (nat_lit 110), (nat_lit 116), (nat_lit 101), (nat_lit 114), (nat_lit 114), (nat_lit 117), (nat_lit 112), (nat_lit 116), (nat_lit 101), (nat_lit 100), (nat_lit 69), (nat_lit 114), (nat_lit 114), (nat_lit 111), (nat_lit 114)])) 126), (PySem.Value.type "InterruptedError")⟩, ⟨(PySem.PyData.keyHash P (PySem.Str.mk (Array.mk [(nat_lit 73), (nat_lit 115), (nat_lit 65), (nat_lit 68), (nat_lit 105), (nat_lit 114), (nat_lit 101), (nat_lit 99), (nat_lit 116), (nat_lit 111), (nat_lit 114), (nat_lit 121), (nat_lit 69), (nat_lit 114), (nat_lit 114), (nat_lit 111), (nat_lit 114)]))), (PySem.Value.str (PySem.Str.mk (Array.mk [(nat_lit 73), (nat_lit 115), (nat_lit 65), (nat_lit 68), (nat_lit 105), (nat_lit 114), (nat_lit 101), (nat_lit 99), (nat_lit 116), (nat_lit 111), (nat_lit 114), (nat_lit 121), (nat_lit 69), (nat_lit 114), (nat_lit 114), (nat_lit 111), (nat_lit 114)])) 127), (PySem.Value.type "IsADirectoryError")⟩, ⟨(PySem.PyData.keyHash P (PySem.Str.mk (Array.mk [(nat_lit 78), (nat_lit 111), (nat_lit 116), (nat_lit 65), (nat_lit 68), (nat_lit 105), (nat_lit 114), (nat_lit 101), (nat_lit 99), (nat_lit 116), (nat_lit 111), (nat_lit 114), (nat_lit 121), (nat_lit 69), (nat_lit 114), (nat_lit 114), (nat_lit 111), (nat_lit 114)]))), (PySem.Value.str (PySem.Str.mk (Array.mk [(nat_lit 78), (nat_lit 111), (nat_lit 116), (nat_lit 65), (nat_lit 68), (nat_lit 105), (nat_lit 114), (nat_lit 101), (nat_lit 99), (nat_lit 116), (nat_lit 111), (nat_lit 114), (nat_lit 121), (nat_lit 69), (nat_lit 114), (nat_lit 114), (nat_lit 111), (nat_lit 114)])) 128), (PySem.Value.type "NotADirectoryError")⟩, ⟨(PySem.PyData.keyHash P (PySem.Str.mk (Array.mk [(nat_lit 80), (nat_lit 101), (nat_lit 114), (nat_lit 109), (nat_lit 105), (nat_lit 115), (nat_lit 115), (nat_lit 105), (nat_lit 111), (nat_lit 110), (nat_lit 69), (nat_lit 114), (nat_lit 114), (nat_lit 111), (nat_lit 114)]))), (PySem.Value.str (PySem.Str.mk (Array.mk [(nat_lit 80), (nat_lit 101), (nat_lit 114), (nat_lit 109), (nat_lit 105), (nat_lit 115), (nat_lit 115), (nat_lit 105), (nat_lit 111), (nat_lit 110), (nat_lit 69), (nat_lit 114), (nat_lit 114), (nat_lit 111), (nat_lit 114)])) 129), (PySem.Value.type "PermissionError")⟩, ⟨(PySem.PyData.keyHash P (PySem.Str.mk (Array.mk [(nat_lit 80), (nat_lit 114), (nat_lit 111), (nat_lit 99), (nat_lit 101), (nat_lit 115), (nat_lit 115), (nat_lit 76), (nat_lit 111), (nat_lit 111), (nat_lit 107), (nat_lit 117), (nat_lit 112), (nat_lit 69), (nat_lit 114), (nat_lit 114), (nat_lit 111), (nat_lit 114)]))), (PySem.Value.str (PySem.Str.mk (Array.mk [(nat_lit 80), (nat_lit 114), (nat_lit 111), (nat_lit 99), (nat_lit 101), (nat_lit 115), (nat_lit 115), (nat_lit 76), (nat_lit 111), (nat_lit 111), (nat_lit 107), (nat_lit 117), (nat_lit 112), (nat_lit 69), (nat_lit 114), (nat_lit 114), (nat_lit 111), (nat_lit 114)])) 130), (PySem.Value.type "ProcessLookupError")⟩, ⟨(PySem.PyData.keyHash P (PySem.Str.mk (Array.mk [(nat_lit 84), (nat_lit 105), (nat_lit 109), (nat_lit 101), (nat_lit 111), (nat_lit 117), (nat_lit 116), (nat_lit 69), (nat_lit 114), (nat_lit 114), (nat_lit 111), (nat_lit 114)]))), (PySem.Value.str (PySem.Str.mk (Array.mk [(nat_lit 84), (nat_lit 105), (nat_lit 109), (nat_lit 101), (nat_lit 111), (nat_lit 117), (nat_lit 116), (nat_lit 69), (nat_lit 114), (nat_lit 114), (nat_lit 111), (nat_lit 114)])) 131), (PySem.Value.type "TimeoutError")⟩, ⟨(PySem.PyData.keyHash P (PySem.Str.mk (Array.mk [(nat_lit 73), (nat_lit 110), (nat_lit 100), (nat_lit 101), (nat_lit 110), (nat_lit 116), (nat_lit 97), (nat_lit 116), (nat_lit 105), (nat_lit 111), (nat_lit 110), (nat_lit 69), (nat_lit 114), (nat_lit 114), (nat_lit 111), (nat_lit 114)]))), (PySem.Value.str (PySem.Str.mk (Array.mk [(nat_lit 73), (nat_lit 110), (nat_lit 100), (nat_lit 101), (nat_lit 110), (nat_lit 116), (nat_lit 97), (nat_lit 116), (nat_lit 105), (nat_lit 111), (nat_lit 110), (nat_lit 69), (nat_lit 114), (nat_lit 114), (nat_lit 111), (nat_lit 114)])) 132), (PySem.Value.type "IndentationError")⟩, ⟨(PySem.PyData.keyHash P (PySem.Str.mk (Array.mk [(nat_lit 95), (nat_lit 73), (nat_lit 110), (nat_lit 99), (nat_lit 111), (nat_lit 109), (nat_lit 112), (nat_lit 108), (nat_lit 101), (nat_lit 116), (nat_lit 101), (nat_lit 73), (nat_lit 110), (nat_lit 112), (nat_lit 117), (nat_lit 116), (nat_lit 69), (nat_lit 114), (nat_lit 114), (nat_lit 111), (nat_lit 114)]))), (PySem.Value.str (PySem.Str.mk (Array.mk [(nat_lit 95), (nat_lit 73), (nat_lit 110), (nat_lit 99), (nat_lit 111), (nat_lit 109), (nat_lit 112), (nat_lit 108), (nat_lit 101), (nat_lit 116), (nat_lit 101), (nat_lit 73), (nat_lit 110), (nat_lit 112), (nat_lit 117), (nat_lit 116), (nat_lit 69), (nat_lit 114), (nat_lit 114), (nat_lit 111), (nat_lit 114)])) 133), (PySem.Value.type "_IncompleteInputError")⟩, ⟨(PySem.PyData.keyHash P (PySem.Str.mk (Array.mk [(nat_lit 73), (nat_lit 110), (nat_lit 100), (nat_lit 101), (nat_lit 120), (nat_lit 69), (nat_lit 114), (nat_lit 114), (nat_lit 111), (nat_lit 114)]))), (PySem.Value.str (PySem.Str.mk (Array.mk [(nat_lit 73), (nat_lit 110), (nat_lit 100), (nat_lit 101), (nat_lit 120), (nat_lit 69), (nat_lit 114), (nat_lit 114), (nat_lit 111), (nat_lit 114)])) 134), (PySem.Value.type "IndexError")⟩, ⟨(PySem.PyData.keyHash P (PySem.Str.mk (Array.mk [(nat_lit 75), (nat_lit 101), (nat_lit 121), (nat_lit 69), (nat_lit 114), (nat_lit 114), (nat_lit 111), (nat_lit 114)]))), (PySem.Value.str (PySem.Str.mk (Array.mk [(nat_lit 75), (nat_lit 101), (nat_lit 121), (nat_lit 69), (nat_lit 114), (nat_lit 114), (nat_lit 111), (nat_lit 114)])) 135), (PySem.Value.type "KeyError")⟩, ⟨(PySem.PyData.keyHash P (PySem.Str.mk (Array.mk [(nat_lit 77), (nat_lit 111), (nat_lit 100), (nat_lit 117), (nat_lit 108), (nat_lit 101), (nat_lit 78), (nat_lit 111), (nat_lit 116), (nat_lit 70), (nat_lit 111), (nat_lit 117), (nat_lit 110), (nat_lit 100), (nat_lit 69), (nat_lit 114), (nat_lit 114), (nat_lit 111), (nat_lit 114)]))), (PySem.Value.str (PySem.Str.mk (Array.mk [(nat_lit 77), (nat_lit 111), (nat_lit 100), (nat_lit 117), (nat_lit 108), (nat_lit 101), (nat_lit 78), (nat_lit 111), (nat_lit 116), (nat_lit 70), (nat_lit 111), (nat_lit 117), (nat_lit 110), (nat_lit 100), (nat_lit 69), (nat_lit 114), (nat_lit 114), (nat_lit 111), (nat_lit 114)])) 136), (PySem.Value.type "ModuleNotFoundError")⟩, ⟨(PySem.PyData.keyHash P (PySem.Str.mk (Array.mk [(nat_lit 78), (nat_lit 111), (nat_lit 116), (nat_lit 73), (nat_lit 109), (nat_lit 112), (nat_lit 108), (nat_lit 101), (nat_lit 109), (nat_lit 101), (nat_lit 110), (nat_lit 116), (nat_lit 101), (nat_lit 100), (nat_lit 69), (nat_lit 114), (nat_lit 114), (nat_lit 111), (nat_lit 114)]))), (PySem.Value.str (PySem.Str.mk (Array.mk [(nat_lit 78), (nat_lit 111), (nat_lit 116), (nat_lit 73), (nat_lit 109), (nat_lit 112), (nat_lit 108), (nat_lit 101), (nat_lit 109), (nat_lit 101), (nat_lit 110), (nat_lit 116), (nat_lit 101), (nat_lit 100), (nat_lit 69), (nat_lit 114), (nat_lit 114), (nat_lit 111), (nat_lit 114)])) 137), (PySem.Value.type "NotImplementedError")⟩, ⟨(PySem.PyData.keyHash P (PySem.Str.mk (Array.mk [(nat_lit 80), (nat_lit 121), (nat_lit 116), (nat_lit 104), (nat_lit 111), (nat_lit 110), (nat_lit 70), (nat_lit 105), (nat_lit 110), (nat_lit 97), (nat_lit 108), (nat_lit 105), (nat_lit 122), (nat_lit 97), (nat_lit 116), (nat_lit 105), (nat_lit 111), (nat_lit 110), (nat_lit 69), (nat_lit 114), (nat_lit 114), (nat_lit 111), (nat_lit 114)]))), (PySem.Value.str (PySem.Str.mk (Array.mk [(nat_lit 80), (nat_lit 121), (nat_lit 116), (nat_lit 104), (nat_lit 111), (nat_lit 110), (nat_lit 70), (nat_lit 105), (nat_lit 110), (nat_lit 97), (nat_lit 108), (nat_lit 105), (nat_lit 122), (nat_lit 97), (nat_lit 116), (nat_lit 105), (nat_lit 111), (nat_lit 110), (nat_lit 69), (nat_lit 114), (nat_lit 114), (nat_lit 111), (nat_lit 114)])) 138), (PySem.Value.type "PythonFinalizationError")⟩, ⟨(PySem.PyData.keyHash P (PySem.Str.mk (Array.mk [(nat_lit 82), (nat_lit 101), (nat_lit 99), (nat_lit 117), (nat_lit 114), (nat_lit 115), (nat_lit 105), (nat_lit 111), (nat_lit 110), (nat_lit 69), (nat_lit 114), (nat_lit 114), (nat_lit 111), (nat_lit 114)]))), (PySem.Value.str (PySem.Str.mk (Array.mk [(nat_lit 82), (nat_lit 101), (nat_lit 99), (nat_lit 117), (nat_lit 114), (nat_lit 115), (nat_lit 105), (nat_lit 111), (nat_lit 110), (nat_lit 69), (nat_lit 114), (nat_lit 114), (nat_lit 111), (nat_lit 114)])) 139), (PySem.Value.type "RecursionError")⟩, ⟨(PySem.PyData.keyHash P (PySem.Str.mk (Array.mk [(nat_lit 85), (nat_lit 110), (nat_lit 98), (nat_lit 111), (nat_lit 117), (nat_lit 110), (nat_lit 100), (nat_lit 76), (nat_lit 111), (nat_lit 99), (nat_lit 97), (nat_lit 108), (nat_lit 69), (nat_lit 114), (nat_lit 114), (nat_lit 111), (nat_lit 114)]))), (PySem.Value.str (PySem.Str.mk (Array.mk [(nat_lit 85), (nat_lit 110), (nat_lit 98), (nat_lit 111), (nat_lit 117), (nat_lit 110), (nat_lit 100), (nat_lit 76), (nat_lit 111), (nat_lit 99), (nat_lit 97), (nat_lit 108), (nat_lit 69), (nat_lit 114), (nat_lit 114), (nat_lit 111), (nat_lit 114)])) 140), (PySem.Value.type "UnboundLocalError")⟩, ⟨(PySem.PyData.keyHash P (PySem.Str.mk (Array.mk [(nat_lit 85), (nat_lit 110), (nat_lit 105), (nat_lit 99), (nat_lit 111), (nat_lit 100), (nat_lit 101), (nat_lit 69), (nat_lit 114), (nat_lit 114), (nat_lit 111), (nat_lit 114)]))), (PySem.Value.str (PySem.Str.mk (Array.mk [(nat_lit 85), (nat_lit 110), (nat_lit 105), (nat_lit 99), (nat_lit 111), (nat_lit 100), (nat_lit 101), (nat_lit 69), (nat_lit 114), (nat_lit 114), (nat_lit 111), (nat_lit 114)])) 141), (PySem.Value.type "UnicodeError")⟩, ⟨(PySem.PyData.keyHash P (PySem.Str.mk (Array.mk [(nat_lit 66), (nat_lit 114), (nat_lit 111), (nat_lit 107), (nat_lit 101), (nat_lit 110), (nat_lit 80), (nat_lit 105), (nat_lit 112), (nat_lit 101), (nat_lit 69), (nat_lit 114), (nat_lit 114), (nat_lit 111), (nat_lit 114)]))), (PySem.Value.str (PySem.Str.mk (Array.mk [(nat_lit 66), (nat_lit 114), (nat_lit 111), (nat_lit 107), (nat_lit 101), (nat_lit 110), (nat_lit 80), (nat_lit 105), (nat_lit 112), (nat_lit 101), (nat_lit 69), (nat_lit 114), (nat_lit 114), (nat_lit 111), (nat_lit 114)])) 142), (PySem.Value.type "BrokenPipeError")⟩, ⟨(PySem.PyData.keyHash P (PySem.Str.mk (Array.mk [(nat_lit 67), (nat_lit 111), (nat_lit 110), (nat_lit 110), (nat_lit 101), (nat_lit 99), (nat_lit 116), (nat_lit 105), (nat_lit 111), (nat_lit 110), (nat_lit 65), (nat_lit 98), (nat_lit 111), (nat_lit 114), (nat_lit 116), (nat_lit 101), (nat_lit 100), (nat_lit 69), (nat_lit 114), (nat_lit 114), (nat_lit 111), (nat_lit 114)]))), (PySem.Value.str (PySem.Str.mk (Array.mk [(nat_lit 67), (nat_lit 111), (nat_lit 110), (nat_lit 110), (nat_lit 101), (nat_lit 99), (nat_lit 116), (nat_lit 105), (nat_lit 111), (nat_lit 110), (nat_lit 65), (nat_lit 98), (nat_lit 111), (nat_lit 114), (nat_lit 116), (nat_lit 101), (nat_lit 100), (nat_lit 69), (nat_lit 114), (nat_lit 114), (nat_lit 111), (nat_lit 114)])) 143), (PySem.Value.type "ConnectionAbortedError")⟩, ⟨(PySem.PyData.keyHash P (PySem.Str.mk (Array.mk [(nat_lit 67), (nat_lit 111), (nat_lit 110), (nat_lit 110), (nat_lit 101), (nat_lit 99), (nat_lit 116), (nat_lit 105), (nat_lit 111), (nat_lit 110), (nat_lit 82), (nat_lit 101), (nat_lit 102), (nat_lit 117), (nat_lit 115), (nat_lit 101), (nat_lit 100), (nat_lit 69), (nat_lit 114), (nat_lit 114), (nat_lit 111), (nat_lit 114)]))), (PySem.Value.str (PySem.Str.mk (Array.mk [(nat_lit 67), (nat_lit 111), (nat_lit 110), (nat_lit 110), (nat_lit 101), (nat_lit 99), (nat_lit 116), (nat_lit 105), (nat_lit 111), (nat_lit 110), (nat_lit 82), (nat_lit 101), (nat_lit 102), (nat_lit 117), (nat_lit 115), (nat_lit 101), (nat_lit 100), (nat_lit 69), (nat_lit 114), (nat_lit 114), (nat_lit 111), (nat_lit 114)])) 144), (PySem.Value.type "ConnectionRefusedError")⟩, ⟨(PySem.PyData.keyHash P (PySem.Str.mk (Array.mk [(nat_lit 67), (nat_lit 111), (nat_lit 110), (nat_lit 110), (nat_lit 101), (nat_lit 99), (nat_lit 116), (nat_lit 105), (nat_lit 111), (nat_lit 110), (nat_lit 82), (nat_lit 101), (nat_lit 115), (nat_lit 101), (nat_lit 116), (nat_lit 69), (nat_lit 114), (nat_lit 114), (nat_lit 111), (nat_lit 114)]))), (PySem.Value.str (PySem.Str.mk (Array.mk [(nat_lit 67), (nat_lit 111), (nat_lit 110), (nat_lit 110), (nat_lit 101), (nat_lit 99), (nat_lit 116), (nat_lit 105), (nat_lit 111), (nat_lit 110), (nat_lit 82), (nat_lit 101), (nat_lit 115), (nat_lit 101), (nat_lit 116), (nat_lit 69), (nat_lit 114), (nat_lit 114), (nat_lit 111), (nat_lit 114)])) 145), (PySem.Value.type "ConnectionResetError")⟩, ⟨(PySem.PyData.keyHash P (PySem.Str.mk (Array.mk [(nat_lit 84), (nat_lit 97), (nat_lit 98), (nat_lit 69), (nat_lit 114), (nat_lit 114), (nat_lit 111), (nat_lit 114)]))), (PySem.Value.str (PySem.Str.mk (Array.mk [(nat_lit 84), (nat_lit 97), (nat_lit 98), (nat_lit 69), (nat_lit 114), (nat_lit 114), (nat_lit 111), (nat_lit 114)])) 146), (PySem.Value.type "TabError")⟩, ⟨(PySem.PyData.keyHash P (PySem.Str.mk (Array.mk [(nat_lit 85), (nat_lit 110), (nat_lit 105), (nat_lit 99), (nat_lit 111), (nat_lit 100), (nat_lit 101), (nat_lit 68), (nat_lit 101), (nat_lit 99), (nat_lit 111), (nat_lit 100), (nat_lit 101), (nat_lit 69), (nat_lit 114), (nat_lit 114), (nat_lit 111), (nat_lit 114)]))), (PySem.Value.str (PySem.Str.mk (Array.mk [(nat_lit 85), (nat_lit 110), (nat_lit 105), (nat_lit 99), (nat_lit 111), (nat_lit 100), (nat_lit 101), (nat_lit 68), (nat_lit 101), (nat_lit 99), (nat_lit 111), (nat_lit 100), (nat_lit 101), (nat_lit 69), (nat_lit 114), (nat_lit 114), (nat_lit 111), (nat_lit 114)])) 147), (PySem.Value.type "UnicodeDecodeError")⟩, ⟨(PySem.PyData.keyHash P (PySem.Str.mk (Array.mk [(nat_lit 85), (nat_lit 110), (nat_lit 105), (nat_lit 99), (nat_lit 111), (nat_lit 100), (nat_lit 101), (nat_lit 69), (nat_lit 110), (nat_lit 99), (nat_lit 111), (nat_lit 100), (nat_lit 101), (nat_lit 69), (nat_lit 114), (nat_lit 114), (nat_lit 111), (nat_lit 114)]))), (PySem.Value.str (PySem.Str.mk (Array.mk [(nat_lit 85), (nat_lit 110), (nat_lit 105), (nat_lit 99), (nat_lit 111), (nat_lit 100), (nat_lit 101), (nat_lit 69), (nat_lit 110), (nat_lit 99), (nat_lit 111), (nat_lit 100), (nat_lit 101), (nat_lit 69), (nat_lit 114), (nat_lit 114), (nat_lit 111), (nat_lit 114)])) 148), (PySem.Value.type "UnicodeEncodeError")⟩, ⟨(PySem.PyData.keyHash P (PySem.Str.mk (Array.mk [(nat_lit 85), (nat_lit 110), (nat_lit 105), (nat_lit 99), (nat_lit 111), (nat_lit 100), (nat_lit 101), (nat_lit 84), (nat_lit 114), (nat_lit 97), (nat_lit 110), (nat_lit 115), (nat_lit 108), (nat_lit 97), (nat_lit 116), (nat_lit 101), (nat_lit 69), (nat_lit 114), (nat_lit 114), (nat_lit 111), (nat_lit 114)]))), (PySem.Value.str (PySem.Str.mk (Array.mk [(nat_lit 85), (nat_lit 110), (nat_lit 105), (nat_lit 99), (nat_lit 111), (nat_lit 100), (nat_lit 101), (nat_lit 84), (nat_lit 114), (nat_lit 97), (nat_lit 110), (nat_lit 115), (nat_lit 108), (nat_lit 97), (nat_lit 116), (nat_lit 101), (nat_lit 69), (nat_lit 114), (nat_lit 114), (nat_lit 111), (nat_lit 114)])) 149), (PySem.Value.type "UnicodeTranslateError")⟩, ⟨(PySem.PyData.keyHash P (PySem.Str.mk (Array.mk [(nat_lit 69), (nat_lit 120), (nat_lit 99), (nat_lit 101), (nat_lit 112), (nat_lit 116), (nat_lit 105), (nat_lit 111), (nat_lit 110), (nat_lit 71), (nat_lit 114), (nat_lit 111), (nat_lit 117), (nat_lit 112)]))), (PySem.Value.str (PySem.Str.mk (Array.mk [(nat_lit 69), (nat_lit 120), (nat_lit 99), (nat_lit 101), (nat_lit 112), (nat_lit 116), (nat_lit 105), (nat_lit 111), (nat_lit 110), (nat_lit 71), (nat_lit 114), (nat_lit 111), (nat_lit 117), (nat_lit 112)])) 150), (PySem.Value.type "ExceptionGroup")⟩, ⟨(PySem.PyData.keyHash P (PySem.Str.mk (Array.mk [(nat_lit 69), (nat_lit 110), (nat_lit 118), (nat_lit 105), (nat_lit 114), (nat_lit 111), (nat_lit 110), (nat_lit 109), (nat_lit 101), (nat_lit 110), (nat_lit 116), (nat_lit 69), (nat_lit 114), (nat_lit 114), (nat_lit 111), (nat_lit 114)]))), (PySem.Value.str (PySem.Str.mk (Array.mk [(nat_lit 69), (nat_lit 110), (nat_lit 118), (nat_lit 105), (nat_lit 114), (nat_lit 111), (nat_lit 110), (nat_lit 109), (nat_lit 101), (nat_lit 110), (nat_lit 116), (nat_lit 69), (nat_lit 114), (nat_lit 114), (nat_lit 111), (nat_lit 114)])) 151), (PySem.Value.type "OSError")⟩, ⟨(PySem.PyData.keyHash P (PySem.Str.mk (Array.mk [(nat_lit 73), (nat_lit 79), (nat_lit 69), (nat_lit 114), (nat_lit 114), (nat_lit 111), (nat_lit 114)]))), (PySem.Value.str (PySem.Str.mk (Array.mk [(nat_lit 73), (nat_lit 79), (nat_lit 69), (nat_lit 114), (nat_lit 114), (nat_lit 111), (nat_lit 114)])) 152), (PySem.Value.type "OSError")⟩, ⟨(PySem.PyData.keyHash P (PySem.Str.mk (Array.mk [(nat_lit 111), (nat_lit 112), (nat_lit 101), (nat_lit 110)]))), (PySem.Value.str (PySem.Str.mk (Array.mk [(nat_lit 111), (nat_lit 112), (nat_lit 101), (nat_lit 110)])) 153), (PySem.Value.builtin "open")⟩, ⟨(PySem.PyData.keyHash P (PySem.Str.mk (Array.mk [(nat_lit 113), (nat_lit 117), (nat_lit 105), (nat_lit 116)]))), (PySem.Value.str (PySem.Str.mk (Array.mk [(nat_lit 113), (nat_lit 117), (nat_lit 105), (nat_lit 116)])) 154), (PySem.Value.builtin "builtins.quit#opaque")⟩, ⟨(PySem.PyData.keyHash P (PySem.Str.mk (Array.mk [(nat_lit 101), (nat_lit 120), (nat_lit 105), (nat_lit 116)]))), (PySem.Value.str (PySem.Str.mk (Array.mk [(nat_lit 101), (nat_lit 120), (nat_lit 105), (nat_lit 116)])) 155), (PySem.Value.builtin "builtins.exit#opaque")⟩, ⟨(PySem.PyData.keyHash P (PySem.Str.mk (Array.mk [(nat_lit 99), (nat_lit 111), (nat_lit 112), (nat_lit 121), (nat_lit 114), (nat_lit 105), (nat_lit 103), (nat_lit 104), (nat_lit 116)]))), (PySem.Value.str (PySem.Str.mk (Array.mk [(nat_lit 99), (nat_lit 111), (nat_lit 112), (nat_lit 121), (nat_lit 114), (nat_lit 105), (nat_lit 103), (nat_lit 104), (nat_lit 116)])) 156), (PySem.Value.builtin "builtins.copyright#opaque")⟩, ⟨(PySem.PyData.keyHash P (PySem.Str.mk (Array.mk [(nat_lit 99), (nat_lit 114), (nat_lit 101), (nat_lit 100), (nat_lit 105), (nat_lit 116), (nat_lit 115)]))), (PySem.Value.str (PySem.Str.mk (Array.mk [(nat_lit 99), (nat_lit 114), (nat_lit 101), (nat_lit 100), (nat_lit 105), (nat_lit 116), (nat_lit 115)])) 157), (PySem.Value.builtin "builtins.credits#opaque")⟩, ⟨(PySem.PyData.keyHash P (PySem.Str.mk (Array.mk [(nat_lit 108), (nat_lit 105), (nat_lit 99), (nat_lit 101), (nat_lit 110), (nat_lit 115), (nat_lit 101)]))), (PySem.Value.str (PySem.Str.mk (Array.mk [(nat_lit 108), (nat_lit 105), (nat_lit 99), (nat_lit 101), (nat_lit 110), (nat_lit 115), (nat_lit 101)])) 158), (PySem.Value.builtin "builtins.license#opaque")⟩, ⟨(PySem.PyData.keyHash P (PySem.Str.mk (Array.mk [(nat_lit 104), (nat_lit 101), (nat_lit 108), (nat_lit 112)]))), (PySem.Value.str (PySem.Str.mk (Array.mk [(nat_lit 104), (nat_lit 101), (nat_lit 108), (nat_lit 112)])) 159), (PySem.Value.builtin "builtins.help#opaque")⟩]) 159) (@List.toArray (@Option PySem.Value) []))
noncomputable def ob3n (P : Params) : Obj := (PySem.Obj.mk (PySem.Value.type "dict") none (PySem.Data.dict (Array.mk [⟨(PySem.PyData.keyHash P (PySem.Str.mk (Array.mk [(nat_lit 95), (nat_lit 95), (nat_lit 110), (nat_lit 97), (nat_lit 109), (nat_lit 101), (nat_lit 95), (nat_lit 95)]))), (PySem.Value.str (PySem.Str.mk (Array.mk [(nat_lit 95), (nat_lit 95), (nat_lit 110), (nat_lit 97), (nat_lit 109), (nat_lit 101), (nat_lit 95), (nat_lit 95)])) 165), (PySem.Value.str (PySem.Str.mk (Array.mk [(nat_lit 108), (nat_lit 97), (nat_lit 119), (nat_lit 95), (nat_lit 112), (nat_lit 98), (nat_lit 48), (nat_lit 52), (nat_lit 49), (nat_lit 54), (nat_lit 95), (nat_lit 48), (nat_lit 49)])) 433)⟩, ⟨(PySem.PyData.keyHash P (PySem.Str.mk (Array.mk [(nat_lit 95), (nat_lit 95), (nat_lit 100), (nat_lit 111), (nat_lit 99), (nat_lit 95), (nat_lit 95)]))), (PySem.Value.str (PySem.Str.mk (Array.mk [(nat_lit 95), (nat_lit 95), (nat_lit 100), (nat_lit 111), (nat_lit 99), (nat_lit 95), (nat_lit 95)])) 166), PySem.Value.none⟩, ⟨(PySem.PyData.keyHash P (PySem.Str.mk (Array.mk [(nat_lit 95), (nat_lit 95), (nat_lit 112), (nat_lit 97), (nat_lit 99), (nat_lit 107), (nat_lit 97), (nat_lit 103), (nat_lit 101), (nat_lit 95), (nat_lit 95)]))), (PySem.Value.str (PySem.Str.mk (Array.mk [(nat_lit 95), (nat_lit 95), (nat_lit 112), (nat_lit 97), (nat_lit 99), (nat_lit 107), (nat_lit 97), (nat_lit 103), (nat_lit 101), (nat_lit 95), (nat_lit 95)])) 167), PySem.Value.none⟩, ⟨(PySem.PyData.keyHash P (PySem.Str.mk (Array.mk [(nat_lit 95), (nat_lit 95), (nat_lit 108), (nat_lit 111), (nat_lit 97), (nat_lit 100), (nat_lit 101), (nat_lit 114), (nat_lit 95), (nat_lit 95)]))), (PySem.Value.str (PySem.Str.mk (Array.mk [(nat_lit 95), (nat_lit 95), (nat_lit 108), (nat_lit 111), (nat_lit 97), (nat_lit 100), (nat_lit 101), (nat_lit 114), (nat_lit 95), (nat_lit 95)])) 168), (PySem.Value.builtin "__main__.__loader__#opaque")⟩, ⟨(PySem.PyData.keyHash P (PySem.Str.mk (Array.mk [(nat_lit 95), (nat_lit 95), (nat_lit 115), (nat_lit 112), (nat_lit 101), (nat_lit 99), (nat_lit 95), (nat_lit 95)]))), (PySem.Value.str (PySem.Str.mk (Array.mk [(nat_lit 95), (nat_lit 95), (nat_lit 115), (nat_lit 112), (nat_lit 101), (nat_lit 99), (nat_lit 95), (nat_lit 95)])) 169), PySem.Value.none⟩, ⟨(PySem.PyData.keyHash P (PySem.Str.mk (Array.mk [(nat_lit 95), (nat_lit 95), (nat_lit 97), (nat_lit 110), (nat_lit 110), (nat_lit 111), (nat_lit 116), (nat_lit 97), (nat_lit 116), (nat_lit 105), (nat_lit 111), (nat_lit 110), (nat_lit 115), (nat_lit 95), (nat_lit 95)]))), (PySem.Value.str (PySem.Str.mk (Array.mk [(nat_lit 95), (nat_lit 95), (nat_lit 97), (nat_lit 110), (nat_lit 110), (nat_lit 111), (nat_lit 116), (nat_lit 97), (nat_lit 116), (nat_lit 105), (nat_lit 111), (nat_lit 110), (nat_lit 115), (nat_lit 95), (nat_lit 95)])) 170), (PySem.Value.ref 6)⟩, ⟨(PySem.PyData.keyHash P (PySem.Str.mk (Array.mk [(nat_lit 95), (nat_lit 95), (nat_lit 98), (nat_lit 117), (nat_lit 105), (nat_lit 108), (nat_lit 116), (nat_lit 105), (nat_lit 110), (nat_lit 115), (nat_lit 95), (nat_lit 95)]))), (PySem.Value.str (PySem.Str.mk (Array.mk [(nat_lit 95), (nat_lit 95), (nat_lit 98), (nat_lit 117), (nat_lit 105), (nat_lit 108), (nat_lit 116), (nat_lit 105), (nat_lit 110), (nat_lit 115), (nat_lit 95), (nat_lit 95)])) 171), (PySem.Value.ref 4)⟩, ⟨(PySem.PyData.keyHash P (PySem.Str.mk (Array.mk [(nat_lit 95), (nat_lit 95), (nat_lit 102), (nat_lit 105), (nat_lit 108), (nat_lit 101), (nat_lit 95), (nat_lit 95)]))), (PySem.Value.str (PySem.Str.mk (Array.mk [(nat_lit 95), (nat_lit 95), (nat_lit 102), (nat_lit 105), (nat_lit 108), (nat_lit 101), (nat_lit 95), (nat_lit 95)])) 173), (PySem.Value.str (PySem.Str.mk (Array.mk [(nat_lit 47), (nat_lit 99), (nat_lit 108), (nat_lit 97), (nat_lit 105), (nat_lit 109), (nat_lit 47), (nat_lit 99), (nat_lit 117), (nat_lit 116), (nat_lit 46), (nat_lit 112), (nat_lit 121)])) 172)⟩, ⟨(PySem.PyData.keyHash P (PySem.Str.mk (Array.mk [(nat_lit 95), (nat_lit 95), (nat_lit 99), (nat_lit 97), (nat_lit 99), (nat_lit 104), (nat_lit 101), (nat_lit 100), (nat_lit 95), (nat_lit 95)]))), (PySem.Value.str (PySem.Str.mk (Array.mk [(nat_lit 95), (nat_lit 95), (nat_lit 99), (nat_lit 97), (nat_lit 99), (nat_lit 104), (nat_lit 101), (nat_lit 100), (nat_lit 95), (nat_lit 95)])) 174), PySem.Value.none⟩, ⟨(PySem.PyData.keyHash P (PySem.Str.mk (Array.mk [(nat_lit 77), (nat_lit 105), (nat_lit 110), (nat_lit 116), (nat_lit 69), (nat_lit 114), (nat_lit 114), (nat_lit 111), (nat_lit 114)]))), (PySem.Value.str (PySem.Str.mk (Array.mk [(nat_lit 77), (nat_lit 105), (nat_lit 110), (nat_lit 116), (nat_lit 69), (nat_lit 114), (nat_lit 114), (nat_lit 111), (nat_lit 114)])) 226), (PySem.Value.ref 39)⟩, ⟨(PySem.PyData.keyHash P (PySem.Str.mk (Array.mk [(nat_lit 69), (nat_lit 110), (nat_lit 99), (nat_lit 111), (nat_lit 100), (nat_lit 101), (nat_lit 69), (nat_lit 114), (nat_lit 114), (nat_lit 111), (nat_lit 114)]))), (PySem.Value.str (PySem.Str.mk (Array.mk [(nat_lit 69), (nat_lit 110), (nat_lit 99), (nat_lit 111), (nat_lit 100), (nat_lit 101), (nat_lit 69), (nat_lit 114), (nat_lit 114), (nat_lit 111), (nat_lit 114)])) 242), (PySem.Value.ref 52)⟩, ⟨(PySem.PyData.keyHash P (PySem.Str.mk (Array.mk [(nat_lit 68), (nat_lit 101), (nat_lit 99), (nat_lit 111), (nat_lit 100), (nat_lit 101), (nat_lit 69), (nat_lit 114), (nat_lit 114), (nat_lit 111), (nat_lit 114)]))), (PySem.Value.str (PySem.Str.mk (Array.mk [(nat_lit 68), (nat_lit 101), (nat_lit 99), (nat_lit 111), (nat_lit 100), (nat_lit 101), (nat_lit 69), (nat_lit 114), (nat_lit 114), (nat_lit 111), (nat_lit 114)])) 258), (PySem.Value.ref 64)⟩, ⟨(PySem.PyData.keyHash P (PySem.Str.mk (Array.mk [(nat_lit 70), (nat_lit 83)]))), (PySem.Value.str (PySem.Str.mk (Array.mk [(nat_lit 70), (nat_lit 83)])) 262), (PySem.Value.int 100 261)⟩, ⟨(PySem.PyData.keyHash P (PySem.Str.mk (Array.mk [(nat_lit 71), (nat_lit 83)]))), (PySem.Value.str (PySem.Str.mk (Array.mk [(nat_lit 71), (nat_lit 83)])) 264), (PySem.Value.int 101 263)⟩, ⟨(PySem.PyData.keyHash P (PySem.Str.mk (Array.mk [(nat_lit 68), (nat_lit 65), (nat_lit 84), (nat_lit 65)]))), (PySem.Value.str (PySem.Str.mk (Array.mk [(nat_lit 68), (nat_lit 65), (nat_lit 84), (nat_lit 65)])) 266), (PySem.Value.int 102 265)⟩, ⟨(PySem.PyData.keyHash P (PySem.Str.mk (Array.mk [(nat_lit 82), (nat_lit 69), (nat_lit 80), (nat_lit 78), (nat_lit 69)]))), (PySem.Value.str (PySem.Str.mk (Array.mk [(nat_lit 82), (nat_lit 69), (nat_lit 80), (nat_lit 78), (nat_lit 69)])) 268), (PySem.Value.int 242 267)⟩, ⟨(PySem.PyData.keyHash P (PySem.Str.mk (Array.mk [(nat_lit 82), (nat_lit 69), (nat_lit 80)]))), (PySem.Value.str (PySem.Str.mk (Array.mk [(nat_lit 82), (nat_lit 69), (nat_lit 80)])) 270), (PySem.Value.int 243 269)⟩, ⟨(PySem.PyData.keyHash P (PySem.Str.mk (Array.mk [(nat_lit 76), (nat_lit 79), (nat_lit 67), (nat_lit 75)]))), (PySem.Value.str (PySem.Str.mk (Array.mk [(nat_lit 76), (nat_lit 79), (nat_lit 67), (nat_lit 75)])) 272), (PySem.Value.int 240 271)⟩, ⟨(PySem.PyData.keyHash P (PySem.Str.mk (Array.mk [(nat_lit 82), (nat_lit 69), (nat_lit 88)]))), (PySem.Value.str (PySem.Str.mk (Array.mk [(nat_lit 82), (nat_lit 69), (nat_lit 88)])) 274), (PySem.Value.int 64 273)⟩, ⟨(PySem.PyData.keyHash P (PySem.Str.mk (Array.mk [(nat_lit 114), (nat_lit 101), (nat_lit 120), (nat_lit 95), (nat_lit 111), (nat_lit 99), (nat_lit 116), (nat_lit 101), (nat_lit 116)]))), (PySem.Value.str (PySem.Str.mk (Array.mk [(nat_lit 114), (nat_lit 101), (nat_lit 120), (nat_lit 95), (nat_lit 111), (nat_lit 99), (nat_lit 116), (nat_lit 101), (nat_lit 116)])) 285), (PySem.Value.ref 73)⟩, ⟨(PySem.PyData.keyHash P (PySem.Str.mk (Array.mk [(nat_lit 114), (nat_lit 101), (nat_lit 120), (nat_lit 95), (nat_lit 98), (nat_lit 105), (nat_lit 116), (nat_lit 115)]))), (PySem.Value.str (PySem.Str.mk (Array.mk [(nat_lit 114), (nat_lit 101), (nat_lit 120), (nat_lit 95), (nat_lit 98), (nat_lit 105), (nat_lit 116), (nat_lit 115)])) 292), (PySem.Value.ref 80)⟩, ⟨(PySem.PyData.keyHash P (PySem.Str.mk (Array.mk [(nat_lit 105), (nat_lit 115), (nat_lit 95), (nat_lit 114), (nat_lit 101), (nat_lit 120)]))), (PySem.Value.str (PySem.Str.mk (Array.mk [(nat_lit 105), (nat_lit 115), (nat_lit 95), (nat_lit 114), (nat_lit 101), (nat_lit 120)])) 299), (PySem.Value.ref 87)⟩, ⟨(PySem.PyData.keyHash P (PySem.Str.mk (Array.mk [(nat_lit 115), (nat_lit 101), (nat_lit 103), (nat_lit 109), (nat_lit 101), (nat_lit 110), (nat_lit 116), (nat_lit 95), (nat_lit 111), (nat_lit 99), (nat_lit 116), (nat_lit 101), (nat_lit 116)]))), (PySem.Value.str (PySem.Str.mk (Array.mk [(nat_lit 115), (nat_lit 101), (nat_lit 103), (nat_lit 109), (nat_lit 101), (nat_lit 110), (nat_lit 116), (nat_lit 95), (nat_lit 111), (nat_lit 99), (nat_lit 116), (nat_lit 101), (nat_lit 116)])) 306), (PySem.Value.ref 94)⟩, ⟨(PySem.PyData.keyHash P (PySem.Str.mk (Array.mk [(nat_lit 115), (nat_lit 111), (nat_lit 114), (nat_lit 116), (nat_lit 95), (nat_lit 111), (nat_lit 102)]))), (PySem.Value.str (PySem.Str.mk (Array.mk [(nat_lit 115), (nat_lit 111), (nat_lit 114), (nat_lit 116), (nat_lit 95), (nat_lit 111), (nat_lit 102)])) 313), (PySem.Value.ref 101)⟩, ⟨(PySem.PyData.keyHash P (PySem.Str.mk (Array.mk [(nat_lit 80), (nat_lit 114), (nat_lit 101), (nat_lit 102), (nat_lit 105), (nat_lit 120), (nat_lit 101), (nat_lit 115)]))), (PySem.Value.str (PySem.Str.mk (Array.mk [(nat_lit 80), (nat_lit 114), (nat_lit 101), (nat_lit 102), (nat_lit 105), (nat_lit 120), (nat_lit 101), (nat_lit 115)])) 390), (PySem.Value.ref 154)⟩, ⟨(PySem.PyData.keyHash P (PySem.Str.mk (Array.mk [(nat_lit 119), (nat_lit 105), (nat_lit 116), (nat_lit 104), (nat_lit 95), (nat_lit 114), (nat_lit 101), (nat_lit 120)]))), (PySem.Value.str (PySem.Str.mk (Array.mk [(nat_lit 119), (nat_lit 105), (nat_lit 116), (nat_lit 104), (nat_lit 95), (nat_lit 114), (nat_lit 101), (nat_lit 120)])) 398), (PySem.Value.ref 165)⟩, ⟨(PySem.PyData.keyHash P (PySem.Str.mk (Array.mk [(nat_lit 119), (nat_lit 105), (nat_lit 116), (nat_lit 104), (nat_lit 95), (nat_lit 108), (nat_lit 101), (nat_lit 103), (nat_lit 97), (nat_lit 99), (nat_lit 121)]))), (PySem.Value.str (PySem.Str.mk (Array.mk [(nat_lit 119), (nat_lit 105), (nat_lit 116), (nat_lit 104), (nat_lit 95), (nat_lit 108), (nat_lit 101), (nat_lit 103), (nat_lit 97), (nat_lit 99), (nat_lit 121)])) 408), (PySem.Value.ref 172)⟩, ⟨(PySem.PyData.keyHash P (PySem.Str.mk (Array.mk [(nat_lit 114), (nat_lit 101), (nat_lit 97), (nat_lit 100), (nat_lit 95), (nat_lit 112), (nat_lit 114), (nat_lit 101), (nat_lit 102), (nat_lit 105), (nat_lit 120), (nat_lit 101), (nat_lit 115)]))), (PySem.Value.str (PySem.Str.mk (Array.mk [(nat_lit 114), (nat_lit 101), (nat_lit 97), (nat_lit 100), (nat_lit 95), (nat_lit 112), (nat_lit 114), (nat_lit 101), (nat_lit 102), (nat_lit 105), (nat_lit 120), (nat_lit 101), (nat_lit 115)])) 418), (PySem.Value.ref 179)⟩, ⟨(PySem.PyData.keyHash P (PySem.Str.mk (Array.mk [(nat_lit 114), (nat_lit 101), (nat_lit 112), (nat_lit 101), (nat_lit 97), (nat_lit 116), (nat_lit 95), (nat_lit 119), (nat_lit 111), (nat_lit 114), (nat_lit 100)]))), (PySem.Value.str (PySem.Str.mk (Array.mk [(nat_lit 114), (nat_lit 101), (nat_lit 112), (nat_lit 101), (nat_lit 97), (nat_lit 116), (nat_lit 95), (nat_lit 119), (nat_lit 111), (nat_lit 114), (nat_lit 100)])) 425), (PySem.Value.ref 186)⟩, ⟨(PySem.PyData.keyHash P (PySem.Str.mk (Array.mk [(nat_lit 114), (nat_lit 101), (nat_lit 112), (nat_lit 101), (nat_lit 97), (nat_lit 116), (nat_lit 95), (nat_lit 111), (nat_lit 99), (nat_lit 116), (nat_lit 101), (nat_lit 116)]))), (PySem.Value.str (PySem.Str.mk (Array.mk [(nat_lit 114), (nat_lit 101), (nat_lit 112), (nat_lit 101), (nat_lit 97), (nat_lit 116), (nat_lit 95), (nat_lit 111), (nat_lit 99), (nat_lit 116), (nat_lit 101), (nat_lit 116)])) 432), (PySem.Value.ref 193)⟩, ⟨(PySem.PyData.keyHash P (PySem.Str.mk (Array.mk [(nat_lit 95), (nat_lit 108), (nat_lit 97), (nat_lit 119), (nat_lit 95), (nat_lit 99), (nat_lit 101), (nat_lit 108), (nat_lit 108)]))), (PySem.Value.str (PySem.Str.mk (Array.mk [(nat_lit 95), (nat_lit 108), (nat_lit 97), (nat_lit 119), (nat_lit 95), (nat_lit 99), (nat_lit 101), (nat_lit 108), (nat_lit 108)])) 442), (PySem.Value.ref 200)⟩, ⟨(PySem.PyData.keyHash P (PySem.Str.mk (Array.mk [(nat_lit 95), (nat_lit 108), (nat_lit 97), (nat_lit 119), (nat_lit 95), (nat_lit 115), (nat_lit 111), (nat_lit 114), (nat_lit 116)]))), (PySem.Value.str (PySem.Str.mk (Array.mk [(nat_lit 95), (nat_lit 108), (nat_lit 97), (nat_lit 119), (nat_lit 95), (nat_lit 115), (nat_lit 111), (nat_lit 114), (nat_lit 116)])) 450), (PySem.Value.ref 207)⟩, ⟨(PySem.PyData.keyHash P (PySem.Str.mk (Array.mk [(nat_lit 95), (nat_lit 108), (nat_lit 97), (nat_lit 119), (nat_lit 95), (nat_lit 115), (nat_lit 116), (nat_lit 101), (nat_lit 112)]))), (PySem.Value.str (PySem.Str.mk (Array.mk [(nat_lit 95), (nat_lit 108), (nat_lit 97), (nat_lit 119), (nat_lit 95), (nat_lit 115), (nat_lit 116), (nat_lit 101), (nat_lit 112)])) 460), (PySem.Value.ref 214)⟩, ⟨(PySem.PyData.keyHash P (PySem.Str.mk (Array.mk [(nat_lit 95), (nat_lit 108), (nat_lit 97), (nat_lit 119), (nat_lit 95), (nat_lit 119), (nat_lit 97), (nat_lit 108), (nat_lit 107)]))), (PySem.Value.str (PySem.Str.mk (Array.mk [(nat_lit 95), (nat_lit 108), (nat_lit 97), (nat_lit 119), (nat_lit 95), (nat_lit 119), (nat_lit 97), (nat_lit 108), (nat_lit 107)])) 469), (PySem.Value.ref 221)⟩, ⟨(PySem.PyData.keyHash P (PySem.Str.mk (Array.mk [(nat_lit 95), (nat_lit 108), (nat_lit 97), (nat_lit 119), (nat_lit 95), (nat_lit 116), (nat_lit 111), (nat_lit 108), (nat_lit 100)]))), (PySem.Value.str (PySem.Str.mk (Array.mk [(nat_lit 95), (nat_lit 108), (nat_lit 97), (nat_lit 119), (nat_lit 95), (nat_lit 116), (nat_lit 111), (nat_lit 108), (nat_lit 100)])) 477), (PySem.Value.ref 228)⟩, ⟨(PySem.PyData.keyHash P (PySem.Str.mk (Array.mk [(nat_lit 95), (nat_lit 108), (nat_lit 97), (nat_lit 119), (nat_lit 95), (nat_lit 119), (nat_lit 114), (nat_lit 105), (nat_lit 116), (nat_lit 116), (nat_lit 101), (nat_lit 110)]))), (PySem.Value.str (PySem.Str.mk (Array.mk [(nat_lit 95), (nat_lit 108), (nat_lit 97), (nat_lit 119), (nat_lit 95), (nat_lit 119), (nat_lit 114), (nat_lit 105), (nat_lit 116), (nat_lit 116), (nat_lit 101), (nat_lit 110)])) 483), (PySem.Value.ref 233)⟩, ⟨(PySem.PyData.keyHash P (PySem.Str.mk (Array.mk [(nat_lit 95), (nat_lit 108), (nat_lit 97), (nat_lit 119), (nat_lit 95), (nat_lit 104), (nat_lit 101), (nat_lit 97), (nat_lit 114), (nat_lit 100)]))), (PySem.Value.str (PySem.Str.mk (Array.mk [(nat_lit 95), (nat_lit 108), (nat_lit 97), (nat_lit 119), (nat_lit 95), (nat_lit 104), (nat_lit 101), (nat_lit 97), (nat_lit 114), (nat_lit 100)])) 490), (PySem.Value.ref 240)⟩, ⟨(PySem.PyData.keyHash P (PySem.Str.mk (Array.mk [(nat_lit 95), (nat_lit 108), (nat_lit 97), (nat_lit 119), (nat_lit 95), (nat_lit 114), (nat_lit 111), (nat_lit 119)]))), (PySem.Value.str (PySem.Str.mk (Array.mk [(nat_lit 95), (nat_lit 108), (nat_lit 97), (nat_lit 119), (nat_lit 95), (nat_lit 114), (nat_lit 111), (nat_lit 119)])) 496), (PySem.Value.ref 245)⟩, ⟨(PySem.PyData.keyHash P (PySem.Str.mk (Array.mk [(nat_lit 95), (nat_lit 108), (nat_lit 97), (nat_lit 119), (nat_lit 95), (nat_lit 114), (nat_lit 111), (nat_lit 119), (nat_lit 95), (nat_lit 114), (nat_lit 105), (nat_lit 103), (nat_lit 104), (nat_lit 116)]))), (PySem.Value.str (PySem.Str.mk (Array.mk [(nat_lit 95), (nat_lit 108), (nat_lit 97), (nat_lit 119), (nat_lit 95), (nat_lit 114), (nat_lit 111), (nat_lit 119), (nat_lit 95), (nat_lit 114), (nat_lit 105), (nat_lit 103), (nat_lit 104), (nat_lit 116)])) 511), (PySem.Value.ref 252)⟩, ⟨(PySem.PyData.keyHash P (PySem.Str.mk (Array.mk [(nat_lit 95), (nat_lit 108), (nat_lit 97), (nat_lit 119), (nat_lit 95), (nat_lit 112), (nat_lit 97), (nat_lit 114), (nat_lit 116), (nat_lit 115)]))), (PySem.Value.str (PySem.Str.mk (Array.mk [(nat_lit 95), (nat_lit 108), (nat_lit 97), (nat_lit 119), (nat_lit 95), (nat_lit 112), (nat_lit 97), (nat_lit 114), (nat_lit 116), (nat_lit 115)])) 522), (PySem.Value.ref 259)⟩, ⟨(PySem.PyData.keyHash P (PySem.Str.mk (Array.mk [(nat_lit 95), (nat_lit 108), (nat_lit 97), (nat_lit 119), (nat_lit 95), (nat_lit 112), (nat_lit 97), (nat_lit 114), (nat_lit 116), (nat_lit 115), (nat_lit 95), (nat_lit 114), (nat_lit 105), (nat_lit 103), (nat_lit 104), (nat_lit 116)]))), (PySem.Value.str (PySem.Str.mk (Array.mk [(nat_lit 95), (nat_lit 108), (nat_lit 97), (nat_lit 119), (nat_lit 95), (nat_lit 112), (nat_lit 97), (nat_lit 114), (nat_lit 116), (nat_lit 115), (nat_lit 95), (nat_lit 114), (nat_lit 105), (nat_lit 103), (nat_lit 104), (nat_lit 116)])) 542), (PySem.Value.ref 266)⟩, ⟨(PySem.PyData.keyHash P (PySem.Str.mk (Array.mk [(nat_lit 95), (nat_lit 108), (nat_lit 97), (nat_lit 119), (nat_lit 95), (nat_lit 111), (nat_lit 99), (nat_lit 116), (nat_lit 101), (nat_lit 116), (nat_lit 95), (nat_lit 114), (nat_lit 105), (nat_lit 103), (nat_lit 104), (nat_lit 116)]))), (PySem.Value.str (PySem.Str.mk (Array.mk [(nat_lit 95), (nat_lit 108), (nat_lit 97), (nat_lit 119), (nat_lit 95), (nat_lit 111), (nat_lit 99), (nat_lit 116), (nat_lit 101), (nat_lit 116), (nat_lit 95), (nat_lit 114), (nat_lit 105), (nat_lit 103), (nat_lit 104), (nat_lit 116)])) 551), (PySem.Value.ref 273)⟩, ⟨(PySem.PyData.keyHash P (PySem.Str.mk (Array.mk [(nat_lit 108), (nat_lit 97), (nat_lit 119)]))), (PySem.Value.str (PySem.Str.mk (Array.mk [(nat_lit 108), (nat_lit 97), (nat_lit 119)])) 557), (PySem.Value.ref 278)⟩]) 43) (@List.toArray (@Option PySem.Value) []))
theorem ob0n_is (P : Params) : ob0 P = ob0n P := by kernel_rfl
theorem ob3n_is (P : Params) : ob3 P = ob3n P := by kernel_rfl
/-- what making an exception reads of the written part -/
noncomputable def K3 (P : Params) : Frag := [(nat_lit 0, ob0n P), (nat_lit 1, ob1 P), (nat_lit 2, ob2 P), (nat_lit 3, ob3n P), (nat_lit 4, ob4 P), (nat_lit 5, ob5 P), (nat_lit 22, ob22 P), (nat_lit 28, ob28 P), (nat_lit 29, ob29 P), (nat_lit 38, ob38 P), (nat_lit 39, ob39 P), (nat_lit 51, ob51 P), (nat_lit 52, ob52 P), (nat_lit 63, ob63 P), (nat_lit 64, ob64 P)]
theorem K3_in {w : World} {h : Heap} (X : (K2 w.params).In h) : (K3 w.params).In h := in_of_all ⟨(X (nat_lit 0) _ rfl).trans (congrArg some (ob0n_is _)), X (nat_lit 1) _ rfl, X (nat_lit 2) _ rfl, (X (nat_lit 3) _ rfl).trans (congrArg some (ob3n_is _)), X (nat_lit 4) _ rfl, X (nat_lit 5) _ rfl, X (nat_lit 22) _ rfl, X (nat_lit 28) _ rfl, X (nat_lit 29) _ rfl, X (nat_lit 38) _ rfl, X (nat_lit 39) _ rfl, X (nat_lit 51) _ rfl, X (nat_lit 52) _ rfl, X (nat_lit 63) _ rfl, X (nat_lit 64) _ rfl, trivial⟩
theorem unhook3 {P : Prop} (h : PySem.Challenge.rw_pb0416_01 = PySem.Challenge.rw_pb0416_01 → K3 = K3 → P) : P := h rfl rfl
local macro_rules | `(tactic| x_close) => `(tactic| exact ⟨_, _, _, rfl, rfl, exc_of (by assumption) 3 rfl rfl rfl⟩)
noncomputable abbrev ExcQ (s : Shared) (C : Addr) (v : Value) (s' : Shared) : Prop := ∃ e h' tk, v = .ref e ∧ s' = { s with heap := h', toks := tk } ∧ ExcMade s.heap h' e C
theorem x_exc52 {prog : Program} {w : World} {s : Shared} {x : Str} {t : Tok} (X : (K3 w.params).In s.heap) :
   wpAny (model prog w) XA (call (.ref 52) [.str x t]) (ExcQ s 52) (fun _ _ => False) s := by
  refine unhook3 ?_
  k_fill
  intro _ _
  x_run
theorem x_exc64 {prog : Program} {w : World} {s : Shared} {x : Str} {t : Tok} (X : (K3 w.params).In s.heap) :
   wpAny (model prog w) XA (call (.ref 64) [.str x t]) (ExcQ s 64) (fun _ _ => False) s := by
  refine unhook3 ?_
  k_fill
  intro _ _
  x_run

/-- the two own classes -/
noncomputable def Own (C : Addr) : Prop := C = 52 ∨ C = 64
theorem x_exc {w : World} {s : Shared} {C : Addr} {x : Str} {t : Tok} {A : Around} {Q E : Value → Shared → Prop} (hC : Own C) (X : (K2 w.params).In s.heap)
    (hh : A.handled = none) (hd : A.depth ≤ 950) (hu : A.units ≤ 9500) (h : ∀ e h' tk, ExcMade s.heap h' e C → Q (.ref e) { s with heap := h', toks := tk }) :
    wpAny (model PP w) A (call (.ref C) [.str x t]) Q E s := by
  refine wpAny_of_XA (wpAny_mono (Q := ExcQ s C) (E := fun _ _ => False) ?_ ?_ fun _ _ x => x.elim) hh hd hu
  · rcases hC with rfl | rfl
    · exact x_exc52 (K3_in X)
    · exact x_exc64 (K3_in X)
  · rintro v s' ⟨e, h', tk, rfl, rfl, hm⟩
    exact h e h' tk hm

/-- what «raise» wants of the value -/
noncomputable def RaisableO (w : World) (E : Value → Shared → Prop) (v : Value) (s₁ : Shared) : Prop :=
  ∃ a ob t C, (K2 w.params).In s₁.heap ∧ Own C ∧ v = .ref a ∧ s₁.heap.get? a = some ob ∧ ob.cls = .ref C ∧ ob.data = .fields #[.ref t, .none, .none, .none, .bool false, .none] ∧ E (.ref a) s₁

theorem own_obj {w : World} {h : Heap} {C : Addr} (hC : Own C) (X : (K2 w.params).In h) :
    ∃ nm q N bs hdct sn sub ab col dd k0 k1 k2 k3 k5 newId, h.get? C = some (excClassObj nm q C N bs [.ref 39, .type "Exception", .type "BaseException", .type "object"] hdct sn sub ab col dd k0 k1 k2 k3 k5 newId) := by
  rcases hC with rfl | rfl
  · exact ⟨_, _, _, _, _, _, _, _, _, _, _, _, _, _, _, _, X 52 _ rfl⟩
  · exact ⟨_, _, _, _, _, _, _, _, _, _, _, _, _, _, _, _, X 64 _ rfl⟩

theorem Raise_own {w : World} {A : Around} {E : Value → Shared → Prop} {s : Shared} {env : Env} {e : PySem.Expr} {pos : Pos} {Q : Flow → Shared → Prop} (hh : A.handled = none)
    (h : wpAny (model PP w) A (eval e env) (RaisableO w E) E s) : wpAny (model PP w) A (exec (.Raise (some e) none pos) env) Q E s := by
  show wpAny _ A (do standAt pos; raiseStmt env (some (do let v ← eval e env; standAt pos; pure v)) none) Q E s
  refine wpAny_bind (wpAny_standAt ?_)
  unfold raiseStmt
  dsimp only
  refine wpAny_bind (wpAny_bind (wpAny_mono h (fun v s₁ h₁ => wpAny_bind (wpAny_standAt (wpAny_pure ?_))) fun _ _ x => x))
  obtain ⟨a, ob, t, C, X, hO, rfl, ha, hcls, hd, hE⟩ := h₁
  obtain ⟨nm, q, N, bs, hdct, sn, sub, ab, col, dd, k0, k1, k2, k3, k5, newId, hC⟩ := own_obj hO X
  obtain ⟨hp, g, d, tk, os⟩ := s₁
  obtain ⟨oc, od, odt, osl⟩ := ob
  dsimp only at hcls hd
  subst hcls hd
  have hcB : (Value.ref C :: [.ref 39, .type "Exception", .type "BaseException", .type "object"]).contains (.type "BaseException") = true := by
    rcases hO with rfl | rfl <;> decide
  dsimp only at ha hC
  refine wpAny_bind (wpAny_pure ?_)
  repeat (first | with_reducible refine wpAny_loadPart_at ha ?_ | with_reducible refine wpAny_loadPart_at hC ?_ | (with_reducible refine wpAny_isSubtype_exc hC ?_; rw [hcB]) | wp_step)
  exact wpAny_raiseNew_none hh hE
end Mine
end
local macro_rules | `(tactic| walk_at $k:str) => `(tactic| k_extra $k:str)
local macro_rules | `(tactic| k_all) => `(tactic| k_extra "k_all")
local macro_rules | `(tactic| k_ne) => `(tactic| k_extra "k_ne")
section
open PySem PySem.W PyProof.Rows PySem.W.X
namespace Mine

noncomputable abbrev frs (l : List Env) : List Addr := l.filterMap (·.frame)
theorem frs_mem {env : Env} {l : List Env} {b : Addr} (he : env ∈ l) (hf : env.frame = some b) : b ∈ frs l := List.mem_filterMap.mpr ⟨env, he, hf⟩
theorem frs_cons {env : Env} {l : List Env} {L b : Addr} (hf : env.frame = some L) (hb : b ∈ frs (env :: l)) : b = L ∨ b ∈ frs l := by
  obtain ⟨x, hx, hfx⟩ := List.mem_filterMap.mp hb
  cases List.mem_cons.mp hx with
  | inl q => subst q; exact .inl (Option.some.inj (hfx.symm.trans hf))
  | inr q => exact .inr (frs_mem q hfx)
/-- Below behind one more frame -/
theorem below_in {A : Around} {base g h : Heap} {outer : List Env} {env : Env} {L : Addr} {m : Str → Option Value} (K : Below A base outer g) (F : Fr g L h m) (hk : env.scope.kind = .function) (hf : env.frame = some L) :
    Below (A.deeper env) base (env :: outer) h := by
  refine ⟨Around.frames_deeper K.stack, fun b o e => F.keep b o (K.stays b o e), ?_⟩
  refine .cons (by rw [hk]; decide) hf F.ns ?_ (K.frames.of_keeps fun b o e _ => ⟨o, F.keep b o e, rfl⟩)
  cases q : base.get? L with
  | none => rfl
  | some o => exact absurd (Nat.lt_of_lt_of_le (Heap.lt_size (K.stays L o q)) F.above) (Nat.lt_irrefl _)
theorem fr_fresh {g h : Heap} {L : Addr} {m : Str → Option Value} (F : Fr g L h m) : g.get? L = none := by
  cases q : g.get? L with
  | none => rfl
  | some o => exact absurd (Nat.lt_of_lt_of_le (Heap.lt_size q) F.above) (Nat.lt_irrefl _)
theorem keep_none {g h : Heap} (k : ∀ b o, g.get? b = some o → h.get? b = some o) {b : Addr} (e : h.get? b = none) : g.get? b = none := by
  cases q : g.get? b with
  | none => rfl
  | some o => rw [k b o q] at e; cases e

section
variable {M : Model} {A : Around} {E : Value → Shared → Prop} {s' : Shared} {base g g₂ h : Heap} {outer : List Env} {L a e : Addr} {m : Str → Option Value} {name : Str} {scope : Scope} {cd : Value} {cl : List (Str × Addr)} {Q : Unit → Shared → Prop} {news : List (Addr × Obj)} {C : Addr}

theorem leave_own (K : Below A base outer g) (hx : ExcMade h s'.heap e C) (F : Fr g L h m) (N : News g L h news)
    (hQ : ∀ h', RaisedSN base g outer e (.ref C) news h' → g.UpToSlots h' → Q () { s' with heap := h' }) (hk : scope.kind = .function := by rfl) :
    wpAny M (A.deeper (envOf name scope L a cd)) (leaving (envOf name scope L a cd) (.ref e)) Q E s' := by
  have K' : Below (A.deeper (envOf name scope L a cd)) base (envOf name scope L a cd :: outer) h := below_in K F hk rfl
  let fs := frs (envOf name scope L a cd :: outer)
  have away : ∀ b, base.get? b ≠ none → b ∉ fs := fun b q hm => q (K'.frames.mem hm).1
  have stB : base.StaysIn (hideAll h fs) := fun b o q => hideAll_get _ (K'.stays b o q) (away b (by rw [q]; exact fun z => nomatch z))
  have stG : ∀ b o, g.get? b = some o → b ∉ frs outer → (hideAll h fs).get? b = some o := fun b o q hb => hideAll_get _ (F.keep b o q) fun hm =>
    (frs_cons (L := L) rfl hm).elim (fun z => by rw [z, fr_fresh F] at q; cases q) hb
  have lg : ∀ q ∈ news, (hideAll h fs).get? q.1 = some q.2 ∧ g.get? q.1 = none ∧ base.get? q.1 = none := fun q hq => by
    refine ⟨hideAll_get _ (N q hq).1 fun hm => ?_, (N q hq).2.2, keep_none K.stays (N q hq).2.2⟩
    rcases frs_cons (L := L) rfl hm with z | z
    · exact (N q hq).2.1 z
    · obtain ⟨_, o, ho, _⟩ := K.frames.mem z
      rw [(N q hq).2.2] at ho; cases ho
  obtain ⟨ob, tp, he, hcls, hd⟩ := hx.there
  have hen : (hideAll h fs).get? e = none := keep_none (fun b o => of_hideAll fs) hx.new
  have fr' : s'.heap.FunFrames (hideAll h fs) (envOf name scope L a cd :: outer) :=
    (funFrames_hide K'.frames fun env he b hb => frs_mem he hb).of_keeps fun b o hb _ => ⟨o, hx.keeps b o hb, rfl⟩
  refine wpAny_leaving_firstW (a0 := .ref tp) K'.stack fr' rfl he (fun b o hb => hx.keeps b o (of_hideAll _ hb)) hen hd rfl rfl fun h' hL => ?_
  obtain ⟨k1, ⟨_, _, k2⟩, k3, k4⟩ := hL
  exact hQ h' ⟨_, .ref tp, stB, stG, lg, k1, hen, k2, by rw [← hcls]; exact k3⟩ (((Heap.UpToSlots.of_keeps F.keep).trans (Heap.UpToSlots.of_keeps hx.keeps)).trans k4)

/-- an exception in flight leaves a frame that may have cells -/
theorem leave_on (K : Below A base outer g) (F : Fr g L g₂ m) (R : RaisedSN base g₂ (envX name scope L a cd cl :: outer) e (.ref C) news s'.heap) (hsm : g₂.UpToSlots s'.heap)
    (hQ : ∀ h', RaisedSN base g outer e (.ref C) news h' → g.UpToSlots h' → Q () { s' with heap := h' }) :
    wpAny M (A.deeper (envX name scope L a cd cl)) (leaving (envX name scope L a cd cl) (.ref e)) Q E s' := by
  obtain ⟨B, a0, hB, hBG, hl, hfl⟩ := R
  refine wpAny_leaves_onW (Around.frames_deeper K.stack) rfl hfl fun h' x1 x2 => hQ h' ⟨B, a0, hB, fun b o q hb => hBG b o (F.keep b o q) fun hm => ?_, fun q hq => ⟨(hl q hq).1, keep_none F.keep (hl q hq).2.1, (hl q hq).2.2⟩, x1⟩
    ((Heap.UpToSlots.of_keeps F.keep).trans (hsm.trans x2))
  rcases frs_cons (L := L) rfl hm with z | z
  · rw [z, fr_fresh F] at q; cases q
  · exact hb z
end
end Mine
end
section
open PySem PySem.W PyProof.Rows PySem.W.X
namespace Mine

/-- keeps the machine from running the program at a lemma's use -/
@[irreducible] def Cut (P : Prop) : Prop := P
theorem Cut.go {P : Prop} (h : P) : Cut P := by unfold Cut; exact h
theorem Cut.un {P : Prop} (h : Cut P) : P := by unfold Cut at h; exact h
theorem wpAny_lower {α : Type} {M : Model} {hd : Option Value} {dp un dp' un' : Nat} {fr : Option (List Env)} {gd : Option (List Code)} {t : Sem α} {Q : α → Shared → Prop} {E : Value → Shared → Prop} {s : Shared}
    (h : wpAny M ⟨hd, dp, fr, gd, un⟩ t Q E s) (d : dp' ≤ dp) (u : un' ≤ un) : wpAny M ⟨hd, dp', fr, gd, un'⟩ t Q E s := fun Γ p hΓ =>
  h Γ p ⟨hΓ.1, Nat.le_trans hΓ.2.1 d, hΓ.2.2.1, hΓ.2.2.2.1, Nat.le_trans hΓ.2.2.2.2 u⟩

/-- what the returning arm of a contract gives its caller -/
noncomputable abbrev RetP (h₀ : Heap) (L : Addr) (m : Str → Option Value) (news : List (Addr × Obj)) (s : Shared) (Q : Value → Shared → Prop) (Ret : Value → List (Addr × Obj) → Prop) : Prop :=
  ∀ v tl h' tk', Fr h₀ L h' m → News h₀ L h' (tl ++ news) → Ret v tl → Q v { s with heap := h', toks := tk' }
/-- the raising arm -/
noncomputable abbrev ExcP (base h₀ : Heap) (L : Addr) (m : Str → Option Value) (env : Env) (outer : List Env) (news : List (Addr × Obj)) (s : Shared) (E : Value → Shared → Prop) (Exc : Addr → Prop) : Prop :=
  ∀ C e h' tk' g₂, Exc C → Fr h₀ L g₂ m → RaisedSN base g₂ (env :: outer) e (.ref C) news h' → g₂.UpToSlots h' → E (.ref e) { s with heap := h', toks := tk' }
/-- a contract of a def that catches nothing itself -/
noncomputable abbrev CP (w : World) (mean : ExcName → Option Value) (mg mb : Str → Option Value) (dp un : Nat) (f : Addr) (vs : List Value) (news : List (Addr × Obj)) (Ret : Value → List (Addr × Obj) → Prop) (Exc : Addr → Prop) : Prop :=
  ∀ (gd : Option (List Code)) (cn : Str) (cs : Scope) (a : Addr) (ccd : Value) (cl : List (Str × Addr)) (outer : List Env) (A₀ : Around) (base h₀ : Heap) (L : Addr) (m : Str → Option Value) (s : Shared) (Q E : Value → Shared → Prop),
    Below A₀ base outer h₀ → Fr h₀ L s.heap m → (K2 w.params).In h₀ → News h₀ L s.heap news → Top VV LL mean mg mb h₀ → cs.kind = .function →
    RetP h₀ L m news s Q Ret → ExcP base h₀ L m (envX cn cs L a ccd cl) outer news s E Exc →
    wpAny (model PP w) (ktrTop dp un gd cn cs L a ccd cl outer) (call (.ref f) vs) Q E s
theorem CP.lower {w : World} {mean : ExcName → Option Value} {mg mb : Str → Option Value} {dp un dp' un' : Nat} {f : Addr} {vs : List Value} {news : List (Addr × Obj)} {Ret : Value → List (Addr × Obj) → Prop} {Exc : Addr → Prop}
    (h : CP w mean mg mb dp un f vs news Ret Exc) (d : dp' ≤ dp) (u : un' ≤ un) : CP w mean mg mb dp' un' f vs news Ret Exc :=
  fun gd cn cs a ccd cl outer A₀ base h₀ L m s Q E h1 h2 h3 h4 h5 h6 h7 h8 => wpAny_lower (h gd cn cs a ccd cl outer A₀ base h₀ L m s Q E h1 h2 h3 h4 h5 h6 h7 h8) d u

theorem News.tl1 {h₀ h : Heap} {L : Addr} {x : Addr × Obj} {news : List (Addr × Obj)} (N : News h₀ L h (x :: news)) : News h₀ L h news := fun p hp => N p (.tail _ hp)
noncomputable abbrev NoExc (_ : Addr) : Prop := False
theorem raise_call {w : World} {s : Shared} {C : Addr} {x : Str} {t : Tok} {A : Around} {E : Value → Shared → Prop} (hC : Own C) (X : (K2 w.params).In s.heap)
    (hh : A.handled = none) (hd : A.depth ≤ 950) (hu : A.units ≤ 9500) (h : ∀ e h' tk, ExcMade s.heap h' e C → E (.ref e) { s with heap := h', toks := tk }) :
    wpAny (model PP w) A (call (.ref C) [.str x t]) (RaisableO w E) E s := by
  refine x_exc hC X hh hd hu fun e h' tk hm => ?_
  obtain ⟨ob, tt, h1, h2, h3⟩ := hm.there
  exact ⟨e, ob, tt, C, X.keeps hm.keeps, hC, rfl, h1, h2, h3, h e h' tk hm⟩
end Mine
end
section
open PySem PySem.W PyProof.Rows PySem.W.X
namespace Mine
/-- how a turn of a for ends: a new ground, map and ledger, the iterator untouched -/
noncomputable def ForEnd (L : Addr) (s : Shared) (J : Nat → Heap → (Str → Option Value) → List (Addr × Obj) → Prop) (I : Addr) (iob : Obj) (Q : Flow → Shared → Prop) (i : Nat) (f : Flow) (s₂ : Shared) : Prop :=
  match f with
  | .ret v => Q (.ret v) s₂
  | .brk => Q .next s₂
  | _ => ∃ g m news h tk, s₂ = { s with heap := h, toks := tk } ∧ Fr g L h m ∧ News g L h ((I, iob) :: news) ∧ J i g m news
section
variable {prog : Program} {w : World} {A : Around} {E : Value → Shared → Prop} {s : Shared} {env : Env} {Q : Flow → Shared → Prop}
theorem for_tuple {x : Str} {px : Pos} {body : List Stmt} {ax : Addr} {lob : Obj} {items : Array Value} {g₀ : Heap} {m₀ : Str → Option Value} {news₀ : List (Addr × Obj)}
    (hh : A.handled = none) (J : Nat → Heap → (Str → Option Value) → List (Addr × Obj) → Prop) (hc : lob.cls = .type "tuple") (hd : ∃ n, lob.data = .seq items n)
    (hJ : ∀ i g m news, J i g m news → (ax, lob) ∈ news ∧ ∀ p ∈ news, p.1 ≠ s.heap.objs.size) (F : Fr g₀ env.locals s.heap m₀) (N : News g₀ env.locals s.heap news₀) (h0 : J 0 g₀ m₀ news₀)
    (turn : ∀ i v g m news h tk I iob, items[i]? = some v → J i g m news → Fr g env.locals h m → News g env.locals h ((I, iob) :: news) →
      wpAny (model prog w) A (storeName env x v) (fun _ s₂ => wpAny (model prog w) A (execs body env) (ForEnd env.locals s J I iob Q (i + 1)) E s₂) E { s with heap := h, toks := tk })
    (done : ∀ g m news h tk, J items.size g m news → Fr g env.locals h m → News g env.locals h news → Q .next { s with heap := h, toks := tk })
    (hE : PassesOwn (model prog w) A env E := by passes_own) :
    wpAny (model prog w) A (pyIter (.ref ax)) (fun it s₂ => codeAny (model prog w) A (.forLoop (.Name x px) it body [] env) (fun r s' => match r with | .ok f => Q f s' | .error e => cameBackBy (model prog w) A env E e s') s₂) E s := by
  have isl : ∀ {h : Heap}, h.get? ax = some lob → h.IsTuple ax items := fun e => ⟨lob, e, hc, hd⟩
  have hax := (N _ (hJ _ _ _ _ h0).1).1
  refine wpAny_pyIter_tuple (isl hax) ?_
  have lt0 : ∀ b o, s.heap.get? b = some o → b ≠ s.heap.objs.size := fun b o e => Nat.ne_of_lt (Heap.lt_size e)
  refine codeAny_forLoop (fun n s' => ∃ i g m news h tk iob, s' = { s with heap := h, toks := tk } ∧ i ≤ items.size ∧ n = items.size - i ∧ J i g m news ∧ Fr g env.locals h m ∧ News g env.locals h ((s.heap.objs.size, iob) :: news) ∧
      iob.cls = .type "tuple_iterator" ∧ iob.data = .fields #[.ref ax, .int (i : Int) 0]) ?_ items.size
    ⟨0, g₀, m₀, news₀, _, s.toks, { cls := .type "tuple_iterator", data := .fields #[.ref ax, .int 0 0] }, rfl, Nat.zero_le _, rfl, h0, F.push _, N.push F _, rfl, rfl⟩
  rintro n s' ⟨i, g, m, news, h, tk, iob, rfl, hi, rfl, hj, F', N', c1, c2⟩
  have hl := hJ _ _ _ _ hj
  have hlst : h.IsTuple ax items := isl (N' _ (.tail _ hl.1)).1
  have hit : h.IsTupleIter s.heap.objs.size ax i := ⟨iob, (N' _ (.head _)).1, c1, c2⟩
  have hap := hl.2
  cases hv : items[i]? with
  | none =>
    have hsz : i = items.size := Nat.le_antisymm hi (by simpa using hv)
    subst hsz
    refine wpAny_pyNext_tuple_end hh hit hlst hv fun h₁ he => wpAny_execs_nil ?_
    have hI := (N' _ (.head _)).2
    exact done g m news h₁ tk hj ⟨F'.ns.extBut he (Ne.symm hI.1), fun b o e => he b o (fun z => by rw [z, hI.2] at e; cases e) (F'.keep b o e), F'.above⟩ fun p hp => ⟨he _ _ (hap p hp) (N' p (.tail _ hp)).1, (N' p (.tail _ hp)).2⟩
  | some v =>
    have hlt : i < items.size := (Array.getElem?_eq_some_iff.mp hv).1
    refine wpAny_pyNext_tuple_item hit hlst hv fun h₁ hit₁ hs => ?_
    obtain ⟨iob₁, e1, e2, e3⟩ := hit₁
    have hI := (N' _ (.head _)).2
    have F₁ : Fr g env.locals h₁ m := F'.change hs hI.1 hI.2
    have N₁ : News g env.locals h₁ ((s.heap.objs.size, iob₁) :: news) := news_set (pre := []) N' (fun _ hp => nomatch hp) hap hs e1
    refine wpAny_assign_Name (wpAny_passesOwn hE (wpAny_mono (turn i v g m news h₁ tk s.heap.objs.size iob₁ hv hj F₁ N₁) (fun _ s₂ q => wpAny_passesOwn hE (wpAny_mono q (fun f s₃ q => ?_) fun _ _ e => e)) fun _ _ e => e))
    cases f with
    | ret v => exact q
    | brk => exact q
    | next =>
      obtain ⟨g', m', news', h', tk', rfl, F₂, N₂, j₂⟩ := q
      exact ⟨items.size - (i + 1), by omega, i + 1, g', m', news', h', tk', iob₁, rfl, hlt, rfl, j₂, F₂, N₂, e2, e3⟩
    | cont =>
      obtain ⟨g', m', news', h', tk', rfl, F₂, N₂, j₂⟩ := q
      exact ⟨items.size - (i + 1), by omega, i + 1, g', m', news', h', tk', iob₁, rfl, hlt, rfl, j₂, F₂, N₂, e2, e3⟩
end
end Mine
namespace Mine
/-- how a turn ends that changes nothing but the loop's name -/
noncomputable def StillEnd (G : Heap) (L : Addr) (s : Shared) (x : Str) (m₀ : Str → Option Value) (NL : List (Addr × Obj)) (I : Addr) (iob : Obj) (Q : Flow → Shared → Prop) (f : Flow) (s₂ : Shared) : Prop :=
  match f with
  | .ret v => Q (.ret v) s₂
  | .brk => Q .next s₂
  | _ => ∃ u h tk, s₂ = { s with heap := h, toks := tk } ∧ Fr G L h (fun y => if y = x then u else m₀ y) ∧ News G L h ((I, iob) :: NL)
section
variable {prog : Program} {w : World} {A : Around} {E : Value → Shared → Prop} {s : Shared} {env : Env} {Q : Flow → Shared → Prop}
theorem for_tuple_still {x : Str} {px : Pos} {body : List Stmt} {ax : Addr} {lob : Obj} {items : Array Value} {G : Heap} {m₀ : Str → Option Value} {NL : List (Addr × Obj)}
    (hh : A.handled = none) (hc : lob.cls = .type "tuple") (hd : ∃ n, lob.data = .seq items n)
    (hJ : (ax, lob) ∈ NL) (F : Fr G env.locals s.heap m₀) (N : News G env.locals s.heap NL)
    (turn : ∀ (i : Nat) (v : Value) (u : Option Value) (h : Heap) (tk : Nat) (I : Addr) (iob : Obj), items[i]? = some v → Fr G env.locals h (fun y => if y = x then u else m₀ y) → News G env.locals h ((I, iob) :: NL) →
      wpAny (model prog w) A (storeName env x v) (fun _ s₂ => wpAny (model prog w) A (execs body env) (StillEnd G env.locals s x m₀ NL I iob Q) E s₂) E { s with heap := h, toks := tk })
    (done : ∀ (u : Option Value) (h : Heap) (tk : Nat), Fr G env.locals h (fun y => if y = x then u else m₀ y) → News G env.locals h NL → Q .next { s with heap := h, toks := tk })
    (hE : PassesOwn (model prog w) A env E := by passes_own) :
    wpAny (model prog w) A (pyIter (.ref ax)) (fun it s₂ => codeAny (model prog w) A (.forLoop (.Name x px) it body [] env) (fun r s' => match r with | .ok f => Q f s' | .error e => cameBackBy (model prog w) A env E e s') s₂) E s := by
  have fn : ∀ {m : Str → Option Value}, (∀ z, z ≠ x → m z = m₀ z) → m = fun y => if y = x then m x else m₀ y := fun {m} hm => by
    funext y
    by_cases h : y = x
    · subst h; simp
    · rw [if_neg h]; exact hm y h
  refine for_tuple hh (fun _ g m news => g = G ∧ news = NL ∧ ∀ z, z ≠ x → m z = m₀ z) hc hd (fun _ _ _ _ j => j.2.1 ▸ ⟨hJ, fun p hp => Nat.ne_of_lt (Heap.lt_size (N p hp).1)⟩) F N ⟨rfl, rfl, fun _ _ => rfl⟩ ?_ ?_ hE
  · rintro i v g m news h tk I iob hv ⟨rfl, rfl, hm⟩ F' N'
    rw [fn hm] at F'
    refine wpAny_mono (turn i v (m x) h tk I iob hv F' N') (fun _ s₂ q => wpAny_mono q (fun f s₃ q => ?_) fun _ _ e => e) fun _ _ e => e
    cases f with
    | ret v => exact q
    | brk => exact q
    | next =>
      obtain ⟨u, h', tk', rfl, F₂, N₂⟩ := q
      exact ⟨_, _, _, h', tk', rfl, F₂, N₂, rfl, rfl, fun z hz => if_neg hz⟩
    | cont =>
      obtain ⟨u, h', tk', rfl, F₂, N₂⟩ := q
      exact ⟨_, _, _, h', tk', rfl, F₂, N₂, rfl, rfl, fun z hz => if_neg hz⟩
  · rintro g m news h tk ⟨rfl, rfl, hm⟩ F' N'
    rw [fn hm] at F'
    exact done (m x) h tk F' N'
theorem still_end {G h : Heap} {L : Addr} {x : Str} {m₀ : Str → Option Value} {NL : List (Addr × Obj)} {I : Addr} {iob : Obj} {tk : Nat} {v u : Option Value}
    (F : Fr G L h (fun y => if y = x then v else if y = x then u else m₀ y)) (N : News G L h ((I, iob) :: NL)) : StillEnd G L s x m₀ NL I iob Q .next { s with heap := h, toks := tk } := by
  refine ⟨v, h, tk, rfl, ?_, N⟩
  have e : (fun y => if y = x then v else if y = x then u else m₀ y) = fun y => if y = x then v else m₀ y := by
    funext y
    by_cases q : y = x
    · rw [if_pos q, if_pos q]
    · rw [if_neg q, if_neg q, if_neg q]
  rw [← e]
  exact F
end
end Mine
end
section
open PySem PySem.W PyProof.Rows PySem.W.X PySem.Calls PySem.Spec
namespace Mine

/-- the returning arm of a contract behind which the ground below may have turned (something was caught) -/
noncomputable abbrev TRetP (w : World) (mean : ExcName → Option Value) (mg mb : Str → Option Value) (A₀ : Around) (base : Heap) (outer : List Env) (g₀ : Heap) (L : Addr) (m : Str → Option Value) (news : List (Addr × Obj)) (s : Shared) (Q : Value → Shared → Prop) (Ret : Value → List (Addr × Obj) → Prop) : Prop :=
  ∀ v tl h' tk' h₀', KtsTurn (outer.filterMap (·.frame)) g₀ h₀' → Fr h₀' L h' m → News h₀' L h' (tl ++ news) → Below A₀ base outer h₀' → (K2 w.params).In h₀' → Top VV LL mean mg mb h₀' → KtsDicts (outer.filterMap (·.frame)) h₀' → Ret v tl → Q v { s with heap := h', toks := tk' }
/-- a contract of a def that catches -/
noncomputable abbrev CT (w : World) (mean : ExcName → Option Value) (mg mb : Str → Option Value) (dp un : Nat) (f : Addr) (vs : List Value) (news : List (Addr × Obj)) (Ret : Value → List (Addr × Obj) → Prop) : Prop :=
  ∀ (gd : Option (List Code)) (cn : Str) (cs : Scope) (a : Addr) (ccd : Value) (cl : List (Str × Addr)) (outer : List Env) (A₀ : Around) (base g₀ h₀ : Heap) (L : Addr) (m : Str → Option Value) (s : Shared) (Q E : Value → Shared → Prop),
    Below A₀ base outer h₀ → Fr h₀ L s.heap m → (K2 w.params).In h₀ → News h₀ L s.heap news → Top VV LL mean mg mb h₀ → (K2 w.params).In base → Top VV LL mean mg mb base → KtsDicts (outer.filterMap (·.frame)) h₀ → KtsTurn (outer.filterMap (·.frame)) g₀ h₀ → cs.kind = .function →
    TRetP w mean mg mb A₀ base outer g₀ L m news s Q Ret →
    wpAny (model PP w) (ktrTop dp un gd cn cs L a ccd cl outer) (call (.ref f) vs) Q E s
theorem CT.lower {w : World} {mean : ExcName → Option Value} {mg mb : Str → Option Value} {dp un dp' un' : Nat} {f : Addr} {vs : List Value} {news : List (Addr × Obj)} {Ret : Value → List (Addr × Obj) → Prop}
    (h : CT w mean mg mb dp un f vs news Ret) (d : dp' ≤ dp) (u : un' ≤ un) : CT w mean mg mb dp' un' f vs news Ret :=
  fun gd cn cs a ccd cl outer A₀ base g₀ h₀ L m s Q E h1 h2 h3 h4 h5 h6 h7 h8 h9 h10 h11 => wpAny_lower (h gd cn cs a ccd cl outer A₀ base g₀ h₀ L m s Q E h1 h2 h3 h4 h5 h6 h7 h8 h9 h10 h11) d u

section
variable {A₀ A : Around} {base h₀ g₀ g g' : Heap} {s s' : Shared} {outer : List Env} {env : Env} {L L' : Addr} {m m' : Str → Option Value} {news news' : List (Addr × Obj)} {K : Frag} {p : Program} {loose : List Str} {mean : ExcName → Option Value} {mg mb : Str → Option Value}
theorem fs_cons {b : Addr} (hf : env.frame = some L) (hm : b ∈ (env :: outer).filterMap (·.frame)) : b = L ∨ b ∈ outer.filterMap (·.frame) := by
  obtain ⟨e, he, hb⟩ := List.mem_filterMap.mp hm
  rcases List.mem_cons.mp he with rfl | he
  · exact .inl (Option.some.inj (hb.symm.trans hf))
  · exact .inr (List.mem_filterMap.mpr ⟨e, he, hb⟩)
theorem dicts_in (D : KtsDicts (outer.filterMap (·.frame)) h₀) (FG : Fr h₀ L g m) (hf : env.frame = some L) : KtsDicts ((env :: outer).filterMap (·.frame)) g := fun b hb => by
  rcases fs_cons hf hb with rfl | hb
  · obtain ⟨o, es, ep, ho, hd, _⟩ := FG.ns
    exact ⟨o, es, ep, ho, hd⟩
  · obtain ⟨o, es, n, ho, hd⟩ := D b hb
    exact ⟨o, es, n, FG.keep b o ho, hd⟩
/-- back in the caller: its ground has turned as the callee's has -/
theorem turn_back (B : Below A₀ base outer h₀) (FG : Fr h₀ L g m) (hf : env.frame = some L) (XB : K.In base) (TB : Top p loose mean mg mb base) (D : KtsDicts (outer.filterMap (·.frame)) h₀)
    (T0 : KtsTurn (outer.filterMap (·.frame)) g₀ h₀) (T' : KtsTurn ((env :: outer).filterMap (·.frame)) g g') (F' : Fr g' L' s'.heap m') (N' : News g' L' s'.heap news') :
    ∃ h₀', KtsTurn (outer.filterMap (·.frame)) g₀ h₀' ∧ Fr h₀' L s'.heap m ∧ News h₀' L s'.heap news' ∧ Below A₀ base outer h₀' ∧ K.In h₀' ∧ Top p loose mean mg mb h₀' ∧ KtsDicts (outer.filterMap (·.frame)) h₀' := by
  have nL : h₀.get? L = none := kts_self FG
  obtain ⟨oL, es, ep, hL, hLd, hLk, hLf⟩ := FG.ns
  obtain ⟨sl, hsl⟩ := T'.up hL
  have notL : ∀ b o, h₀.get? b = some o → b ≠ L := fun b o e q => by rw [q, nL] at e; cases e
  obtain ⟨T₁, S₁⟩ := kts_turn_at (h := s'.heap) (fs := outer.filterMap (·.frame)) (g := h₀)
    (fun b hb => let ⟨_, o, ho, _⟩ := B.frames.mem hb; ⟨o, ho⟩)
    (fun b o e nb => F'.keep b o (T'.other b o (FG.keep b o e) fun q => (fs_cons hf q).elim (notL b o e) nb))
    (fun b o e _ => let ⟨sl', hs'⟩ := T'.up (FG.keep b o e); ⟨sl', F'.keep _ _ hs'⟩)
  have B₁ : Below A₀ base outer (ktsHeap s'.heap (outer.filterMap (·.frame)) h₀) := by
    refine ⟨B.stack, fun b o e => T₁.other b o (B.stays b o e) fun hm => ?_, B.frames.of_keeps fun b o e _ => ?_⟩
    · rw [(B.frames.mem hm).1] at e; cases e
    · obtain ⟨sl', hs'⟩ := T₁.up e
      exact ⟨_, hs', rfl⟩
  refine ⟨_, T0.trans T₁, ⟨⟨_, es, ep, F'.keep _ _ hsl, hLd, hLk, hLf⟩, S₁, ?_⟩, fun q hq => ⟨(N' q hq).1, fun z => ?_, ?_⟩, B₁, XB.keeps B₁.stays, TB.keeps B₁.stays, D.turn T₁⟩
  · rw [T₁.size]; exact FG.above
  · have e := (N' q hq).2.2
    rw [z, hsl] at e; cases e
  · refine T₁.none_ _ ?_
    cases e : h₀.get? q.1 with
    | none => rfl
    | some o =>
      obtain ⟨sl', hs'⟩ := T'.up (FG.keep _ _ e)
      have z := (N' q hq).2.2
      rw [hs'] at z; cases z
end
/-- the callee's end: what it gives back, and the turn of its ground -/
noncomputable def LeaveT (w : World) (mean : ExcName → Option Value) (mg mb : Str → Option Value) (A₀ : Around) (base : Heap) (outer : List Env) (g₀ : Heap) (L : Addr) (m : Str → Option Value) (fs : List Addr) (g : Heap) (R : Result → Shared → Prop) (v : Value) (s' : Shared) : Prop :=
  ∃ g' L' m' news', KtsTurn fs g g' ∧ Fr g' L' s'.heap m' ∧ News g' L' s'.heap news' ∧ ∀ h₀', KtsTurn (outer.filterMap (·.frame)) g₀ h₀' → Fr h₀' L s'.heap m → News h₀' L s'.heap news' → Below A₀ base outer h₀' → (K2 w.params).In h₀' → Top VV LL mean mg mb h₀' →
    KtsDicts (outer.filterMap (·.frame)) h₀' → R (.ok (.ret v)) s'
theorem leaveT_ {w : World} {mean : ExcName → Option Value} {mg mb : Str → Option Value} {A₀ : Around} {base : Heap} {outer : List Env} {g₀ g g' : Heap} {L L' : Addr} {m m' : Str → Option Value} {fs : List Addr} {news' : List (Addr × Obj)} {R : Result → Shared → Prop} {v : Value} {s' : Shared}
    (F' : Fr g' L' s'.heap m') (N' : News g' L' s'.heap news') (T' : KtsTurn fs g g')
    (k : ∀ h₀', KtsTurn (outer.filterMap (·.frame)) g₀ h₀' → Fr h₀' L s'.heap m → News h₀' L s'.heap news' → Below A₀ base outer h₀' → (K2 w.params).In h₀' → Top VV LL mean mg mb h₀' → KtsDicts (outer.filterMap (·.frame)) h₀' → R (.ok (.ret v)) s') :
    LeaveT w mean mg mb A₀ base outer g₀ L m fs g R v s' := ⟨g', L', m', news', T', F', N', k⟩

section
variable {w : World} {A₀ A : Around} {s : Shared} {base h₀ g₀ : Heap} {outer : List Env} {env : Env} {L : Addr} {m : Str → Option Value} {news : List (Addr × Obj)} {mean : ExcName → Option Value} {mg mb : Str → Option Value}
  {R : Result → Shared → Prop} {name qual : Str} {params : Arguments} {body : List Stmt} {scope : Scope} {dV kV doc pm cdv ct oc : Value} {an od : Option Addr} {osl : Array (Option Value)} {f : Addr} {args : Args} {binds : List (Str × Value)}
/-- enter a def of the written part that may have cells and may catch -/
theorem code_T (B : Below A₀ base outer h₀) (F : Fr h₀ L s.heap m) (X₀ : (K2 w.params).In h₀) (N : News h₀ L s.heap news) (T : Top VV LL mean mg mb h₀) (XB : (K2 w.params).In base) (TB : Top VV LL mean mg mb base) (D : KtsDicts (outer.filterMap (·.frame)) h₀)
    (T0 : KtsTurn (outer.filterMap (·.frame)) g₀ h₀) (hA : A.frames = some (env :: outer)) (hf : env.frame = some L) (hke : env.scope.kind = .function)
    (ho : (K2 w.params).lookup f = some ⟨oc, od, .func (fnOf name qual params body scope dV kV doc pm an cdv ct), osl⟩) (hcd : codeIn (K2 w.params) cdv qual = true) (hroom : A.depth < recursionLimit)
    (hbind : BindsTo s (fnOf name qual params body scope dV kV doc pm an cdv ct) args binds) (hkind : (binds.all fun y => scope.names.lookup y.1 == some .local || scope.names.lookup y.1 == some .cell) = true)
    (hnd : ((cellsFrom 0 scope.names []).map (·.1)).Nodup)
    (h : ∀ g L' h₁ tk cells, Fr h₀ L g m → Fr g L' h₁ (bindL (envOfC qual scope L' f cdv).kindOf binds fun _ => none) → News g L' h₁ (cells ++ news) →
      CellsAre (bindC (envOfC qual scope L' f cdv).kindOf binds fun _ => none) (cellsFrom (L' + 1) scope.names []) cells → Below A base (env :: outer) g → (K2 w.params).In g → Top VV LL mean mg mb g → KtsDicts ((env :: outer).filterMap (·.frame)) g → (∀ p ∈ news, p.1 < L') →
      wpAny (model PP w) (A.deeper (envOfC qual scope L' f cdv)) (execs body (envOfC qual scope L' f cdv))
        (fun fl s' => LeaveT w mean mg mb A₀ base outer g₀ L m ((env :: outer).filterMap (·.frame)) g R (match fl with | .ret v => v | _ => .none) s')
        (fun e s' => wpAny (model PP w) (A.deeper (envOfC qual scope L' f cdv)) (leaving (envOfC qual scope L' f cdv) e) (fun _ s'' => R (.error e) s'') (fun e' s'' => R (.error e') s'') s')
        { s with heap := h₁, toks := tk })
    (hco : scope.isCoroutine = false) (hgen : scope.isGenerator = false) (hk : scope.kind = .function) : codeAny (model PP w) A (.call (.ref f) args) R s := by
  obtain ⟨FG, BG, st, _⟩ := groundX (R := R) B F N hA hf hke
  refine codeAny_call_function hroom ((X₀.keeps F.keep) _ _ ho) rfl hco hgen rfl (codeRec_of (X₀.keeps F.keep) hcd) (hbind _ _ _ _ ?_)
  refine wpAny_newFunctionEnv_cells hk (kindsX hkind _) fun env' he s' x => ?_
  subst he
  refine ⟨(T.nolimit.keeps F.keep).keeps x.toInCall.keep, codeAny_func ?_⟩
  obtain ⟨h₁, tk, rfl, _⟩ := x.done
  have kp := x.toInCall.keep
  obtain ⟨cells, NC, Y⟩ := Cl.news (h₀ := s.heap) (Nat.le_refl _) fun n c hm => ⟨x.cell n c (lookup_of_mem_nodup (cellsFrom_names scope.names 0 (s.heap.objs.size + 1) [] [] rfl ▸ hnd) hm), x.above n c hm⟩
  refine wpAny_mono (h _ s.heap.objs.size h₁ tk cells FG ⟨x.toInCall.ns, fun b o e => kp b o (of_hideAll _ e), Nat.le_of_eq (hideAll_size _ _)⟩ (fun q hq => ?_) Y BG (X₀.keeps st) (T.keeps st) (dicts_in D FG hf) fun q hq => Heap.lt_size (N q hq).1) (fun fl s' hl => ?_) fun _ _ y => y
  · rcases List.mem_append.mp hq with hq | hq
    · refine ⟨(NC q hq).1, (NC q hq).2.1, ?_⟩
      cases e : (hideAll s.heap (news.map (·.1))).get? q.1 with
      | none => rfl
      | some o => have z := of_hideAll _ e; rw [(NC q hq).2.2] at z; cases z
    · exact ⟨kp _ _ (N q hq).1, Nat.ne_of_lt (Heap.lt_size (N q hq).1), hideAll_none _ (List.mem_map_of_mem hq)⟩
  · obtain ⟨g', L', m', news', T', F', N', k⟩ := hl
    obtain ⟨h₀', t1, t2, t3, t4, t5, t6, t7⟩ := turn_back B FG hf XB TB D T0 T' F' N'
    exact k h₀' t1 t2 t3 t4 t5 t6 t7
/-- the same for a def without cells -/
theorem code_T0 (B : Below A₀ base outer h₀) (F : Fr h₀ L s.heap m) (X₀ : (K2 w.params).In h₀) (N : News h₀ L s.heap news) (T : Top VV LL mean mg mb h₀) (XB : (K2 w.params).In base) (TB : Top VV LL mean mg mb base) (D : KtsDicts (outer.filterMap (·.frame)) h₀)
    (T0 : KtsTurn (outer.filterMap (·.frame)) g₀ h₀) (hA : A.frames = some (env :: outer)) (hf : env.frame = some L) (hke : env.scope.kind = .function)
    (ho : (K2 w.params).lookup f = some ⟨oc, od, .func (fnOf name qual params body scope dV kV doc pm an cdv ct), osl⟩) (hcd : codeIn (K2 w.params) cdv qual = true) (hroom : A.depth < recursionLimit)
    (hbind : BindsTo s (fnOf name qual params body scope dV kV doc pm an cdv ct) args binds) (hloc : ∀ y ∈ binds, scope.names.lookup y.1 = some .local)
    (h : ∀ g L' h₁, Fr h₀ L g m → Fr g L' h₁ (fun y => binds.reverse.lookup y) → News g L' h₁ news → Below A base (env :: outer) g → (K2 w.params).In g → Top VV LL mean mg mb g → KtsDicts ((env :: outer).filterMap (·.frame)) g → (∀ p ∈ news, p.1 < L') →
      wpAny (model PP w) (A.deeper (envOf qual scope L' f cdv)) (execs body (envOf qual scope L' f cdv))
        (fun fl s' => LeaveT w mean mg mb A₀ base outer g₀ L m ((env :: outer).filterMap (·.frame)) g R (match fl with | .ret v => v | _ => .none) s')
        (fun e s' => wpAny (model PP w) (A.deeper (envOf qual scope L' f cdv)) (leaving (envOf qual scope L' f cdv) e) (fun _ s'' => R (.error e) s'') (fun e' s'' => R (.error e') s'') s')
        { s with heap := h₁, toks := s.toks + binds.length })
    (hco : scope.isCoroutine = false) (hgen : scope.isGenerator = false) (hk : scope.kind = .function) (hcell : ∀ x ∈ scope.names, x.2 ≠ .cell) : codeAny (model PP w) A (.call (.ref f) args) R s := by
  obtain ⟨FG, BG, st, _⟩ := groundX (R := R) B F N hA hf hke
  refine codeAny_call_def (fd := fnOf name qual params body scope dV kV doc pm an cdv ct) (body := body) (binds := binds) hroom ((X₀.keeps F.keep) _ _ ho) rfl (T.nolimit.keeps F.keep) (codeRec_of (X₀.keeps F.keep) hcd) rfl hbind hcell hloc (fun h₁ hns kp => ?_) hco hgen hk
  refine wpAny_mono (h _ s.heap.objs.size h₁ FG ⟨hns, fun b o e => kp b o (of_hideAll _ e), Nat.le_of_eq (hideAll_size _ _)⟩ (fun q hq => ⟨kp _ _ (N q hq).1, Nat.ne_of_lt (Heap.lt_size (N q hq).1), hideAll_none _ (List.mem_map_of_mem hq)⟩) BG (X₀.keeps st) (T.keeps st) (dicts_in D FG hf) fun q hq => Heap.lt_size (N q hq).1) (fun fl s' hl => ?_) fun _ _ y => y
  obtain ⟨g', L', m', news', T', F', N', k⟩ := hl
  obtain ⟨h₀', t1, t2, t3, t4, t5, t6, t7⟩ := turn_back B FG hf XB TB D T0 T' F' N'
  exact k h₀' t1 t2 t3 t4 t5 t6 t7
end
end Mine
end
section
open PySem PySem.W PyProof.Rows PySem.W.X
namespace Mine


noncomputable def sortF (o : Int) : Str := if o = 100 ∨ o = 101 then "segment" else if o = 102 then "data" else if o = 243 ∨ o = 242 then "repeat" else if o = 240 then "lock" else if o = 38 ∨ o = 46 ∨ o = 54 ∨ o = 62 ∨ o = 103 then "barred" else ""
theorem sf1 {o : Int} (h : o = 100) : Str.ofString "segment" = sortF o := by subst h; rfl
theorem sf2 {o : Int} (h : o = 101) : Str.ofString "segment" = sortF o := by subst h; rfl
theorem sf3 {o : Int} (h : o = 102) : Str.ofString "data" = sortF o := by subst h; rfl
theorem sf4 {o : Int} (h : o = 243) : Str.ofString "repeat" = sortF o := by subst h; rfl
theorem sf5 {o : Int} (h : o = 242) : Str.ofString "repeat" = sortF o := by subst h; rfl
theorem sf6 {o : Int} (h : o = 240) : Str.ofString "lock" = sortF o := by subst h; rfl
theorem sf7 {o : Int} (h : ([38, 46, 54, 62, 103].any fun x => x == o) = true) : Str.ofString "barred" = sortF o := by
  simp only [List.any_cons, List.any_nil, Bool.or_false, Bool.or_eq_true, beq_iff_eq] at h
  rcases h with rfl | rfl | rfl | rfl | rfl <;> rfl
theorem sf8 {o : Int} (h1 : o ≠ 100) (h2 : o ≠ 101) (h3 : o ≠ 102) (h4 : o ≠ 243) (h5 : o ≠ 242) (h6 : o ≠ 240) (h : ([38, 46, 54, 62, 103].any fun x => x == o) = false) : Str.ofString "" = sortF o := by
  simp only [List.any_cons, List.any_nil, Bool.or_false, Bool.or_eq_false_iff, beq_eq_false_iff_ne, ne_eq] at h
  unfold sortF
  rw [if_neg (by omega), if_neg (by omega), if_neg (by omega), if_neg (by omega), if_neg (by omega)]
theorem rex_dec (o : Int) : (o.fdiv 16 == 4) = decide (64 ≤ o ∧ o ≤ 79) := by
  rw [Int.fdiv_eq_ediv_of_nonneg _ (by decide), Bool.eq_iff_iff, beq_iff_eq, decide_eq_true_eq]; omega
section
variable {w : World} {mean : ExcName → Option Value} {mg mb : Str → Option Value}

theorem c_segment_octet (news : List (Addr × Obj)) (o : Str) (t : Tok) :
    CP w mean mg mb 900 9000 94 [.str o t] news (fun v tl => tl = [] ∧ ((o = "fs" ∧ ∃ t, v = .int 100 t) ∨ (o = "gs" ∧ ∃ t, v = .int 101 t))) (fun C => C = 52 ∧ o ≠ "fs" ∧ o ≠ "gs") := by
  k_with_none
  w_top off
  k_with "exec Raise some none" => ((k_here; refine Raise_own rfl ?_))
  k_with "call ref" => ((k_here; (with_reducible show wpAny _ _ (call (Value.ref _) [Value.str _ _]) (RaisableO _ _) _ _); refine raise_call ?zhCq ?zXq rfl ?zdq ?zuq ?_; (case zhCq => first | exact .inl rfl | exact .inr rfl); (case zXq => k_in); (case zdq => exact Nat.le_of_ble_eq_true rfl); (case zuq => exact Nat.le_of_ble_eq_true rfl); intro e' h' tk' hm'; (try dsimp only at hm' ⊢)))
  k_with "leaving ref" => ((k_here; refine' leave_own ?zk1q ?zk0q ?zk2q ?zk3q ?_; (case zk0q => assumption); (case zk2q => assumption); (case zk1q => assumption); (case zk3q => k_asm); k_whole; intro h' S' U'; (try dsimp only at S' U' ⊢)))
  refine unhook ?_
  k_fill
  intro _ _
  intro gd cn cs a ccd cl outer A₀ base h₀ L m s Q E hB hF hX hN hT hk hret hexc
  refine wpAny_call ?_
  k_dflt cell_enter
  repeat' (first | (k_unfold; (try dsimp only)) | walk1 | (dsimp only; walk1))

  all_goals first
    | (refine hexc _ _ _ _ _ ⟨rfl, ne_of_beq_false (by assumption), ne_of_beq_false (by assumption)⟩ (by assumption) (by assumption) (by assumption))
    | (refine hret _ [] _ _ (by assumption) (by assumption) ⟨rfl, .inl ⟨eq_of_beq (by assumption), _, rfl⟩⟩)
    | (refine hret _ [] _ _ (by assumption) (by assumption) ⟨rfl, .inr ⟨eq_of_beq (by assumption), _, rfl⟩⟩)
theorem c_sort_of (news : List (Addr × Obj)) (o : Int) (t : Tok) :
    CP w mean mg mb 900 9000 101 [.int o t] news (fun v tl => tl = [] ∧ ∃ t, v = .str (sortF o) t) NoExc := by
  k_with_none
  w_top off
  k_with "exec Raise some none" => ((k_here; refine Raise_own rfl ?_))
  k_with "call ref" => ((k_here; (with_reducible show wpAny _ _ (call (Value.ref _) [Value.str _ _]) (RaisableO _ _) _ _); refine raise_call ?zhCq ?zXq rfl ?zdq ?zuq ?_; (case zhCq => first | exact .inl rfl | exact .inr rfl); (case zXq => k_in); (case zdq => exact Nat.le_of_ble_eq_true rfl); (case zuq => exact Nat.le_of_ble_eq_true rfl); intro e' h' tk' hm'; (try dsimp only at hm' ⊢)))
  k_with "leaving ref" => ((k_here; refine' leave_own ?zk1q ?zk0q ?zk2q ?zk3q ?_; (case zk0q => assumption); (case zk2q => assumption); (case zk1q => assumption); (case zk3q => k_asm); k_whole; intro h' S' U'; (try dsimp only at S' U' ⊢)))
  refine unhook ?_
  k_fill
  intro _ _
  intro gd cn cs a ccd cl outer A₀ base h₀ L m s Q E hB hF hX hN hT hk hret hexc
  refine wpAny_call ?_
  k_dflt cell_enter
  repeat' (first | (k_unfold; (try dsimp only)) | walk1 | (dsimp only; walk1))

  all_goals refine hret _ [] _ _ (by assumption) (by first | assumption | exact News.tl1 (by assumption)) ⟨rfl, ⟨_, congrArg (fun x => Value.str x _) ?_⟩⟩
  all_goals first | exact sf1 (by assumption) | exact sf2 (by assumption) | exact sf3 (by assumption) | exact sf4 (by assumption) | exact sf5 (by assumption) | exact sf6 (by assumption) | exact sf7 (by assumption) | exact sf8 (by assumption) (by assumption) (by assumption) (by assumption) (by assumption) (by assumption) (by assumption)
theorem c_is_rex (news : List (Addr × Obj)) (o : Int) (t : Tok) :
    CP w mean mg mb 900 9000 87 [.int o t] news (fun v tl => tl = [] ∧ ∃ r, v = .bool r ∧ r = decide (64 ≤ o ∧ o ≤ 79)) NoExc := by
  k_with_none
  w_top off
  k_with "exec Raise some none" => ((k_here; refine Raise_own rfl ?_))
  k_with "call ref" => ((k_here; (with_reducible show wpAny _ _ (call (Value.ref _) [Value.str _ _]) (RaisableO _ _) _ _); refine raise_call ?zhCq ?zXq rfl ?zdq ?zuq ?_; (case zhCq => first | exact .inl rfl | exact .inr rfl); (case zXq => k_in); (case zdq => exact Nat.le_of_ble_eq_true rfl); (case zuq => exact Nat.le_of_ble_eq_true rfl); intro e' h' tk' hm'; (try dsimp only at hm' ⊢)))
  k_with "leaving ref" => ((k_here; refine' leave_own ?zk1q ?zk0q ?zk2q ?zk3q ?_; (case zk0q => assumption); (case zk2q => assumption); (case zk1q => assumption); (case zk3q => k_asm); k_whole; intro h' S' U'; (try dsimp only at S' U' ⊢)))
  refine unhook ?_
  k_fill
  intro _ _
  intro gd cn cs a ccd cl outer A₀ base h₀ L m s Q E hB hF hX hN hT hk hret hexc
  refine wpAny_call ?_
  k_dflt cell_enter
  repeat' (first | (k_unfold; (try dsimp only)) | walk1 | (dsimp only; walk1))

  all_goals exact hret _ [] _ _ (by assumption) (by assumption) ⟨rfl, _, rfl, rex_dec o⟩
end
end Mine
end
section
open PySem PySem.W PyProof.Rows PySem.W.X
namespace Mine

open PyProof.V
noncomputable def lsortF (o : Int) : Str := if 64 ≤ o ∧ o ≤ 79 then "rex" else sortF o
theorem lf0 {o : Int} (h1 : 64 ≤ o) (h2 : o ≤ 79) : Str.ofString "rex" = lsortF o := by unfold lsortF; rw [if_pos ⟨h1, h2⟩]
theorem lf1 {o : Int} (h : o = 100) : Str.ofString "segment" = lsortF o := by subst h; rfl
theorem lf2 {o : Int} (h : o = 101) : Str.ofString "segment" = lsortF o := by subst h; rfl
theorem lf3 {o : Int} (h : o = 102) : Str.ofString "data" = lsortF o := by subst h; rfl
theorem lf4 {o : Int} (h : o = 243) : Str.ofString "repeat" = lsortF o := by subst h; rfl
theorem lf5 {o : Int} (h : o = 242) : Str.ofString "repeat" = lsortF o := by subst h; rfl
theorem lf6 {o : Int} (h : o = 240) : Str.ofString "lock" = lsortF o := by subst h; rfl
theorem lf7 {o : Int} (h : o = 103) : Str.ofString "barred" = lsortF o := by subst h; rfl
theorem lf8 {o : Int} (h : o = 38) : Str.ofString "barred" = lsortF o := by subst h; rfl
theorem lf9 {o : Int} (h : o = 46) : Str.ofString "barred" = lsortF o := by subst h; rfl
theorem lfa {o : Int} (h : o = 54) : Str.ofString "barred" = lsortF o := by subst h; rfl
theorem lfb {o : Int} (h : o = 62) : Str.ofString "barred" = lsortF o := by subst h; rfl
theorem lfc {o : Int} (h : 64 ≤ o) (h0 : ¬ o ≤ 79) (h1 : ¬ o = 100) (h2 : ¬ o = 101) (h3 : ¬ o = 102) (h4 : ¬ o = 242) (h5 : ¬ o = 243) (h6 : ¬ o = 240) (h7 : ¬ o = 103) : Str.ofString "" = lsortF o := by
  unfold lsortF sortF
  rw [if_neg (by omega), if_neg (by omega), if_neg (by omega), if_neg (by omega), if_neg (by omega), if_neg (by omega)]
theorem lfd {o : Int} (h : ¬ 64 ≤ o) (h1 : ¬ o = 38) (h2 : ¬ o = 46) (h3 : ¬ o = 54) (h4 : ¬ o = 62) : Str.ofString "" = lsortF o := by
  unfold lsortF sortF
  rw [if_neg (by omega), if_neg (by omega), if_neg (by omega), if_neg (by omega), if_neg (by omega), if_neg (by omega)]
section
variable {w : World} {mean : ExcName → Option Value} {mg mb : Str → Option Value}

theorem c_law_sort (news : List (Addr × Obj)) (o : Int) (t : Tok) :
    CP w mean mg mb 900 9000 207 [.int o t] news (fun v tl => tl = [] ∧ ∃ t, v = .str (lsortF o) t) NoExc := by
  k_with_none
  w_top off
  k_with "callWith" => ((k_here; (with_reducible show wpAny _ _ (callWith _ _ _ (backTo _ (starEach [PySem.Expr.Dict _ _ _] _)) []) _ _ _); (try dsimp only); refine callWith_method1 ?_))
  refine unhook ?_
  k_fill
  intro _ _
  intro gd cn cs a ccd cl outer A₀ base h₀ L m s Q E hB hF hX hN hT hk hret hexc
  refine wpAny_call ?_
  k_dflt cell_enter
  repeat' (first | (k_unfold; (try dsimp only)) | walk1 | (dsimp only; walk1))

  all_goals refine hret _ [] _ _ (by assumption) (by first | assumption | exact News.tl1 (by assumption) | exact News.tl1 (News.tl1 (by assumption)) | exact News.tl1 (News.tl1 (News.tl1 (by assumption)))) ⟨rfl, ⟨_, congrArg (fun x => Value.str x _) ?_⟩⟩
  all_goals first | exact lf0 (by assumption) (by assumption) | exact lf1 (by assumption) | exact lf2 (by assumption) | exact lf3 (by assumption) | exact lf4 (by assumption) | exact lf5 (by assumption) | exact lf6 (by assumption) | exact lf7 (by assumption) | exact lf8 (by assumption) | exact lf9 (by assumption) | exact lfa (by assumption) | exact lfb (by assumption) | exact lfd (by assumption) (by assumption) (by assumption) (by assumption) (by assumption) | exact lfc (by assumption) (by assumption) (by assumption) (by assumption) (by assumption) (by assumption) (by assumption) (by assumption) (by assumption)
end
end Mine
end
section
open PySem PySem.W PyProof.Rows PySem.W.X
namespace Mine


structure Pfx where
  seg : Str
  data : Bool
  rep : Int
  lock : Bool
  rex : Int
noncomputable abbrev pfxEs (w : World) (t1 t2 t3 t4 t5 : Tok) (sg : Str) (dt : Bool) (rp : Int) (lk : Bool) (rx : Int) (u1 u3 u5 : Tok) : List DictEntry :=
  [⟨PyData.keyHash w.params (Str.ofString "segment"), .str (Str.ofString "segment") t1, .str sg u1⟩, ⟨PyData.keyHash w.params (Str.ofString "is_data"), .str (Str.ofString "is_data") t2, .bool dt⟩,
   ⟨PyData.keyHash w.params (Str.ofString "repeat"), .str (Str.ofString "repeat") t3, .int rp u3⟩, ⟨PyData.keyHash w.params (Str.ofString "is_lock"), .str (Str.ofString "is_lock") t4, .bool lk⟩,
   ⟨PyData.keyHash w.params (Str.ofString "rex"), .str (Str.ofString "rex") t5, .int rx u5⟩]
/-- an object of Prefixes that bears X -/
noncomputable def PfxL (w : World) (p : Addr) (X : Pfx) (l : List (Addr × Obj)) : Prop :=
  ∃ d t1 t2 t3 t4 t5 u1 u3 u5, @LT.lt Nat _ d p ∧ l = [(p, instObj 154 d), (d, dictOf (pfxEs w t1 t2 t3 t4 t5 X.seg X.data X.rep X.lock X.rex u1 u3 u5) 5)]
theorem PfxL.mk {w : World} {p d : Addr} {t1 t2 t3 t4 t5 u1 u3 u5 : Tok} {sg : Str} {dt : Bool} {rp : Int} {lk : Bool} {rx : Int} (h : @LT.lt Nat _ d p) :
    PfxL w p ⟨sg, dt, rp, lk, rx⟩ [(p, instObj 154 d), (d, dictOf (pfxEs w t1 t2 t3 t4 t5 sg dt rp lk rx u1 u3 u5) 5)] := ⟨_, _, _, _, _, _, _, _, _, h, rfl⟩

/-- what with_legacy does -/
noncomputable def legF (X : Pfx) (o : Int) : Option Pfx :=
  if sortF o == "barred" then none
  else if 0 ≤ X.rex then none
  else if sortF o == "segment" then (if X.seg != "" then none else some ⟨if o = 100 then "fs" else "gs", X.data, X.rep, X.lock, -1⟩)
  else if sortF o == "data" then (if X.data then none else some ⟨X.seg, true, X.rep, X.lock, -1⟩)
  else if sortF o == "repeat" then (if X.rep ≠ 0 ∨ X.lock then none else some ⟨X.seg, X.data, o, false, -1⟩)
  else if X.lock ∨ X.rep ≠ 0 then none else some ⟨X.seg, X.data, 0, true, -1⟩

section
variable {X : Pfx} {o : Int}
theorem lg1 (h : (sortF o == Str.ofString "barred") = true) : legF X o = none := by simp only [legF, h, if_true]
theorem lg2 (h : (sortF o == Str.ofString "barred") = false) (x : 0 ≤ X.rex) : legF X o = none := by simp only [legF, h, x, if_true, Bool.false_eq_true, if_false]
theorem lg3 (h : (sortF o == Str.ofString "barred") = false) (x : ¬ 0 ≤ X.rex) (h1 : (sortF o == Str.ofString "segment") = true) (h2 : (X.seg != Str.ofString "") = true) : legF X o = none := by simp only [legF, h, x, h1, h2, if_true, Bool.false_eq_true, if_false]
theorem lg4 (h : (sortF o == Str.ofString "barred") = false) (x : ¬ 0 ≤ X.rex) (h1 : (sortF o == Str.ofString "segment") = true) (h2 : (X.seg != Str.ofString "") = false) (h3 : o = 100) : legF X o = some ⟨"fs", X.data, X.rep, X.lock, -1⟩ := by simp only [legF, h, x, h1, h2, if_pos h3, if_true, Bool.false_eq_true, if_false]
theorem lg5 (h : (sortF o == Str.ofString "barred") = false) (x : ¬ 0 ≤ X.rex) (h1 : (sortF o == Str.ofString "segment") = true) (h2 : (X.seg != Str.ofString "") = false) (h3 : o ≠ 100) : legF X o = some ⟨"gs", X.data, X.rep, X.lock, -1⟩ := by simp only [legF, h, x, h1, h2, if_neg h3, if_true, Bool.false_eq_true, if_false]
theorem lg6 (h : (sortF o == Str.ofString "barred") = false) (x : ¬ 0 ≤ X.rex) (h1 : (sortF o == Str.ofString "segment") = false) (h2 : (sortF o == Str.ofString "data") = true) (h3 : X.data = true) : legF X o = none := by simp only [legF, h, x, h1, h2, h3, if_true, Bool.false_eq_true, if_false]
theorem lg7 (h : (sortF o == Str.ofString "barred") = false) (x : ¬ 0 ≤ X.rex) (h1 : (sortF o == Str.ofString "segment") = false) (h2 : (sortF o == Str.ofString "data") = true) (h3 : X.data = false) : legF X o = some ⟨X.seg, true, X.rep, X.lock, -1⟩ := by simp only [legF, h, x, h1, h2, h3, if_true, Bool.false_eq_true, if_false]
theorem lg8 (h : (sortF o == Str.ofString "barred") = false) (x : ¬ 0 ≤ X.rex) (h1 : (sortF o == Str.ofString "segment") = false) (h2 : (sortF o == Str.ofString "data") = false) (h3 : (sortF o == Str.ofString "repeat") = true) (h4 : X.rep ≠ 0) : legF X o = none := by simp only [legF, h, x, h1, h2, h3, if_true, Bool.false_eq_true, if_false, if_pos (Or.inl h4 : X.rep ≠ 0 ∨ X.lock = true)]
theorem lg9 (h : (sortF o == Str.ofString "barred") = false) (x : ¬ 0 ≤ X.rex) (h1 : (sortF o == Str.ofString "segment") = false) (h2 : (sortF o == Str.ofString "data") = false) (h3 : (sortF o == Str.ofString "repeat") = true) (h4 : X.lock = true) : legF X o = none := by simp only [legF, h, x, h1, h2, h3, if_true, Bool.false_eq_true, if_false, if_pos (Or.inr h4 : X.rep ≠ 0 ∨ X.lock = true)]
theorem lga (h : (sortF o == Str.ofString "barred") = false) (x : ¬ 0 ≤ X.rex) (h1 : (sortF o == Str.ofString "segment") = false) (h2 : (sortF o == Str.ofString "data") = false) (h3 : (sortF o == Str.ofString "repeat") = true) (h4 : X.rep = 0) (h5 : X.lock = false) : legF X o = some ⟨X.seg, X.data, o, false, -1⟩ := by
  have q : ¬ (X.rep ≠ 0 ∨ X.lock = true) := by rintro (z | z); exact z h4; rw [h5] at z; cases z
  simp only [legF, h, x, h1, h2, h3, if_true, Bool.false_eq_true, if_false, if_neg q]
theorem lgb (h : (sortF o == Str.ofString "barred") = false) (x : ¬ 0 ≤ X.rex) (h1 : (sortF o == Str.ofString "segment") = false) (h2 : (sortF o == Str.ofString "data") = false) (h3 : (sortF o == Str.ofString "repeat") = false) (h4 : X.lock = true) : legF X o = none := by simp only [legF, h, x, h1, h2, h3, Bool.false_eq_true, if_false, if_pos (Or.inl h4 : X.lock = true ∨ X.rep ≠ 0)]
theorem lgc (h : (sortF o == Str.ofString "barred") = false) (x : ¬ 0 ≤ X.rex) (h1 : (sortF o == Str.ofString "segment") = false) (h2 : (sortF o == Str.ofString "data") = false) (h3 : (sortF o == Str.ofString "repeat") = false) (h4 : X.rep ≠ 0) : legF X o = none := by simp only [legF, h, x, h1, h2, h3, Bool.false_eq_true, if_false, if_pos (Or.inr h4 : X.lock = true ∨ X.rep ≠ 0)]
theorem lgd (h : (sortF o == Str.ofString "barred") = false) (x : ¬ 0 ≤ X.rex) (h1 : (sortF o == Str.ofString "segment") = false) (h2 : (sortF o == Str.ofString "data") = false) (h3 : (sortF o == Str.ofString "repeat") = false) (h4 : X.rep = 0) (h5 : X.lock = false) : legF X o = some ⟨X.seg, X.data, 0, true, -1⟩ := by
  have q : ¬ (X.lock = true ∨ X.rep ≠ 0) := by rintro (z | z); rw [h5] at z; cases z; exact z h4
  simp only [legF, h, x, h1, h2, h3, Bool.false_eq_true, if_false, if_neg q]
end
section
variable {w : World} {mean : ExcName → Option Value} {mg mb : Str → Option Value}

theorem c_with_legacy (news : List (Addr × Obj)) (p d : Addr) (t1 t2 t3 t4 t5 u1 u3 u5 : Tok) (X : Pfx) (o : Int) (t : Tok) :
    CP w mean mg mb 850 8500 172 [.ref p, .int o t] ((p, instObj 154 d) :: (d, dictOf (pfxEs w t1 t2 t3 t4 t5 X.seg X.data X.rep X.lock X.rex u1 u3 u5) 5) :: news)
      (fun v tl => ∃ q Y, v = .ref q ∧ legF X o = some Y ∧ PfxL w q Y tl) (fun C => C = 64 ∧ legF X o = none) := by
  k_with_none
  w_top off
  k_with "exec Raise some none" => ((k_here; refine Raise_own rfl ?_))
  k_with "call ref" => ((k_here; (with_reducible show wpAny _ _ (call (Value.ref _) [Value.str _ _]) (RaisableO _ _) _ _); refine raise_call ?zhCq ?zXq rfl ?zdq ?zuq ?_; (case zhCq => first | exact .inl rfl | exact .inr rfl); (case zXq => k_in); (case zdq => exact Nat.le_of_ble_eq_true rfl); (case zuq => exact Nat.le_of_ble_eq_true rfl); intro e' h' tk' hm'; (try dsimp only at hm' ⊢)))
  k_with "leaving ref" => ((k_here; refine' leave_own ?zk1q ?zk0q ?zk2q ?zk3q ?_; (case zk0q => assumption); (case zk2q => assumption); (case zk1q => assumption); (case zk3q => k_asm); k_whole; intro h' S' U'; (try dsimp only at S' U' ⊢)))
  k_with "call ref" => ((k_here; (with_reducible show wpAny _ _ (call (Value.ref 101) [Value.int _ _]) _ _ _); (k_dflt (refine' (CP.lower (c_sort_of _ _ _) ?zdq ?zuq) _ _ _ _ _ _ _ _ _ _ _ _ _ _ _ ?zBq ?zFq ?zXq ?zNq ?zTq ?zKq ?zretq ?zexcq); (case zdq => exact Nat.le_of_ble_eq_true rfl); (case zuq => exact Nat.le_of_ble_eq_true rfl); (case zBq => k_asm); (case zFq => k_asm); (case zXq => k_asm); (case zNq => k_asm); (case zTq => k_asm); (case zKq => first | exact rfl | assumption); (case zexcq => exact fun _ _ _ _ _ h => h.elim); k_whole; intro v' tl' h' tk' F' N' hR'; obtain ⟨e1', t', e2'⟩ := hR'; subst e1'; subst e2'; (try dsimp only [List.nil_append] at N' ⊢))))
  refine unhook ?_
  k_fill
  intro _ _
  intro gd cn cs a ccd cl outer A₀ base h₀ L m s Q E hB hF hX hN hT hk hret hexc
  refine wpAny_call ?_
  k_dflt cell_enter
  repeat' (first | (k_unfold; (try dsimp only)) | walk1 | (dsimp only; walk1))

  all_goals first
    | (refine hexc _ _ _ _ _ ⟨rfl, ?_⟩ (by assumption) (by assumption) (by assumption); first | exact lg1 (by assumption) | exact lg2 (by assumption) (by assumption) | exact lg3 (by assumption) (by assumption) (by assumption) (by assumption) | exact lg6 (by assumption) (by assumption) (by assumption) (by assumption) (by assumption) | exact lg8 (by assumption) (by assumption) (by assumption) (by assumption) (by assumption) (by assumption) | exact lg9 (by assumption) (by assumption) (by assumption) (by assumption) (by assumption) (by assumption) | exact lgb (by assumption) (by assumption) (by assumption) (by assumption) (by assumption) (by assumption) | exact lgc (by assumption) (by assumption) (by assumption) (by assumption) (by assumption) (by assumption))
    | (refine hret _ [_, _] _ _ (by assumption) (by assumption) ?_; refine ⟨_, _, rfl, ?_, PfxL.mk (by assumption)⟩; first | exact lg4 (by assumption) (by assumption) (by assumption) (by assumption) (by assumption) | exact lg5 (by assumption) (by assumption) (by assumption) (by assumption) (by assumption) | exact lg7 (by assumption) (by assumption) (by assumption) (by assumption) (by assumption) | exact lga (by assumption) (by assumption) (by assumption) (by assumption) (by assumption) (by assumption) (by assumption) | exact lgd (by assumption) (by assumption) (by assumption) (by assumption) (by assumption) (by assumption) (by assumption))
end
end Mine
end
section
open PySem PySem.W PyProof.Rows PySem.W.X
namespace Mine



section
variable {w : World} {mean : ExcName → Option Value} {mg mb : Str → Option Value}

theorem c_with_rex (news : List (Addr × Obj)) (p d : Addr) (t1 t2 t3 t4 t5 u1 u3 u5 : Tok) (X : Pfx) (o : Int) (t : Tok) :
    CP w mean mg mb 850 8500 165 [.ref p, .int o t] ((p, instObj 154 d) :: (d, dictOf (pfxEs w t1 t2 t3 t4 t5 X.seg X.data X.rep X.lock X.rex u1 u3 u5) 5) :: news)
      (fun v tl => ∃ q, v = .ref q ∧ PfxL w q ⟨X.seg, X.data, X.rep, X.lock, o⟩ tl) NoExc := by
  k_with_none
  w_top off
  k_with "exec Raise some none" => ((k_here; refine Raise_own rfl ?_))
  k_with "call ref" => ((k_here; (with_reducible show wpAny _ _ (call (Value.ref _) [Value.str _ _]) (RaisableO _ _) _ _); refine raise_call ?zhCq ?zXq rfl ?zdq ?zuq ?_; (case zhCq => first | exact .inl rfl | exact .inr rfl); (case zXq => k_in); (case zdq => exact Nat.le_of_ble_eq_true rfl); (case zuq => exact Nat.le_of_ble_eq_true rfl); intro e' h' tk' hm'; (try dsimp only at hm' ⊢)))
  k_with "leaving ref" => ((k_here; refine' leave_own ?zk1q ?zk0q ?zk2q ?zk3q ?_; (case zk0q => assumption); (case zk2q => assumption); (case zk1q => assumption); (case zk3q => k_asm); k_whole; intro h' S' U'; (try dsimp only at S' U' ⊢)))
  k_with "leaving ref" => ((k_here; refine' leave_on ?zk1q ?zk2q ?zk3q ?zk4q ?_; (case zk3q => assumption); (case zk2q => assumption); (case zk1q => assumption); (case zk4q => assumption); k_whole; intro h' S' U'; (try dsimp only at S' U' ⊢)))
  k_with "call ref" => ((k_here; (with_reducible show wpAny _ _ (call (Value.ref 101) [Value.int _ _]) _ _ _); (k_dflt ((refine' (CP.lower (c_sort_of _ _ _) ?zdq ?zuq) _ _ _ _ _ _ _ _ _ _ _ _ _ _ _ ?zBq ?zFq ?zXq ?zNq ?zTq ?zKq ?_ ?zexcq); (case zdq => exact Nat.le_of_ble_eq_true rfl); (case zuq => exact Nat.le_of_ble_eq_true rfl); (case zBq => k_asm); (case zFq => k_asm); (case zXq => k_asm); (case zNq => first | k_asm | exact News.tl1 (by k_asm) | exact News.tl1 (News.tl1 (by k_asm)) | exact News.tl1 (News.tl1 (News.tl1 (by k_asm)))); (case zTq => k_asm); (case zKq => first | exact rfl | assumption); (case zexcq => exact fun _ _ _ _ _ h => h.elim); intro v' tl' h' tk' F' N' hR'; obtain ⟨e1', t', e2'⟩ := hR'; subst e1'; subst e2'; (try dsimp only [List.nil_append, List.cons_append] at N' ⊢)))))
  k_with "call ref" => ((k_here; (with_reducible show wpAny _ _ (call (Value.ref 87) [Value.int _ _]) _ _ _); (k_dflt ((refine' (CP.lower (c_is_rex _ _ _) ?zdq ?zuq) _ _ _ _ _ _ _ _ _ _ _ _ _ _ _ ?zBq ?zFq ?zXq ?zNq ?zTq ?zKq ?_ ?zexcq); (case zdq => exact Nat.le_of_ble_eq_true rfl); (case zuq => exact Nat.le_of_ble_eq_true rfl); (case zBq => k_asm); (case zFq => k_asm); (case zXq => k_asm); (case zNq => first | k_asm | exact News.tl1 (by k_asm) | exact News.tl1 (News.tl1 (by k_asm)) | exact News.tl1 (News.tl1 (News.tl1 (by k_asm)))); (case zTq => k_asm); (case zKq => first | exact rfl | assumption); (case zexcq => exact fun _ _ _ _ _ h => h.elim); intro v' tl' h' tk' F' N' hR'; obtain ⟨e1', r', e2', hr'⟩ := hR'; subst e1'; subst e2'; (try dsimp only [List.nil_append, List.cons_append] at N' ⊢)))))
  refine unhook ?_
  k_fill
  intro _ _
  intro gd cn cs a ccd cl outer A₀ base h₀ L m s Q E hB hF hX hN hT hk hret hexc
  refine wpAny_call ?_
  k_dflt cell_enter
  repeat' (first | (k_unfold; (try dsimp only)) | walk1 | (dsimp only; walk1))

  all_goals (refine hret _ [_, _] _ _ (by assumption) (by assumption) ?_; exact ⟨_, rfl, PfxL.mk (by assumption)⟩)
end
/-- what read_prefixes reads -/
noncomputable def readF (X : Pfx) : List Int → Nat → Option (Pfx × Nat)
  | [], n => some (X, n)
  | o :: r, n =>
    if 64 ≤ o ∧ o ≤ 79 then (if 0 ≤ X.rex then none else readF ⟨X.seg, X.data, X.rep, X.lock, o⟩ r (n + 1))
    else if sortF o != "" then (match legF X o with | none => none | some Y => readF Y r (n + 1))
    else some (X, n)
noncomputable abbrev pfx0 : Pfx := ⟨"", false, 0, false, -1⟩
theorem item_b {prog : Program} {w : World} {A : Around} {E : Value → Shared → Prop} {s : Shared} {value slice : PySem.Expr} {b : Array UInt8} {t ui : Tok} {n : Nat} {Q : Value → Shared → Prop} (hfit : b.size ≤ 1099511627776) (h1 : (n : Int) < (b.size : Int))
    (h : ∀ o t' k, (KBw.bInts b)[n]? = some o → 0 ≤ o → o < 256 → Q (.int o t') { s with toks := k })
    (hs : subscripted slice false (.bytes b t) (.int n ui) = operate [.bytes b t, .int n ui] (getItem (.bytes b t) (.int n ui)) := by with_unfolding_all rfl)
    (ht : ∀ r, letTemporaryGo value (.bytes b t) r = pure () := by intro _; with_unfolding_all rfl) : wpAny (model prog w) A (subscriptTail value slice (.bytes b t) (.int n ui)) Q E s := by
  have hl := KBw.ints_length b
  refine KBw.item_K (hs := hs) (ht := ht) rfl (by rw [hl]; exact hfit) (Int.natCast_nonneg n) (by rw [hl]; exact h1) fun t' k a c => ?_
  have hn : n < (KBw.bInts b).length := by rw [hl]; exact Int.ofNat_lt.mp h1
  rw [Int.toNat_natCast] at a c ⊢
  rw [List.getD_eq_getElem?_getD, List.getElem?_eq_getElem hn] at a c ⊢
  exact h _ t' k (List.getElem?_eq_getElem hn) a c
theorem drop_at {xs : List Int} {n : Nat} {o : Int} (h : xs[n]? = some o) : xs.drop n = o :: xs.drop (n + 1) := by
  obtain ⟨hn, he⟩ := List.getElem?_eq_some_iff.mp h
  rw [List.drop_eq_getElem_cons hn, he]
theorem rd1 {X : Pfx} {xs : List Int} {n : Nat} {o : Int} {r : Bool} {R : Option (Pfx × Nat)} (hw : readF X (xs.drop n) n = R) (h : xs[n]? = some o) (hr : r = decide (64 ≤ o ∧ o ≤ 79)) (h1 : r = true) (h2 : 0 ≤ X.rex) : R = none := by
  rw [← hw, drop_at h, readF, if_pos (of_decide_eq_true (hr.symm.trans h1)), if_pos h2]
theorem rd2 {X : Pfx} {xs : List Int} {n : Nat} {o : Int} {r : Bool} {R : Option (Pfx × Nat)} (hw : readF X (xs.drop n) n = R) (h : xs[n]? = some o) (hr : r = decide (64 ≤ o ∧ o ≤ 79)) (h1 : r = true) (h2 : ¬ 0 ≤ X.rex) :
    readF ⟨X.seg, X.data, X.rep, X.lock, o⟩ (xs.drop (n + 1)) (n + 1) = R := by
  rw [← hw, drop_at h, readF, if_pos (of_decide_eq_true (hr.symm.trans h1)), if_neg h2]
theorem rd3 {X Y : Pfx} {xs : List Int} {n : Nat} {o : Int} {r : Bool} {R : Option (Pfx × Nat)} (hw : readF X (xs.drop n) n = R) (h : xs[n]? = some o) (hr : r = decide (64 ≤ o ∧ o ≤ 79)) (h1 : r = false) (h2 : (sortF o != Str.ofString "") = true) (h3 : legF X o = some Y) :
    readF Y (xs.drop (n + 1)) (n + 1) = R := by
  rw [← hw, drop_at h, readF, if_neg (of_decide_eq_false (hr.symm.trans h1)), if_pos h2, h3]
theorem rd4 {X : Pfx} {xs : List Int} {n : Nat} {o : Int} {r : Bool} {R : Option (Pfx × Nat)} (hw : readF X (xs.drop n) n = R) (h : xs[n]? = some o) (hr : r = decide (64 ≤ o ∧ o ≤ 79)) (h1 : r = false) (h2 : (sortF o != Str.ofString "") = true) (h3 : legF X o = none) :
    R = none := by
  rw [← hw, drop_at h, readF, if_neg (of_decide_eq_false (hr.symm.trans h1)), if_pos h2, h3]
theorem rd5 {X : Pfx} {xs : List Int} {n : Nat} {o : Int} {r : Bool} {R : Option (Pfx × Nat)} (hw : readF X (xs.drop n) n = R) (h : xs[n]? = some o) (hr : r = decide (64 ≤ o ∧ o ≤ 79)) (h1 : r = false) (h2 : (sortF o != Str.ofString "") = false) :
    R = some (X, n) := by
  rw [← hw, drop_at h, readF, if_neg (of_decide_eq_false (hr.symm.trans h1)), if_neg (by rw [h2]; exact Bool.false_ne_true)]
theorem rd6 {X : Pfx} {b : Array UInt8} {n : Nat} {R : Option (Pfx × Nat)} (hw : readF X ((KBw.bInts b).drop n) n = R) (h : ¬ (n : Int) < (b.size : Int)) : R = some (X, n) := by
  rw [← hw, List.drop_eq_nil_of_le (by rw [KBw.ints_length]; omega), readF]
theorem RaisedSN.sub {base G : Heap} {l : List Env} {e : Addr} {cls : Value} {news news' : List (Addr × Obj)} {h : Heap} (R : RaisedSN base G l e cls news' h) (k : ∀ p ∈ news, p ∈ news') : RaisedSN base G l e cls news h := by
  obtain ⟨B, a0, h1, h2, h3, h4⟩ := R
  exact ⟨B, a0, h1, h2, fun q hq => h3 q (k q hq), h4⟩
theorem mem2 {α : Type} {x y : α} {l : List α} : ∀ p ∈ l, p ∈ x :: y :: l := fun _ hp => .tail _ (.tail _ hp)
structure RdSt where
  q : Addr
  X : Pfx
  l : List (Addr × Obj)
  n : Nat
  t : Tok
theorem News.cut {h₀ h : Heap} {L : Addr} {x y x₁ x₂ : Addr × Obj} {news : List (Addr × Obj)} (N : News h₀ L h (x :: y :: x₁ :: x₂ :: news)) : News h₀ L h (x :: y :: news) := fun p hp => N p (by
  rcases List.mem_cons.mp hp with rfl | hp
  · exact .head _
  · rcases List.mem_cons.mp hp with rfl | hp
    · exact .tail _ (.head _)
    · exact .tail _ (.tail _ (.tail _ (.tail _ hp))))
theorem same3 {m₀ u : Str → Option Value} {v1 v2 v3 : Option Value} {w1 w2 w1' w2' : Value} {a f o z : Str} (h2 : ∀ p ∈ [(f, w1'), (a, w2')], z ≠ p.1) (h3 : [o, f, a].contains z = false) :
    (if z = a then v1 else if z = f then v2 else if z = o then v3 else kstB (fun z => if [o, f, a].contains z = true then u z else m₀ z) [(f, w1), (a, w2)] z) = m₀ z := by
  have hf : z ≠ f := h2 _ (.head _)
  have ha : z ≠ a := h2 _ (.tail _ (.head _))
  have ho : z ≠ o := fun e => by rw [e] at h3; simp at h3
  rw [if_neg ha, if_neg hf, if_neg ho]
  show (if z = f then some w1 else if z = a then some w2 else if [o, f, a].contains z = true then u z else m₀ z) = m₀ z
  rw [if_neg hf, if_neg ha, h3, if_neg Bool.false_ne_true]
noncomputable abbrev RdEnd (w : World) (b : Array UInt8) (R : Option (Pfx × Nat)) (news : List (Addr × Obj)) (h₀ : Heap) (L : Addr) (s : Shared) (m₀ : Str → Option Value) (c : RdSt) (s₂ : Shared) : Prop :=
  KswEnd h₀ L s (fun c : RdSt => c.l ++ news) (fun c => [(Str.ofString "found", Value.ref c.q), (Str.ofString "at", Value.int (c.n : Int) c.t)]) (fun c => PfxL w c.q c.X c.l) [Str.ofString "octet", Str.ofString "found", Str.ofString "at"] m₀
      (fun c => c.n ≤ b.size ∧ readF c.X ((KBw.bInts b).drop c.n) c.n = R) (fun c => b.size - c.n) c s₂
theorem rd_end {w : World} {b : Array UInt8} {R : Option (Pfx × Nat)} {news : List (Addr × Obj)} {h₀ h' : Heap} {L : Addr} {s : Shared} {m₀ m' : Str → Option Value} {q₀ : Addr} {X₀ : Pfx} {l₀ : List (Addr × Obj)} {n : Nat} {t₀ : Tok} {tk : Nat}
    {q d : Addr} {t1 t2 t3 t4 t5 u1 u3 u5 t : Tok} {sg : Str} {dt : Bool} {rp : Int} {lk : Bool} {rx : Int}
    {x₁ x₂ : Addr × Obj}
    (F : Fr h₀ L h' m') (N : News h₀ L h' ((q, instObj 154 d) :: (d, dictOf (pfxEs w t1 t2 t3 t4 t5 sg dt rp lk rx u1 u3 u5) 5) :: x₁ :: x₂ :: news)) (hlt : @LT.lt Nat _ d q)
    (hn : (n : Int) < (b.size : Int)) (hw : readF ⟨sg, dt, rp, lk, rx⟩ ((KBw.bInts b).drop (n + 1)) (n + 1) = R)
    (h1 : m' (Str.ofString "found") = some (.ref q)) (h2 : m' (Str.ofString "at") = some (.int ((n : Int) + 1) t))
    (hr : ∀ z, (∀ p ∈ [(Str.ofString "found", Value.ref q), (Str.ofString "at", Value.int ((n + 1 : Nat) : Int) t)], z ≠ p.1) → [Str.ofString "octet", Str.ofString "found", Str.ofString "at"].contains z = false → m' z = m₀ z) :
    RdEnd w b R news h₀ L s m₀ ⟨q₀, X₀, l₀, n, t₀⟩ { s with heap := h', toks := tk } := by
  refine ksw_end ⟨q, ⟨sg, dt, rp, lk, rx⟩, [(q, instObj 154 d), (d, dictOf (pfxEs w t1 t2 t3 t4 t5 sg dt rp lk rx u1 u3 u5) 5)], n + 1, t⟩ F (News.cut N) (fun p hp => hp) (PfxL.mk hlt) ?_ hr ⟨by show n + 1 ≤ b.size; omega, hw⟩ (by show b.size - (n + 1) < b.size - n; omega)
  intro p hp
  rcases List.mem_cons.mp hp with rfl | hp
  · exact h1
  · rcases List.mem_cons.mp hp with rfl | hp
    · exact h2
    · cases hp
section
variable {w : World} {mean : ExcName → Option Value} {mg mb : Str → Option Value}

theorem c_read (news : List (Addr × Obj)) (b : Array UInt8) (tb : Tok) (n0 : Nat) (t0 : Tok) (h0 : n0 ≤ b.size) (hsz : b.size ≤ 1099511627776) :
    CP w mean mg mb 800 8000 179 [.bytes b tb, .int n0 t0] news
      (fun v tl => ∃ tp q Y l n t c, v = .ref tp ∧ readF pfx0 ((KBw.bInts b).drop n0) n0 = some (Y, n) ∧ PfxL w q Y l ∧ tl = (tp, { cls := .type "tuple", data := .seq #[.ref q, .int n t] c }) :: l)
      (fun C => C = 64 ∧ readF pfx0 ((KBw.bInts b).drop n0) n0 = none) := by
  k_with_none
  w_top off
  k_with "exec Raise some none" => ((k_here; refine Raise_own rfl ?_))
  k_with "call ref" => ((k_here; (with_reducible show wpAny _ _ (call (Value.ref _) [Value.str _ _]) (RaisableO _ _) _ _); refine raise_call ?zhCq ?zXq rfl ?zdq ?zuq ?_; (case zhCq => first | exact .inl rfl | exact .inr rfl); (case zXq => k_in); (case zdq => exact Nat.le_of_ble_eq_true rfl); (case zuq => exact Nat.le_of_ble_eq_true rfl); intro e' h' tk' hm'; (try dsimp only at hm' ⊢)))
  k_with "leaving ref" => ((k_here; refine' leave_own ?zk1q ?zk0q ?zk2q ?zk3q ?_; (case zk0q => assumption); (case zk2q => assumption); (case zk1q => assumption); (case zk3q => k_asm); k_whole; intro h' S' U'; (try dsimp only at S' U' ⊢)))
  k_with "leaving ref" => ((k_here; refine' leave_on ?zk1q ?zk2q ?zk3q ?zk4q ?_; (case zk3q => assumption); (case zk2q => assumption); (case zk1q => assumption); (case zk4q => assumption); k_whole; intro h' S' U'; (try dsimp only at S' U' ⊢)))
  k_with "call ref" => ((k_here; (with_reducible show wpAny _ _ (call (Value.ref 101) [Value.int _ _]) _ _ _); (k_dflt ((refine' (CP.lower (c_sort_of _ _ _) ?zdq ?zuq) _ _ _ _ _ _ _ _ _ _ _ _ _ _ _ ?zBq ?zFq ?zXq ?zNq ?zTq ?zKq ?_ ?zexcq); (case zdq => exact Nat.le_of_ble_eq_true rfl); (case zuq => exact Nat.le_of_ble_eq_true rfl); (case zBq => k_asm); (case zFq => k_asm); (case zXq => k_asm); (case zNq => first | k_asm | exact News.tl1 (by k_asm) | exact News.tl1 (News.tl1 (by k_asm)) | exact News.tl1 (News.tl1 (News.tl1 (by k_asm)))); (case zTq => k_asm); (case zKq => first | exact rfl | assumption); (case zexcq => exact fun _ _ _ _ _ h => h.elim); intro v' tl' h' tk' F' N' hR'; obtain ⟨e1', t', e2'⟩ := hR'; subst e1'; subst e2'; (try dsimp only [List.nil_append, List.cons_append] at N' ⊢)))))
  k_with "call ref" => ((k_here; (with_reducible show wpAny _ _ (call (Value.ref 87) [Value.int _ _]) _ _ _); (k_dflt ((refine' (CP.lower (c_is_rex _ _ _) ?zdq ?zuq) _ _ _ _ _ _ _ _ _ _ _ _ _ _ _ ?zBq ?zFq ?zXq ?zNq ?zTq ?zKq ?_ ?zexcq); (case zdq => exact Nat.le_of_ble_eq_true rfl); (case zuq => exact Nat.le_of_ble_eq_true rfl); (case zBq => k_asm); (case zFq => k_asm); (case zXq => k_asm); (case zNq => first | k_asm | exact News.tl1 (by k_asm) | exact News.tl1 (News.tl1 (by k_asm)) | exact News.tl1 (News.tl1 (News.tl1 (by k_asm)))); (case zTq => k_asm); (case zKq => first | exact rfl | assumption); (case zexcq => exact fun _ _ _ _ _ h => h.elim); intro v' tl' h' tk' F' N' hR'; obtain ⟨e1', r', e2', hr'⟩ := hR'; subst e1'; subst e2'; (try dsimp only [List.nil_append, List.cons_append] at N' ⊢)))))
  k_with "call ref" => ((k_here; (with_reducible show wpAny _ _ (call (Value.ref 165) [Value.ref _, Value.int _ _]) _ _ _); (k_dflt ((refine' (CP.lower (c_with_rex _ _ _ _ _ _ _ _ _ _ _ _ _ _) ?zdq ?zuq) _ _ _ _ _ _ _ _ _ _ _ _ _ _ _ ?zBq ?zFq ?zXq ?zNq ?zTq ?zKq ?_ ?zexcq); (case zdq => exact Nat.le_of_ble_eq_true rfl); (case zuq => exact Nat.le_of_ble_eq_true rfl); (case zBq => k_asm); (case zFq => k_asm); (case zXq => k_asm); (case zNq => first | k_asm | exact News.tl1 (by k_asm) | exact News.tl1 (News.tl1 (by k_asm)) | exact News.tl1 (News.tl1 (News.tl1 (by k_asm)))); (case zTq => k_asm); (case zKq => first | exact rfl | assumption); (case zexcq => exact fun _ _ _ _ _ h => h.elim); intro v' tl' h' tk' F' N' hR'; obtain ⟨q', e1', hP'⟩ := hR'; subst e1'; obtain ⟨d', t1', t2', t3', t4', t5', u1', u3', u5', hlt', e2'⟩ := hP'; subst e2'; (try dsimp only [List.nil_append, List.cons_append] at N' ⊢)))))
  k_with "call ref" => ((k_here; (with_reducible show wpAny _ _ (call (Value.ref 172) [Value.ref _, Value.int _ _]) _ _ _); (k_dflt ((refine' (CP.lower (c_with_legacy _ _ _ _ _ _ _ _ _ _ _ _ _ _) ?zdq ?zuq) _ _ _ _ _ _ _ _ _ _ _ _ _ _ _ ?zBq ?zFq ?zXq ?zNq ?zTq ?zKq ?_ ?_); (case zdq => exact Nat.le_of_ble_eq_true rfl); (case zuq => exact Nat.le_of_ble_eq_true rfl); (case zBq => k_asm); (case zFq => k_asm); (case zXq => k_asm); (case zNq => first | k_asm | exact News.tl1 (by k_asm) | exact News.tl1 (News.tl1 (by k_asm)) | exact News.tl1 (News.tl1 (News.tl1 (by k_asm)))); (case zTq => k_asm); (case zKq => first | exact rfl | assumption); intro v' tl' h' tk' F' N' hR'; obtain ⟨q', Y', e1', hY', hP'⟩ := hR'; subst e1'; obtain ⟨d', t1', t2', t3', t4', t5', u1', u3', u5', hlt', e2'⟩ := hP'; subst e2'; (try dsimp only [List.nil_append, List.cons_append] at N' ⊢); rotate_left; intro C' e' h' tk' g' hC' FG' S' U'; obtain ⟨e1', hY'⟩ := hC'; subst e1'; (try dsimp only at S' U' ⊢); rotate_right))))
  k_with "call builtin:len" => ((k_here; (with_reducible show wpAny _ _ (call (Value.builtin "len") [Value.bytes _ _]) _ _ _); (refine len_bytes (by assumption) ?_)))
  k_with "subscriptTail" => ((k_here; (with_reducible show wpAny _ _ (subscriptTail _ _ (Value.bytes _ _) (Value.int _ _)) _ _ _); (refine item_b (by assumption) (by assumption) ?_); intro o' ot' ok' ho' ho1' ho2'; (try dsimp only)))
  k_with "exec While Compare cons nil" => (
    refine ksw_while (σ := RdSt) (fun c => c.l ++ news) (fun c => [(Str.ofString "found", Value.ref c.q), (Str.ofString "at", Value.int (c.n : Int) c.t)]) (fun c => PfxL w c.q c.X c.l) [Str.ofString "octet", Str.ofString "found", Str.ofString "at"]
      (fun c => c.n ≤ b.size ∧ readF c.X ((KBw.bInts b).drop c.n) c.n = readF pfx0 ((KBw.bInts b).drop n0) n0) (fun c => b.size - c.n) ⟨_, pfx0, [_, _], n0, t0⟩ (by assumption) (by assumption) (PfxL.mk (by assumption)) ?hk ⟨h0, rfl⟩ ?_
    case hk => kst_all
    rintro ⟨q, X, l, n, t⟩ u h tk hf ⟨hn, hw⟩ lF lN
    dsimp only at hf
    obtain ⟨d, t1, t2, t3, t4, t5, u1, u3, u5, hlt, hl⟩ := hf
    subst hl
    dsimp only [List.cons_append, List.nil_append] at lN lF hn hw ⊢)
  refine unhook ?_
  k_fill
  intro _ _
  intro gd cn cs a ccd cl outer A₀ base h₀ L m s Q E hB hF hX hN hT hk hret hexc
  refine wpAny_call ?_
  k_dflt cell_enter
  repeat' (first | (k_unfold; (try dsimp only)) | walk1 | (dsimp only; walk1))

  all_goals first
    | (refine hexc _ _ _ _ _ ⟨rfl, ?_⟩ (by assumption) (RaisedSN.sub (by assumption) mem2) (by assumption); first | exact rd1 (by assumption) (by assumption) (by assumption) (by assumption) (by assumption) | exact rd4 (by assumption) (by assumption) (by assumption) (by assumption) (by assumption) (by assumption))
    | (refine rd_end (by assumption) (by assumption) (by assumption) (by assumption) ?_ rfl rfl (by intro z h2 h3; exact same3 h2 h3); first | exact rd2 (by assumption) (by assumption) (by assumption) (by assumption) (by assumption) | exact rd3 (by assumption) (by assumption) (by assumption) (by assumption) (by assumption) (by assumption))
    | (refine hret _ [_, _, _] _ _ (by assumption) (by assumption) ?_; refine ⟨_, _, X, _, n, _, _, rfl, ?_, ⟨_, _, _, _, _, _, _, _, _, hlt, rfl⟩, rfl⟩; first | exact rd5 (by assumption) (by assumption) (by assumption) (by assumption) (by assumption) | exact rd6 (by assumption) (by assumption))
end
end Mine
end
section
open PySem PySem.W PyProof.Rows PySem.W.X
namespace Mine


section
variable {w : World} {mean : ExcName → Option Value} {mg mb : Str → Option Value}

theorem c_rex_octet (news : List (Addr × Obj)) (va vr vx vb : Int) (ta tr tx tb : Tok) (ha : va = 0 ∨ va = 1) (hr : vr = 0 ∨ vr = 1) (hx : vx = 0 ∨ vx = 1) (hb : vb = 0 ∨ vb = 1) :
    CP w mean mg mb 900 9000 73 [.int va ta, .int vr tr, .int vx tx, .int vb tb] news (fun v tl => tl = [] ∧ ∃ t, v = .int (64 + 8 * va + 4 * vr + 2 * vx + vb) t) NoExc := by
  k_with_none
  w_top off
  k_with "exec Raise some none" => ((k_here; refine Raise_own rfl ?_))
  k_with "call ref" => ((k_here; (with_reducible show wpAny _ _ (call (Value.ref _) [Value.str _ _]) (RaisableO _ _) _ _); refine raise_call ?zhCq ?zXq rfl ?zdq ?zuq ?_; (case zhCq => first | exact .inl rfl | exact .inr rfl); (case zXq => k_in); (case zdq => exact Nat.le_of_ble_eq_true rfl); (case zuq => exact Nat.le_of_ble_eq_true rfl); intro e' h' tk' hm'; (try dsimp only at hm' ⊢)))
  k_with "leaving ref" => ((k_here; refine' leave_own ?zk1q ?zk0q ?zk2q ?zk3q ?_; (case zk0q => assumption); (case zk2q => assumption); (case zk1q => assumption); (case zk3q => k_asm); k_whole; intro h' S' U'; (try dsimp only at S' U' ⊢)))
  k_with "exec For Name Tuple cons nil" => ((k_here; k_dflt (refine wpAny_For ?_)))
  have four : ∀ {i : Nat} {v : Value}, (#[Value.int va ta, .int vr tr, .int vx tx, .int vb tb] : Array Value)[i]? = some v → ∃ n t, v = .int n t ∧ (n = 0 ∨ n = 1) := by
    intro i v hv
    have hi : i < 4 := (Array.getElem?_eq_some_iff.mp hv).1
    match i, hi with
    | 0, _ => cases hv; exact ⟨_, _, rfl, ha⟩
    | 1, _ => cases hv; exact ⟨_, _, rfl, hr⟩
    | 2, _ => cases hv; exact ⟨_, _, rfl, hx⟩
    | 3, _ => cases hv; exact ⟨_, _, rfl, hb⟩
  k_with "pyIter ref" => (
    (rename News _ _ _ _ => nN)
    (rename Fr _ _ _ _ => nF)
    (k_dflt (refine for_tuple_still (items := #[Value.int va ta, .int vr tr, .int vx tx, .int vb tb]) rfl rfl ⟨_, rfl⟩ (.head _) nF nN ?_ ?_))
    intro i v u h tk I iob hv lF lN
    obtain ⟨n, t, hv', hn⟩ := four hv
    subst hv'
    rotate_left
    intro u h tk lF lN
    rotate_right)
  refine unhook ?_
  k_fill
  intro _ _
  intro gd cn cs a ccd cl outer A₀ base h₀ L m s Q E hB hF hX hN hT hk hret hexc
  refine wpAny_call ?_
  k_dflt cell_enter
  repeat' (first | (k_unfold; (try dsimp only)) | walk1 | (dsimp only; walk1))

  all_goals first
    | (exfalso; rcases hn with h | h <;> contradiction)
    | (exact still_end (by assumption) (by assumption))
    | (refine hret _ [] _ _ (by assumption) (by first | assumption | exact News.tl1 (by assumption)) ⟨rfl, _, rfl⟩)
end
end Mine
end
section
open PySem PySem.W PyProof.Rows PySem.W.X
namespace Mine

section
variable {w : World} {mean : ExcName → Option Value} {mg mb : Str → Option Value}

theorem c_heard (news : List (Addr × Obj)) (f : Addr) (oc : Value) (od : Option Addr) (fd : FuncData) (sl : Array (Option Value)) (hf : (f, (⟨oc, od, .func fd, sl⟩ : Obj)) ∈ news) (Ret : Value → List (Addr × Obj) → Prop) (Exc : Addr → Prop)
    (hask : CP w mean mg mb 750 7500 f [] news Ret Exc) (hE : ∀ C, Exc C → Own C) :
    CT w mean mg mb 700 7000 240 [.ref f] news (fun v tl => Ret v tl ∨ (v = .none ∧ tl = [] ∧ ∃ C, Exc C)) := by
  k_with_none
  w_top off
  k_with "LeaveT" => ((k_dflt (refine' leaveT_ ?zk1q ?zk2q ?zk3q ?_; (case zk1q => k_asm); (case zk2q => k_asm); (case zk3q => first | assumption | exact KtsTurn.refl); k_whole); intro kh kT kF kN kB kX kP kD; (try dsimp only)))
  k_with "callWith ref" => (k_dflt (refine callWith_F0 (FnAt.of (by k_asm) (by assumption)) ?_; (try dsimp only [List.nil_append])))
  k_with "call ref" => (
    (k_dflt (refine' (CP.lower hask ?d ?u) _ _ _ _ _ _ _ _ _ _ _ _ _ _ _ ?B ?F ?X ?N ?T ?K ?_ ?_))
    (case d => exact Nat.le_of_ble_eq_true rfl)
    (case u => exact Nat.le_of_ble_eq_true rfl)
    (case B => k_asm)
    (case F => k_asm)
    (case X => k_asm)
    (case N => k_asm)
    (case T => k_asm)
    (case K => first | exact rfl | assumption)
    intro v' tl' h' tk' F' N' hR'
    rotate_left
    intro C' e' h' tk' g' hC' FG' S' U'
    (rcases hE _ hC' with z | z <;> subst z)
    rotate_right)
  refine unhook ?_
  k_fill
  intro _ _
  intro gd cn cs a ccd cl outer A₀ base g₀ h₀ L m s Q E hB hF hX hN hT hXB hTB hD hT0 hk hret
  refine wpAny_call ?_
  k_dflt (refine' code_T0 ?k1 ?k2 ?k3 ?k4 ?k5 ?XB ?TB ?D ?T0 ?kA ?kF ?kK ?k6 ?k7 ?k8 ?k9 ?kB ?_ ?c2 ?c3 ?c4 ?c5; (case kA => exact rfl); (case kF => exact rfl); (case kK => assumption); (case k1 => exact hB); (case k2 => exact hF); (case k3 => exact hX); (case k4 => exact hN); (case k5 => exact hT); (case XB => exact hXB); (case TB => exact hTB); (case D => exact hD); (case T0 => exact hT0); (case k6 => k_is); (case k7 => k_is); (case k8 => ktr_room); (case k9 => exact BindsTo.of_eq rfl); (case kB => exact locs rfl); (case c2 => exact rfl); (case c3 => exact rfl); (case c4 => exact rfl); (case c5 => decide); k_whole; intro g' L' h' FG' F' N' B' X' T' D' l1; (try k_lt l1); (try dsimp only); (try k_lift B'); (try k_fold))

  repeat' (first | (k_unfold; (try dsimp only)) | walk1 | (dsimp only; walk1))

  all_goals first
    | exact hret _ _ _ _ _ (by assumption) (by assumption) (by assumption) (by assumption) (by assumption) (by assumption) (by assumption) (.inl (by assumption))
    | exact hret _ [] _ _ _ (by assumption) (by assumption) (by assumption) (by assumption) (by assumption) (by assumption) (by assumption) (.inr ⟨rfl, rfl, _, by assumption⟩)
end
end Mine
end
section
open PySem PySem.W PyProof.Rows PySem.W.X
namespace Mine

/-- a contract of a def that reads the script, a list of the ground -/
noncomputable abbrev CPs (w : World) (mean : ExcName → Option Value) (mg mb : Str → Option Value) (dp un : Nat) (f : Addr) (vs : List Value) (news : List (Addr × Obj)) (scr : Addr) (items : Array Value) (Ret : Value → List (Addr × Obj) → Prop) (Exc : Addr → Prop) : Prop :=
  ∀ (gd : Option (List Code)) (cn : Str) (cs : Scope) (a : Addr) (ccd : Value) (cl : List (Str × Addr)) (outer : List Env) (A₀ : Around) (base h₀ : Heap) (L : Addr) (m : Str → Option Value) (s : Shared) (Q E : Value → Shared → Prop),
    base.IsList scr items → Below A₀ base outer h₀ → Fr h₀ L s.heap m → (K2 w.params).In h₀ → News h₀ L s.heap news → Top VV LL mean mg mb h₀ → cs.kind = .function →
    RetP h₀ L m news s Q Ret → ExcP base h₀ L m (envX cn cs L a ccd cl) outer news s E Exc →
    wpAny (model PP w) (ktrTop dp un gd cn cs L a ccd cl outer) (call (.ref f) vs) Q E s
theorem CPs.lower {w : World} {mean : ExcName → Option Value} {mg mb : Str → Option Value} {dp un dp' un' : Nat} {f : Addr} {vs : List Value} {news : List (Addr × Obj)} {scr : Addr} {items : Array Value} {Ret : Value → List (Addr × Obj) → Prop} {Exc : Addr → Prop}
    (h : CPs w mean mg mb dp un f vs news scr items Ret Exc) (d : dp' ≤ dp) (u : un' ≤ un) : CPs w mean mg mb dp' un' f vs news scr items Ret Exc :=
  fun gd cn cs a ccd cl outer A₀ base h₀ L m s Q E h0 h1 h2 h3 h4 h5 h6 h7 h8 => wpAny_lower (h gd cn cs a ccd cl outer A₀ base h₀ L m s Q E h0 h1 h2 h3 h4 h5 h6 h7 h8) d u
section
variable {w : World} {mean : ExcName → Option Value} {mg mb : Str → Option Value}

theorem c_law_cell (news : List (Addr × Obj)) (scr : Addr) (its : List Value) (xs : List Int) (hI : IntsAre its xs) (hlen : xs.length ≤ 63) (o : Int) (t : Tok) (h0 : 0 ≤ o) (h1 : o ≤ 100) :
    CPs w mean mg mb 900 9000 200 [.ref scr, .int o t] news scr its.toArray (fun v tl => tl = [] ∧ ∃ z t', v = .int z t' ∧ 0 ≤ z) NoExc := by
  k_with_none
  w_top off
  refine unhook ?_
  k_fill
  intro _ _
  intro gd cn cs a ccd cl outer A₀ base h₀ L m s Q E hG hB hF hX hN hT hk hret hexc
  refine wpAny_call ?_
  k_dflt cell_enter
  repeat' (first | (k_unfold; (try dsimp only)) | walk1 | (dsimp only; walk1))

  all_goals exact hret _ [] _ _ (by assumption) (by assumption) ⟨rfl, _, _, rfl, Int.fmod_nonneg_of_pos _ (by decide)⟩
end
end Mine
end
section
open PySem PySem.W PyProof.Rows PySem.W.X
namespace Mine

theorem row_b (i : Nat) : 0 ≤ ([100, 101, 102, 102, 242, 243, 240, 72, 65, 144, 103, 62, 79, 64, 15] : List Int).getD i 0 ∧ ([100, 101, 102, 102, 242, 243, 240, 72, 65, 144, 103, 62, 79, 64, 15] : List Int).getD i 0 < 256 := by
  by_cases h : i < 15
  · have : ∀ j : Fin 15, 0 ≤ ([100, 101, 102, 102, 242, 243, 240, 72, 65, 144, 103, 62, 79, 64, 15] : List Int).getD j.1 0 ∧ ([100, 101, 102, 102, 242, 243, 240, 72, 65, 144, 103, 62, 79, 64, 15] : List Int).getD j.1 0 < 256 := by decide
    exact this ⟨i, h⟩
  · rw [List.getD_eq_getElem?_getD, List.getElem?_eq_none (by simp; omega)]
    exact ⟨by decide, by decide⟩
/-- a row that the law draws -/
noncomputable def RowL (r : Addr) (zs : List Int) (l : List (Addr × Obj)) : Prop :=
  ∃ ys, l = [(r, LCg.lst ys)] ∧ IntsAre ys zs ∧ zs.length ≤ 7 ∧ ∀ y ∈ zs, 0 ≤ y ∧ y < 256
theorem RowL.of {f : Int → Int} {z : Int} {r : Addr} {ys : List Value} (h : IntsAre ys (List.map f (rangeKs 0 (z.fmod 8 - 0).toNat))) (hf : ∀ k, 0 ≤ f k ∧ f k < 256) : ∃ zs, RowL r zs [(r, LCg.lst ys)] := by
  refine ⟨_, ys, rfl, h, ?_, fun y hy => ?_⟩
  · rw [List.length_map, rangeKs_length]
    have := Int.fmod_lt_of_pos z (b := 8) (by decide)
    omega
  · obtain ⟨k, _, rfl⟩ := List.mem_map.mp hy
    exact hf k
theorem News.drop3 {h₀ h : Heap} {L : Addr} {x a b c : Addr × Obj} {news : List (Addr × Obj)} (N : News h₀ L h (x :: a :: b :: c :: news)) : News h₀ L h ([x] ++ news) := fun p hp => N p (by
  rcases List.mem_cons.mp hp with rfl | hp
  · exact .head _
  · exact .tail _ (.tail _ (.tail _ (.tail _ hp))))
theorem lt_ne {L c : Nat} {news : List (Addr × Obj)} (l : ∀ p ∈ news, @LT.lt Nat _ p.1 L) (h : L ≤ c) : ∀ p ∈ news, p.1 ≠ c := fun p hp e => absurd (l p hp) (by rw [e]; exact Nat.not_lt.mpr h)

section
variable {w : World} {mean : ExcName → Option Value} {mg mb : Str → Option Value}

theorem c_law_row (news : List (Addr × Obj)) (scr : Addr) (its : List Value) (xs : List Int) (hI : IntsAre its xs) (hlen : xs.length ≤ 63) :
    CPs w mean mg mb 850 8500 245 [.ref scr] news scr its.toArray (fun v tl => ∃ r zs, v = .ref r ∧ RowL r zs tl) NoExc := by
  k_with_none
  w_top off
  k_with "k_all" => (exact lt_ne (by assumption) (by first | exact Nat.le_refl _ | exact Nat.le_add_right _ _ | omega))
  k_with "call ref" => (
    (with_reducible show wpAny _ _ (call (Value.ref 200) [Value.ref _, Value.int _ _]) _ _ _)
    (k_dflt (refine' (CPs.lower (c_law_cell _ _ _ _ hI hlen _ _ ?p1 ?p2) ?d ?u) _ _ _ _ _ _ _ _ _ _ _ _ _ _ _ ?G ?B ?F ?X ?N ?T ?K ?_ ?exc))
    (case d => exact Nat.le_of_ble_eq_true rfl)
    (case u => exact Nat.le_of_ble_eq_true rfl)
    (case p1 => omega)
    (case p2 => omega)
    (case G => assumption)
    (case B => k_asm)
    (case F => k_asm)
    (case X => k_asm)
    (case N => k_asm)
    (case T => k_asm)
    (case K => first | exact rfl | assumption)
    (case exc => exact fun _ _ _ _ _ h => h.elim)
    intro v' tl' h' tk' F' N' hR'
    obtain ⟨e1', z', t', e2', hz'⟩ := hR'
    subst e1'
    subst e2'
    (try dsimp only [List.nil_append, List.cons_append] at N' ⊢))
  refine unhook ?_
  k_fill
  intro _ _
  intro gd cn cs a ccd cl outer A₀ base h₀ L m s Q E hG hB hF hX hN hT hk hret hexc
  refine wpAny_call ?_
  k_dflt (refine' code_defC ?k1 ?k2 ?k3 ?k4 ?k5 ?kA ?kF ?kK ?k6 ?k7 ?k8 ?k9 ?kB ?kD ?_ ?c2 ?c3 ?c4; (case kA => exact rfl); (case kF => exact rfl); (case kK => assumption); (case k1 => exact hB); (case k2 => exact hF); (case k3 => exact hX); (case k4 => exact hN); (case k5 => exact hT); (case k6 => k_is); (case k7 => k_is); (case k8 => ktr_room); (case k9 => exact BindsTo.of_eq rfl); (case kB => exact rfl); (case kD => decide +kernel); (case c2 => exact rfl); (case c3 => exact rfl); (case c4 => exact rfl); k_whole; intro g' L' h' tk' cells' FG' F' N' Y' B' X' T' l1; (try k_lt l1); k_cells Y'; (try simp only [List.cons_append, List.nil_append] at N'); (try dsimp only); (try k_lift B'); (try k_fold))
  repeat' (first | (k_unfold; (try dsimp only)) | walk1 | (dsimp only; walk1))

  all_goals
    (rename IntsAre _ (List.map _ _) => hI9)
    obtain ⟨zs, hz⟩ := RowL.of hI9 (fun k => by first | exact row_b _ | (split <;> exact row_b _))
    exact hret _ [_] _ _ (by assumption) (News.drop3 (by assumption)) ⟨_, zs, rfl, hz⟩
end
end Mine
end
section
open PySem PySem.W PyProof.Rows PySem.W.X
namespace Mine

theorem sub_any {prog : Program} {w : World} {A : Around} {E : Value → Shared → Prop} {s : Shared} {value slice : PySem.Expr} {l : Addr} {items : Array Value} {k : Int} {u : Tok} {Q : Value → Shared → Prop} (hl : s.heap.IsList l items)
    (h0 : 0 ≤ k) (h1 : k < (items.size : Int)) (hsz : items.size ≤ 1000) (h : ∀ v, v ∈ items.toList → Q v s)
    (hs : subscripted slice false (.ref l) (.int k u) = operate [.ref l, .int k u] (getItem (.ref l) (.int k u)) := by with_unfolding_all rfl) :
    wpAny (model prog w) A (subscriptTail value slice (.ref l) (.int k u)) Q E s := by
  have hk : k.toNat < items.size := by omega
  exact tail_any hl.typeIs slot_list_getitem.lookup (wpAny_getItem_list hl h0 (by omega) (Array.getElem?_eq_getElem hk) (h _ (Array.mem_toList_iff.mpr (Array.getElem_mem hk)))) hs
theorem list_in {h₀ h : Heap} {L l : Addr} {news : List (Addr × Obj)} {items : Array Value} {n : Nat} {dd : Option Addr} {sl : Array (Option Value)} (N : News h₀ L h news) (hm : (l, ({ cls := .type "list", dict := dd, data := .seq items n, slots := sl } : Obj)) ∈ news) : h.IsList l items := ⟨_, (N _ hm).1, rfl, _, rfl⟩
theorem strs_in {l : List Value} {S : List Str} {v : Value} (h : v ∈ l) (q : ∀ v ∈ l, ∃ x t, v = .str x t ∧ x ∈ S) : ∃ x t, v = .str x t ∧ x ∈ S := q v h
theorem ints_in {l : List Value} {S : List Int} {v : Value} (h : v ∈ l) (q : ∀ v ∈ l, ∃ x t, v = .int x t ∧ x ∈ S) : ∃ x t, v = .int x t ∧ x ∈ S := q v h
theorem News.pick1 {h₀ h : Heap} {L : Addr} {x : Addr × Obj} {l news : List (Addr × Obj)} (N : News h₀ L h l) (hx : x ∈ l) (hn : ∀ p ∈ news, p ∈ l) : News h₀ L h ([x] ++ news) := fun p hp => N p (by
  rcases List.mem_cons.mp hp with rfl | hp
  · exact hx
  · exact hn p hp)
/-- parts that the law draws -/
noncomputable def PartsL (tp : Addr) (pl : Str) (d : Bool) (rp : Int) (lk : Bool) (rx : Int) (l : List (Addr × Obj)) : Prop :=
  ∃ t1 t3 t5 c, l = [(tp, { cls := .type "tuple", data := .seq #[.str pl t1, .bool d, .int rp t3, .bool lk, .int rx t5] c })]
section
variable {w : World} {mean : ExcName → Option Value} {mg mb : Str → Option Value}

theorem c_law_parts (news : List (Addr × Obj)) (scr : Addr) (its : List Value) (xs : List Int) (hI : IntsAre its xs) (hlen : xs.length ≤ 63) :
    CPs w mean mg mb 850 8500 259 [.ref scr] news scr its.toArray (fun v tl => ∃ tp pl d rp lk rx, v = .ref tp ∧ PartsL tp pl d rp lk rx tl ∧ pl ∈ [Str.ofString "", Str.ofString "fs", Str.ofString "gs", Str.ofString "cs"] ∧ rp ∈ [0, 242, 243, 240, 1] ∧ rx ∈ [-1, 64, 72, 79, 80, 63]) NoExc := by
  k_with_none
  w_top off
  k_with "subscriptTail" => ((k_here; (with_reducible show wpAny _ _ (subscriptTail _ _ (Value.ref _) (Value.int (Int.fmod _ _) _)) _ _ _); k_dflt (refine' sub_any (list_in (by k_asm) (by k_mem)) ?zh0q ?zh1q ?zhzq ?_; (case zh0q => exact Int.fmod_nonneg_of_pos _ (by decide)); (case zh1q => exact Int.fmod_lt_of_pos _ (by decide)); (case zhzq => exact Nat.le_of_ble_eq_true rfl)); intro v' hv'))
  k_with "call ref" => ((k_here; (k_dflt show wpAny _ _ (call (Value.ref 200) [Value.ref _, Value.int _ _]) _ _ _); (k_dflt ((refine' (CPs.lower (c_law_cell _ _ _ _ ?zi1q ?zi2q _ _ ?zp1q ?zp2q) ?zdq ?zuq) _ _ _ _ _ _ _ _ _ _ _ _ _ _ _ ?zGq ?zBq ?zFq ?zXq ?zNq ?zTq ?zKq ?_ ?zexcq); (case zdq => exact Nat.le_of_ble_eq_true rfl); (case zuq => exact Nat.le_of_ble_eq_true rfl); (case zBq => k_asm); (case zGq => assumption); (case zi1q => assumption); (case zi2q => omega); (case zp1q => omega); (case zp2q => omega); (case zFq => k_asm); (case zXq => k_asm); (case zNq => k_asm); (case zTq => k_asm); (case zKq => first | exact rfl | assumption); (case zexcq => exact fun _ _ _ _ _ h => h.elim); intro v' tl' h' tk' F' N' hR'; obtain ⟨e1', z', t', e2', hz'⟩ := hR'; subst e1'; subst e2'; (try dsimp only [List.nil_append, List.cons_append] at N' ⊢)))))
  k_with "eval Call" => ((k_here; (with_reducible show wpAny _ _ (eval (PySem.Expr.Call (PySem.Expr.Name _ _) [PySem.Expr.Name _ _, PySem.Expr.Constant _ _ _] _ _) _) _ _ _); k_dflt (refine Call_ ?_)))
  refine unhook ?_
  k_fill
  intro _ _
  intro gd cn cs a ccd cl outer A₀ base h₀ L m s Q E hG hB hF hX hN hT hk hret hexc
  refine wpAny_call ?_
  k_dflt cell_enter
  repeat' (first | (k_unfold; (try dsimp only)) | walk1 | (dsimp only; walk1))

  (rename _ ∈ Array.toList #[Value.str _ _, _, _, _, _, _] => m1)
  (rename _ ∈ Array.toList #[Value.int 0 _, _, _, _, _, _, _] => m2)
  (rename _ ∈ Array.toList #[Value.int (-1) _, _, _, _, _, _, _] => m3)
  obtain ⟨x1, t1, e1, q1⟩ := strs_in (S := [Str.ofString "", Str.ofString "fs", Str.ofString "gs", Str.ofString "cs"]) m1 (by repeat' (first | exact List.forall_mem_nil _ | refine List.forall_mem_cons.mpr ⟨⟨_, _, rfl, by k_mem⟩, ?_⟩))
  obtain ⟨x2, t2, e2, q2⟩ := ints_in (S := [0, 242, 243, 240, 1]) m2 (by repeat' (first | exact List.forall_mem_nil _ | refine List.forall_mem_cons.mpr ⟨⟨_, _, rfl, by k_mem⟩, ?_⟩))
  obtain ⟨x3, t3, e3, q3⟩ := ints_in (S := [-1, 64, 72, 79, 80, 63]) m3 (by repeat' (first | exact List.forall_mem_nil _ | refine List.forall_mem_cons.mpr ⟨⟨_, _, rfl, by k_mem⟩, ?_⟩))
  subst e1 e2 e3
  exact hret _ [_] _ _ (by assumption) (News.pick1 (by assumption) (.head _) (fun p hp => by repeat' (first | exact hp | apply List.Mem.tail))) ⟨_, x1, _, x2, _, x3, rfl, ⟨t1, t2, t3, _, rfl⟩, q1, q2, q3⟩
end
end Mine
end
section
open PySem PySem.W PyProof.Rows PySem.W.X
namespace Mine


theorem bit01 (z : Int) : z.fmod 2 = 0 ∨ z.fmod 2 = 1 := by rw [Int.fmod_eq_emod_of_nonneg _ (by decide)]; omega
theorem sort_norex (o : Int) : (sortF o == Str.ofString "rex") = false := by
  unfold sortF
  repeat' split
  all_goals decide
theorem lsort_rex (o : Int) : (lsortF o == Str.ofString "rex") = decide (64 ≤ o ∧ o ≤ 79) := by
  unfold lsortF
  by_cases h : 64 ≤ o ∧ o ≤ 79
  · rw [if_pos h, decide_eq_true h]; decide
  · rw [if_neg h, decide_eq_false h]; exact sort_norex o
theorem sort_mid {o : Int} (h : 64 ≤ o ∧ o ≤ 79) : sortF o = Str.ofString "" := by
  obtain ⟨h1, h2⟩ := h
  have : ∀ j : Fin 16, sortF (64 + (j.1 : Int)) = Str.ofString "" := by decide
  have z := this ⟨(o - 64).toNat, by omega⟩
  rw [show (64 + (((o - 64).toNat : Nat) : Int)) = o from by omega] at z
  exact z
section
variable {o : Int} {r b : Bool}
theorem oe1 (x : (lsortF o == Str.ofString "rex") = true) (y : (sortF o != Str.ofString "") = true) : False := by
  rw [lsort_rex] at x
  rw [sort_mid (of_decide_eq_true x)] at y
  exact absurd y (by decide)
theorem oe2 (hr : r = decide (64 ≤ o ∧ o ≤ 79)) (y : (r != (lsortF o == Str.ofString "rex")) = true) : False := by
  rw [lsort_rex, hr, bne_self_eq_false] at y
  exact Bool.noConfusion y
theorem oe3 (x : (lsortF o == Str.ofString "rex") = true) (y : 64 + 8 * (o.fdiv 8).fmod 2 + 4 * (o.fdiv 4).fmod 2 + 2 * (o.fdiv 2).fmod 2 + o.fmod 2 ≠ o) : False := by
  rw [lsort_rex] at x
  have h := of_decide_eq_true x
  refine y ?_
  rw [Int.fdiv_eq_ediv_of_nonneg _ (by decide), Int.fdiv_eq_ediv_of_nonneg _ (by decide), Int.fdiv_eq_ediv_of_nonneg _ (by decide), Int.fmod_eq_emod_of_nonneg _ (by decide), Int.fmod_eq_emod_of_nonneg _ (by decide), Int.fmod_eq_emod_of_nonneg _ (by decide), Int.fmod_eq_emod_of_nonneg _ (by decide)]
  omega
theorem oe7 (x : (lsortF o == Str.ofString "rex") = false) (y : (sortF o != lsortF o) = true) : False := by
  rw [lsort_rex] at x
  unfold lsortF at y
  rw [if_neg (of_decide_eq_false x), bne_self_eq_false] at y
  exact Bool.noConfusion y
end
theorem News.pick0 {h₀ h : Heap} {L : Addr} {l news : List (Addr × Obj)} (N : News h₀ L h l) (hn : ∀ p ∈ news, p ∈ l) : News h₀ L h ([] ++ news) := fun p hp => N p (hn p hp)
section
variable {w : World} {mean : ExcName → Option Value} {mg mb : Str → Option Value}

theorem c_octet_right (news : List (Addr × Obj)) (o : Int) (t : Tok) (h0 : 0 ≤ o) (h1 : o < 256) :
    CP w mean mg mb 850 8500 273 [.int o t] news (fun v tl => tl = [] ∧ v = .bool true) NoExc := by
  k_with_none
  w_top off
  k_with "exec Raise some none" => ((k_here; refine Raise_own rfl ?_))
  k_with "call ref" => ((k_here; (with_reducible show wpAny _ _ (call (Value.ref _) [Value.str _ _]) (RaisableO _ _) _ _); refine raise_call ?zhCq ?zXq rfl ?zdq ?zuq ?_; (case zhCq => first | exact .inl rfl | exact .inr rfl); (case zXq => k_in); (case zdq => exact Nat.le_of_ble_eq_true rfl); (case zuq => exact Nat.le_of_ble_eq_true rfl); intro e' h' tk' hm'; (try dsimp only at hm' ⊢)))
  k_with "leaving ref" => ((k_here; refine' leave_own ?zk1q ?zk0q ?zk2q ?zk3q ?_; (case zk0q => assumption); (case zk2q => assumption); (case zk1q => assumption); (case zk3q => k_asm); k_whole; intro h' S' U'; (try dsimp only at S' U' ⊢)))
  k_with "call ref" => ((k_here; (with_reducible show wpAny _ _ (call (Value.ref 101) [Value.int _ _]) _ _ _); (k_dflt ((refine' (CP.lower (c_sort_of _ _ _) ?zdq ?zuq) _ _ _ _ _ _ _ _ _ _ _ _ _ _ _ ?zBq ?zFq ?zXq ?zNq ?zTq ?zKq ?_ ?zexcq); (case zdq => exact Nat.le_of_ble_eq_true rfl); (case zuq => exact Nat.le_of_ble_eq_true rfl); (case zBq => k_asm); (case zFq => k_asm); (case zXq => k_asm); (case zNq => first | k_asm | exact News.tl1 (by k_asm) | exact News.tl1 (News.tl1 (by k_asm)) | exact News.tl1 (News.tl1 (News.tl1 (by k_asm)))); (case zTq => k_asm); (case zKq => first | exact rfl | assumption); (case zexcq => exact fun _ _ _ _ _ h => h.elim); intro v' tl' h' tk' F' N' hR'; obtain ⟨e1', t', e2'⟩ := hR'; subst e1'; subst e2'; (try dsimp only [List.nil_append, List.cons_append] at N' ⊢)))))
  k_with "call ref" => ((k_here; (with_reducible show wpAny _ _ (call (Value.ref 87) [Value.int _ _]) _ _ _); (k_dflt ((refine' (CP.lower (c_is_rex _ _ _) ?zdq ?zuq) _ _ _ _ _ _ _ _ _ _ _ _ _ _ _ ?zBq ?zFq ?zXq ?zNq ?zTq ?zKq ?_ ?zexcq); (case zdq => exact Nat.le_of_ble_eq_true rfl); (case zuq => exact Nat.le_of_ble_eq_true rfl); (case zBq => k_asm); (case zFq => k_asm); (case zXq => k_asm); (case zNq => first | k_asm | exact News.tl1 (by k_asm) | exact News.tl1 (News.tl1 (by k_asm)) | exact News.tl1 (News.tl1 (News.tl1 (by k_asm)))); (case zTq => k_asm); (case zKq => first | exact rfl | assumption); (case zexcq => exact fun _ _ _ _ _ h => h.elim); intro v' tl' h' tk' F' N' hR'; obtain ⟨e1', r', e2', hr'⟩ := hR'; subst e1'; subst e2'; (try dsimp only [List.nil_append, List.cons_append] at N' ⊢)))))
  k_with "call ref" => ((k_here; (with_reducible show wpAny _ _ (call (Value.ref 207) [Value.int _ _]) _ _ _); (k_dflt ((refine' (CP.lower (c_law_sort _ _ _) ?zdq ?zuq) _ _ _ _ _ _ _ _ _ _ _ _ _ _ _ ?zBq ?zFq ?zXq ?zNq ?zTq ?zKq ?_ ?zexcq); (case zdq => exact Nat.le_of_ble_eq_true rfl); (case zuq => exact Nat.le_of_ble_eq_true rfl); (case zBq => k_asm); (case zFq => k_asm); (case zXq => k_asm); (case zNq => first | k_asm | exact News.tl1 (by k_asm) | exact News.tl1 (News.tl1 (by k_asm)) | exact News.tl1 (News.tl1 (News.tl1 (by k_asm)))); (case zTq => k_asm); (case zKq => first | exact rfl | assumption); (case zexcq => exact fun _ _ _ _ _ h => h.elim); intro v' tl' h' tk' F' N' hR'; obtain ⟨e1', t', e2'⟩ := hR'; subst e1'; subst e2'; (try dsimp only [List.nil_append, List.cons_append] at N' ⊢)))))
  k_with "call ref" => ((k_here; (with_reducible show wpAny _ _ (call (Value.ref 73) [Value.int _ _, Value.int _ _, Value.int _ _, Value.int _ _]) _ _ _); (k_dflt ((refine' (CP.lower (c_rex_octet _ _ _ _ _ _ _ _ _ ?zp1q ?zp2q ?zp3q ?zp4q) ?zdq ?zuq) _ _ _ _ _ _ _ _ _ _ _ _ _ _ _ ?zBq ?zFq ?zXq ?zNq ?zTq ?zKq ?_ ?zexcq); (case zdq => exact Nat.le_of_ble_eq_true rfl); (case zuq => exact Nat.le_of_ble_eq_true rfl); (case zp1q => exact bit01 _); (case zp2q => exact bit01 _); (case zp3q => exact bit01 _); (case zp4q => exact bit01 _); (case zBq => k_asm); (case zFq => k_asm); (case zXq => k_asm); (case zNq => first | k_asm | exact News.tl1 (by k_asm) | exact News.tl1 (News.tl1 (by k_asm)) | exact News.tl1 (News.tl1 (News.tl1 (by k_asm)))); (case zTq => k_asm); (case zKq => first | exact rfl | assumption); (case zexcq => exact fun _ _ _ _ _ h => h.elim); intro v' tl' h' tk' F' N' hR'; obtain ⟨e1', t', e2'⟩ := hR'; subst e1'; subst e2'; (try dsimp only [List.nil_append, List.cons_append] at N' ⊢)))))
  refine unhook ?_
  k_fill
  intro _ _
  intro gd cn cs a ccd cl outer A₀ base h₀ L m s Q E hB hF hX hN hT hk hret hexc
  refine wpAny_call ?_
  k_dflt cell_enter
  repeat' (first | (k_unfold; (try dsimp only)) | walk1 | (dsimp only; walk1))

  all_goals first
    | exact (oe1 (by assumption) (by assumption)).elim
    | exact (oe2 (by assumption) (by assumption)).elim
    | exact (oe3 (by assumption) (by assumption)).elim
    | exact (oe7 (by assumption) (by assumption)).elim
    | (refine hret _ [] _ _ (by assumption) (News.pick0 (by assumption) (fun p hp => by repeat' (first | exact hp | apply List.Mem.tail))) ⟨rfl, ?_⟩; rw [beq_self_eq_true])
end
end Mine
end
section
open PySem PySem.W PyProof.Rows PySem.Spec PySem.Calls
namespace Mine
theorem keys_miss : typeLookup (.type "list") "keys" = pure none := am_miss_of_fast (by kernel_rfl)
/-- a list has no «keys» -/
theorem keys_of_list {prog : Program} {w : World} {A : Around} {E : Value → Shared → Prop} {s : Shared} {a : Addr} {xs : Array Value} {k : Nat} {sl : Array (Option Value)} {Q : Option Value → Shared → Prop}
    (hx : s.heap.get? a = some { cls := .type "list", dict := none, data := .seq xs k, slots := sl }) (hA : A.handled = none)
    (h : ∀ h' tk, (∀ b o, s.heap.get? b = some o → h'.get? b = some o) → Q none { s with heap := h', toks := tk }) :
    wpAny (model prog w) A (getAttr? (.ref a) "keys") Q E s := by
  obtain ⟨hp, g, d, tk, os⟩ := s
  have hT : ∀ tk', (⟨hp, g, d, tk', os⟩ : Shared).TypeIs (.ref a) "list" := fun _ => ⟨_, hx, rfl⟩
  have f1 := sub_AttributeError
  have f3 := F.slot_list_getattribute.lookup
  have f4 := F.slot_list_getattribute.bind (.ref a)
  have f5 := am_list_getattr_none
  unfold getAttr? getAttrBy? getAttrBy
  repeat (any_goals (first | assumption | exact hT _ | ((with_reducible show wpAny _ _ (call (Value.builtin "list.__getattribute__") _ _) _ _ _); refine call_meets F.slot_list_getattribute (hT _) am_entry_list_getattribute (F.args_list_getattribute_2 _ _) (meets_getattribute_miss_list a xs k sl "keys" _ keys_miss (by decide +kernel)) ⟨hx, hA, fun h' tk' e hx' => ?_⟩) | wp_step))
  obtain ⟨t', u', he⟩ := hx'.there
  show wpAny _ _ (getattributeRaised _ _ _ _ _ _ _) _ _ _
  unfold getattributeRaised
  repeat (any_goals (first | assumption | wp_step))
  exact h _ _ hx'.keeps
theorem entry_upd : entryFor table "dict.update.loop" = some Builtin.«dict.update.loop» := entryFor_of_tree (by kernel_rfl)
theorem plain_upd : plainId "dict.update.loop" = true := by decide +kernel
section
variable {prog : Program} {w : World} {K : Type} [DecidableEq K] {knd : KeyKind prog w K} {A : Around} {s : Shared} {R : Result → Shared → Prop} {kvs : List (K × Value)}
theorem pair_items {E : Value → Shared → Prop} {a : Addr} {x y : Value} {Q : List Value → Shared → Prop} (ho : s.heap.get? a = some { cls := .type "tuple", data := .seq #[x, y] }) (h : Q [x, y] s) :
    wpAny (model prog w) A (Builtin.Dict.pairItems (.ref a)) Q E s := by
  unfold Builtin.Dict.pairItems
  obtain ⟨hp, g, d, tk, os⟩ := s
  have hT : (⟨hp, g, d, tk, os⟩ : Shared).TypeIs (.ref a) "tuple" := ⟨_, ho, rfl⟩
  repeat (any_goals (first | assumption | wp_step))
theorem upd_loop {d I S : Addr} {as : List Addr} {acc : Array Value} {c : Nat} {h₁ : Heap} (hh : A.handled = none) (hS1 : S ≠ d) (hS2 : S ≠ I) (hdI : d ≠ I) (hacc : acc.toList = as.map Value.ref) (hlen : as.length = kvs.length) (hn : (kvs.map (·.1)).Nodup) (hsz : kvs.length ≤ 1000)
    (hS : h₁.get? S = some { cls := .type "list", dict := none, data := .seq acc c, slots := #[] })
    (hp : ∀ (j : Nat) (a : Addr), as[j]? = some a → a ≠ d ∧ a ≠ I ∧ ∃ key k x, kvs[j]? = some (k, x) ∧ knd.is k key = true ∧ h₁.get? a = some { cls := .type "tuple", data := .seq #[key, x] })
    (hR : ∀ h' tk, h'.DictOf knd d kvs → (∀ b o, b ≠ d → b ≠ I → h₁.get? b = some o → h'.get? b = some o) → R (.ok (.ret .none)) { s with heap := h', toks := tk }) :
    ∀ (k i : Nat) (h : Heap) (tk : Nat), kvs.length - i = k → i ≤ kvs.length → h.DictOf knd d (kvs.take i) → h.IsListIter I S i → (∀ b o, b ≠ d → b ≠ I → h₁.get? b = some o → h.get? b = some o) →
      codeAny (model prog w) A (.builtin "dict.update.loop" ⟨[.ref d, .ref I, .int (i : Int) 0, .none], []⟩) R { s with heap := h, toks := tk } := by
  intro k
  induction k with
  | zero =>
    intro i h tk hk hi hD hI hkp
    have hin : i = kvs.length := by omega
    subst hin
    refine codeAny_builtin entry_upd ?_
    rw [Around.under_plainId plain_upd _]
    show wpAny _ A.in1 (pyNext (.ref I) >>= _) _ _ _
    have hsz2 : acc.size = kvs.length := by rw [← Array.length_toList, hacc, List.length_map, hlen]
    refine wpAny_bind (wpAny_pyNext_list_end (s := { s with heap := h, toks := tk }) (A := A.in1) hh hI ⟨_, hkp _ _ hS1 hS2 hS, rfl, _, rfl⟩ (by rw [Array.getElem?_eq_none]; omega) fun h' he => ?_)
    rw [List.take_length] at hD
    exact wpAny_bind (wpAny_pure (wpAny_pure (hR h' tk (hD.extBut he hdI) fun b o h1 h2 e => he b o h2 (hkp b o h1 h2 e))))
  | succ k ih =>
    intro i h tk hk hi hD hI hkp
    have hlt : i < kvs.length := by omega
    obtain ⟨a, ha⟩ : ∃ a, as[i]? = some a := ⟨as[i], List.getElem?_eq_getElem (by omega)⟩
    obtain ⟨ad, aI, key, kk, x, hx, hkey, ht⟩ := hp i a ha
    have hax : acc[i]? = some (Value.ref a) := by rw [← Array.getElem?_toList, hacc, List.getElem?_map, ha]; rfl
    refine codeAny_builtin entry_upd ?_
    rw [Around.under_plainId plain_upd _]
    show wpAny _ A.in1 (pyNext (.ref I) >>= _) _ _ _
    refine wpAny_bind (wpAny_pyNext_list_item (s := { s with heap := h, toks := tk }) (A := A.in1) hI ⟨_, hkp _ _ hS1 hS2 hS, rfl, _, rfl⟩ hax fun h' hI' hs => ?_)
    have hD' : h'.DictOf knd d (kvs.take i) := hD.sameBut hs hdI
    have ht' : h'.get? a = some { cls := .type "tuple", data := .seq #[key, x] } := (hs.2 a aI).trans (hkp a _ ad aI ht)
    show wpAny _ A.in1 (holding [Value.ref a] _ >>= _) _ _ _
    refine wpAny_bind (wpAny_holding (wpAny_bind (wpAny_tryCatch (pair_items ht' ?_))))
    refine wpAny_holding (wpAny_dictSet_pairs (knd := knd) hkey hD' (fun h₂ hD₂ hs₂ => ?_) (by rw [List.length_take, sizeLine_eq]; omega))
    have habs : valueAt (kvs.take i) kk = none := by
      have hmap : kvs.map (·.1) = (kvs.take i).map (·.1) ++ (kvs.drop i).map (·.1) := by rw [← List.map_append, List.take_append_drop]
      have hin : kk ∈ (kvs.drop i).map (·.1) := by
        obtain ⟨hi', he⟩ := List.getElem?_eq_some_iff.mp hx
        rw [List.drop_eq_getElem_cons hi', he]
        exact .head _
      rw [hmap] at hn
      cases e : valueAt (kvs.take i) kk with
      | none => rfl
      | some v =>
        have hs : (valueAt (kvs.take i) kk).isSome = true := by rw [e]; rfl
        rw [valueAt_isSome_eq_any] at hs
        obtain ⟨q, hq, hqk⟩ := List.any_eq_true.mp hs
        exact absurd (of_decide_eq_true hqk) ((List.nodup_append.mp hn).2.2 q.1 (List.mem_map_of_mem hq) kk hin)
    rw [stored_absent habs] at hD₂
    have hst : kvs.take i ++ [(kk, x)] = kvs.take (i + 1) := by rw [List.take_add_one, hx]; rfl
    rw [hst] at hD₂
    refine wpAny_pure ⟨plainId_quiet plain_upd _, ?_⟩
    have z := ih (i + 1) h₂ (tk + 1) (by omega) hlt hD₂ ⟨_, (hs₂.2 I (Ne.symm hdI)).trans hI'.choose_spec.1, hI'.choose_spec.2⟩ fun b o h1 h2 e => (hs₂.2 b h1).trans ((hs.2 b h2).trans (hkp b o h1 h2 e))
    exact z
/-- dict(list(held.items())) -/
theorem dict_of_pairs {E : Value → Shared → Prop} {S lo : Addr} {as : List Addr} {acc : Array Value} {c : Nat} {Q : Value → Shared → Prop} (hh : A.handled = none) (hacc : acc.toList = as.map Value.ref) (hlen : as.length = kvs.length) (hn : (kvs.map (·.1)).Nodup) (hsz : kvs.length ≤ 1000)
    (hS : s.heap.get? S = some { cls := .type "list", dict := none, data := .seq acc c, slots := #[] }) (hG : KdxG knd kvs lo s.heap as)
    (h : ∀ h' tk, h'.DictOf knd s.heap.objs.size kvs → (∀ b o, s.heap.get? b = some o → h'.get? b = some o) → Q (.ref s.heap.objs.size) { s with heap := h', toks := tk }) :
    wpAny (model prog w) A (call (.type "dict") [.ref S]) Q E s := by
  refine callType_codes (Q₁ := fun obj s₁ => obj = .ref s.heap.objs.size ∧ s₁ = { s with heap := s.heap.push { cls := .type "dict", data := .dict #[] } }) F.kt_called_dict (F.kt_typeCall_dict_1 _) F.entry_dict_init (kt_code_dict_new _ ⟨rfl, rfl⟩) ?_
  rintro obj s₁ ⟨rfl, rfl⟩
  have hnew : (s.heap.push { cls := .type "dict", data := .dict #[] }).DictOf knd s.heap.objs.size [] := Heap.DictOf.new s.heap
  have hS' : (s.heap.push { cls := .type "dict", data := .dict #[] }).get? S = some { cls := .type "list", dict := none, data := .seq acc c, slots := #[] } := Heap.get?_push_of_some _ hS
  have lt : ∀ b o, s.heap.get? b = some o → b < s.heap.objs.size := fun b o e => Heap.lt_size e
  refine ⟨hnew.typeIs, F.args_dict_init_2 _ _, ?_⟩
  unfold Builtin.«dict.__init__»
  refine wpAny_bind ?_
  unfold Builtin.Dict.selfAndRest
  refine wpAny_bind (wpAny_notOrdered_dict hnew.typeIs ?_)
  show wpAny _ _ (pure (s.heap.objs.size, [Value.ref S])) _ _ _
  refine wpAny_pure ?_
  show wpAny _ _ (Builtin.Dict.updateFrom "dict.__init__" s.heap.objs.size (.ref S) [] .none) _ _ _
  unfold Builtin.Dict.updateFrom
  refine wpAny_bind (wpAny_typeOf (T := "list") ⟨_, hS', rfl⟩ ?_)
  rw [if_pos (by decide)]
  refine wpAny_bind (keys_of_list hS' hh fun h₂ tk₂ kp₂ => ?_)
  dsimp only at kp₂
  rw [if_pos (show (none : Option Value).isNone = true from rfl)]
  refine wpAny_bind (wpAny_rule ?_)
  have hS₂ := kp₂ _ _ hS'
  refine wpAny_bind (wpAny_pyIter_list ⟨_, hS₂, rfl, _, rfl⟩ ?_)
  have hD₂ : h₂.DictOf knd s.heap.objs.size [] := let ⟨o, es, ep, ho, r⟩ := hnew; ⟨o, es, ep, kp₂ _ _ ho, r⟩
  have size2 : s.heap.objs.size < h₂.objs.size := by
    obtain ⟨_, _, _, e, _⟩ := hD₂
    exact Heap.lt_size e
  refine wpAny_pure ⟨plainId_quiet plain_upd _, ?_⟩
  have ne1 : ∀ b o, s.heap.get? b = some o → b ≠ s.heap.objs.size := fun b o e => Nat.ne_of_lt (lt b o e)
  have ne2 : ∀ b o, s.heap.get? b = some o → b ≠ h₂.objs.size := fun b o e => Nat.ne_of_lt (Nat.lt_trans (lt b o e) size2)
  have kp0 : ∀ b o, s.heap.get? b = some o → h₂.get? b = some o := fun b o e => kp₂ b o (Heap.get?_push_of_some _ e)
  show codeAny (model prog w) A.in1 (.builtin "dict.update.loop" ⟨[.ref s.heap.objs.size, .ref h₂.objs.size, .int ((0 : Nat) : Int) 0, .none], []⟩) _ { s with heap := h₂.push { cls := .type "list_iterator", data := .fields #[.ref S, .int 0 0] }, toks := tk₂ }
  refine upd_loop (A := A.in1) (s := s) (R := wants (fun r s₂ => r = Value.none ∧ Q (Value.ref s.heap.objs.size) s₂) E) (knd := knd) (kvs := kvs) (as := as) (h₁ := h₂) hh (ne1 _ _ hS) (ne2 _ _ hS) (Nat.ne_of_lt size2) hacc hlen hn hsz hS₂ (fun j a ha => ?_) (fun h' tk hD kp => ⟨rfl, h h' tk hD fun b o e => kp b o (ne1 b o e) (ne2 b o e) (kp0 b o e)⟩) kvs.length 0 _ tk₂ rfl (Nat.zero_le _) ?_ ?_ ?_
  · obtain ⟨key, k, x, e1, e2, e3⟩ := hG.pairs j a ha
    exact ⟨ne1 _ _ e3, ne2 _ _ e3, key, k, x, e1, e2, kp0 _ _ e3⟩
  · exact hD₂.push _
  · exact ⟨_, Heap.get?_push_size _ rfl, rfl, rfl⟩
  · exact fun b o _ _ e => Heap.get?_push_of_some _ e
end
end Mine
end
section
open PySem PySem.W PyProof.Rows PySem.Spec PySem.Calls
namespace Mine
/-- what the law's own walk holds: octets by sort -/
noncomputable abbrev Held := List (Str × Int)
noncomputable def hasK (held : Held) (k : Str) : Bool := held.any fun p => p.1 == k
noncomputable def getF (held : Held) (k : Str) (d : Int) : Int := match held.find? fun p => p.1 == k with | some p => p.2 | none => d
noncomputable def HK : List (Str × Value) → Held → Prop
  | [], [] => True
  | kv :: r, p :: r' => kv.1 = p.1 ∧ (∃ t, kv.2 = .int p.2 t) ∧ HK r r'
  | _, _ => False
theorem HK.len : ∀ {kvs : List (Str × Value)} {held : Held}, HK kvs held → kvs.length = held.length
  | [], [], _ => rfl
  | [], _ :: _, h => h.elim
  | _ :: _, [], h => h.elim
  | _ :: _, _ :: _, h => congrArg (· + 1) h.2.2.len
theorem HK.snoc {k : Str} {o : Int} {t : Tok} : ∀ {kvs : List (Str × Value)} {held : Held}, HK kvs held → HK (kvs ++ [(k, .int o t)]) (held ++ [(k, o)])
  | [], [], _ => ⟨rfl, ⟨t, rfl⟩, trivial⟩
  | [], _ :: _, h => h.elim
  | _ :: _, [], h => h.elim
  | _ :: _, _ :: _, h => ⟨h.1, h.2.1, h.2.2.snoc⟩
theorem HK.at_ {k : Str} : ∀ {kvs : List (Str × Value)} {held : Held}, HK kvs held → (hasK held k = false ∧ valueAt kvs k = none) ∨ (hasK held k = true ∧ ∀ d, ∃ t, valueAt kvs k = some (.int (getF held k d) t))
  | [], [], _ => .inl ⟨rfl, rfl⟩
  | [], _ :: _, h => h.elim
  | _ :: _, [], h => h.elim
  | kv :: r, p :: r', h => by
    obtain ⟨h1, ⟨t, h2⟩, h3⟩ := h
    by_cases e : p.1 = k
    · refine .inr ⟨by simp [hasK, e], fun d => ⟨t, ?_⟩⟩
      have e' : kv.1 = k := h1.trans e
      simp only [valueAt, List.find?_cons, e', decide_true, Option.map_some, getF, e, beq_self_eq_true]
      rw [h2]
    · have e' : ¬ kv.1 = k := fun z => e (h1.symm.trans z)
      have eb : (p.1 == k) = false := beq_eq_false_iff_ne.mpr e
      have a1 : valueAt (kv :: r) k = valueAt r k := by simp [valueAt, e']
      have a2 : hasK (p :: r') k = hasK r' k := by simp [hasK, eb]
      have a3 : ∀ d, getF (p :: r') k d = getF r' k d := fun d => by simp [getF, eb]
      rcases h3.at_ (k := k) with q | q
      · exact .inl ⟨a2.trans q.1, a1.trans q.2⟩
      · exact .inr ⟨a2.trans q.1, fun d => by rw [a1, a3]; exact q.2 d⟩
theorem HK.has {k : Str} {kvs : List (Str × Value)} {held : Held} (h : HK kvs held) : (valueAt kvs k).isSome = hasK held k := by
  rcases h.at_ (k := k) with ⟨q1, q2⟩ | ⟨q1, q2⟩
  · rw [q1, q2]; rfl
  · obtain ⟨t, e⟩ := q2 0
    rw [q1, e]; rfl
/-- a dict of the ledger that holds it -/
noncomputable def HeldL (w : World) (d : Addr) (held : Held) (l : List (Addr × Obj)) : Prop :=
  ∃ od kvs, l = [(d, od)] ∧ od.IsDictOf (PySem.strKind PP w) kvs ∧ (d == sysModules) = false ∧ HK kvs held
noncomputable def stepF (held : Held) (o : Int) : Option Held :=
  if lsortF o == "barred" || hasK held (lsortF o) || hasK held "rex" then none
  else if (lsortF o == "lock" && hasK held "repeat") || (lsortF o == "repeat" && hasK held "lock") then none
  else some (held ++ [(lsortF o, o)])
section
variable {prog : Program} {w : World} {A : Around} {E : Value → Shared → Prop} {s : Shared} {h₀ : Heap} {L : Addr} {m : Str → Option Value} {news : List (Addr × Obj)} {d : Addr} {od : Obj} {kvs : List (Str × Value)} {held : Held} {Q : Value → Shared → Prop}
theorem fresh_up (F : Fr h₀ L s.heap m) {b : Addr} (hb : s.heap.objs.size ≤ b) : b ≠ L ∧ h₀.get? b = none := by
  have hL : L < s.heap.objs.size := F.ns.lt
  exact ⟨fun e => absurd hb (Nat.not_le.mpr (e ▸ hL)), Heap.get?_none_of_le (Nat.le_trans F.above (Nat.le_trans (Nat.le_of_lt hL) hb))⟩
/-- k in held -/
theorem in_held {k : Str} {t : Tok} (N : News h₀ L s.heap news) (hp : (d, od) ∈ news) (hd : od.IsDictOf (PySem.strKind prog w) kvs) (lo : (d == sysModules) = false) (hk : HK kvs held) (h : Q (.bool (hasK held k)) { s with toks := s.toks + 1 }) :
    wpAny (model prog w) A (compareOp .In (.str k t) (.ref d)) Q E s := kda_in N hp hd lo (strKind_is _ _ _ _) _ rfl (by rw [hk.has]; exact h)
/-- list(held.items()) -/
theorem list_held {v : Addr} (F : Fr h₀ L s.heap m) (N : News h₀ L s.heap news) (hh : A.handled = none) (hv : (v, ({ cls := .type "dict_items", data := .fields #[.ref d] } : Obj)) ∈ news) (hp : (d, od) ∈ news) (hd : od.IsDictOf (PySem.strKind prog w) kvs) (hsz : kvs.length ≤ 1000)
    (h : ∀ S h' tk acc c as, Fr h₀ L h' m → News h₀ L h' ((S, { cls := .type "list", dict := none, data := .seq acc c, slots := #[] }) :: news) → acc.toList = as.map Value.ref → as.length = kvs.length → KdxG (PySem.strKind prog w) kvs S h' as → Q (.ref S) { s with heap := h', toks := tk }) :
    wpAny (model prog w) A (call (.type "list") [.ref v]) Q E s := by
  obtain ⟨es, ep, r⟩ := hd
  refine kdx_call (knd := PySem.strKind prog w) (kvs := kvs) (ep := ep) (d := d) hh ⟨_, (N _ hv).1, rfl, rfl⟩ ⟨_, es, (N _ hp).1, r⟩ (by rw [sizeLine_eq]; omega) fun h' tk acc c as hk hS hl hG hacc => ?_
  have fr := fresh_up F (Nat.le_refl s.heap.objs.size)
  exact h _ h' tk acc c as (F.keeps hk) (fun p hp => by
    rcases List.mem_cons.mp hp with rfl | hp
    · exact ⟨hS, fr.1, fr.2⟩
    · exact ⟨hk _ _ (N p hp).1, (N p hp).2⟩) hacc hl hG
/-- dict(that list) -/
theorem dict_held {S : Addr} {acc : Array Value} {c : Nat} {as : List Addr} (F : Fr h₀ L s.heap m) (N : News h₀ L s.heap news) (hbig : sysModules < h₀.objs.size) (hh : A.handled = none) (hS : (S, ({ cls := .type "list", dict := none, data := .seq acc c, slots := #[] } : Obj)) ∈ news) (hd : od.IsDictOf (PySem.strKind prog w) kvs)
    (hacc : acc.toList = as.map Value.ref) (hlen : as.length = kvs.length) (hG : KdxG (PySem.strKind prog w) kvs S s.heap as) (hsz : kvs.length ≤ 1000)
    (h : ∀ D o h' tk, Fr h₀ L h' m → News h₀ L h' ((D, o) :: news) → (∀ p ∈ news, p.1 ≠ D) → o.IsDictOf (PySem.strKind prog w) kvs → (D == sysModules) = false → Q (.ref D) { s with heap := h', toks := tk }) :
    wpAny (model prog w) A (call (.type "dict") [.ref S]) Q E s := by
  obtain ⟨es, ep, r⟩ := hd
  refine dict_of_pairs (knd := PySem.strKind prog w) hh hacc hlen r.2.2.2.2 hsz (N _ hS).1 hG fun h' tk hD hk => ?_
  obtain ⟨o, ho, hdo⟩ := Heap.dictOf_iff.mp hD
  have fr := fresh_up F (Nat.le_refl s.heap.objs.size)
  refine h _ o h' tk (F.keeps hk) (fun p hp => ?_) (fun p hp => Nat.ne_of_lt (Heap.lt_size (N p hp).1)) hdo (beq_eq_false_iff_ne.mpr fun e => ?_)
  · rcases List.mem_cons.mp hp with rfl | hp
    · exact ⟨ho, fr.1, fr.2⟩
    · exact ⟨hk _ _ (N p hp).1, (N p hp).2⟩
  · have hL : L < s.heap.objs.size := F.ns.lt
    have z : s.heap.objs.size = sysModules := e
    exact absurd (Nat.lt_of_lt_of_le hbig (Nat.le_trans F.above (Nat.le_of_lt hL))) (by rw [z]; exact Nat.lt_irrefl _)
/-- later[sort] = octet, with sort not there yet -/
theorem set_held {k : Str} {t u : Tok} {o : Int} {Q : Unit → Shared → Prop} (F : Fr h₀ L s.heap m) (N : News h₀ L s.heap ((d, od) :: news)) (hn : ∀ p ∈ news, p.1 ≠ d) (hd : od.IsDictOf (PySem.strKind prog w) kvs) (hk : HK kvs held) (hno : hasK held k = false) (hsz : kvs.length ≤ 1000)
    (h : ∀ h' o' kvs', Fr h₀ L h' m → News h₀ L h' ((d, o') :: news) → o'.IsDictOf (PySem.strKind prog w) kvs' → HK kvs' (held ++ [(k, o)]) → Q () { s with heap := h', toks := s.toks + 1 }) :
    wpAny (model prog w) A (setItem (.ref d) (.str k t) (.int o u)) Q E s := by
  refine kda_set F N (.head hn) hd (strKind_is _ _ _ _) (by rw [sizeLine_eq]; omega) fun h' o' F' N' hd' => ?_
  have e : stored kvs k (.int o u) = kvs ++ [(k, .int o u)] := stored_absent (by
    rcases hk.at_ (k := k) with q | q
    · exact q.2
    · rw [hno] at q; exact Bool.noConfusion q.1) _
  rw [e] at hd'
  exact h h' o' _ F' N' hd' hk.snoc
end
end Mine
end
section
open PySem PySem.W PyProof.Rows PySem.W.X
namespace Mine

section
variable {held : Held} {o : Int}
theorem st1 (a : (lsortF o == Str.ofString "barred") = true) : stepF held o = none := by unfold stepF; rw [show (lsortF o == ("barred" : Str)) = true from a]; rfl
theorem st2 (a : hasK held (lsortF o) = true) : stepF held o = none := by unfold stepF; rw [a, Bool.or_true, Bool.true_or, if_pos rfl]
theorem st3 (a : hasK held (Str.ofString "rex") = true) : stepF held o = none := by unfold stepF; rw [show hasK held ("rex" : Str) = true from a, Bool.or_true, if_pos rfl]
theorem st4 (a : (lsortF o == Str.ofString "lock") = true) (b : hasK held (Str.ofString "repeat") = true) : stepF held o = none := by
  unfold stepF
  rw [show (lsortF o == ("lock" : Str)) = true from a, show hasK held ("repeat" : Str) = true from b, Bool.and_self, Bool.true_or, if_pos (show (true = true) from rfl), ite_self]
theorem st5 (a : (lsortF o == Str.ofString "repeat") = true) (b : hasK held (Str.ofString "lock") = true) : stepF held o = none := by
  unfold stepF
  rw [show (lsortF o == ("repeat" : Str)) = true from a, show hasK held ("lock" : Str) = true from b, Bool.and_self, Bool.or_true, if_pos (show (true = true) from rfl), ite_self]
theorem st6 (a1 : (lsortF o == Str.ofString "barred") = false) (a2 : hasK held (lsortF o) = false) (a3 : hasK held (Str.ofString "rex") = false) (a4 : (lsortF o == Str.ofString "lock") = false ∨ hasK held (Str.ofString "repeat") = false) (a5 : (lsortF o == Str.ofString "repeat") = false ∨ hasK held (Str.ofString "lock") = false) :
    stepF held o = some (held ++ [(lsortF o, o)]) := by
  unfold stepF
  rw [show (lsortF o == ("barred" : Str)) = false from a1, a2, show hasK held ("rex" : Str) = false from a3]
  have b4 : (lsortF o == ("lock" : Str) && hasK held ("repeat" : Str)) = false := by rcases a4 with h | h; · rw [show (lsortF o == ("lock" : Str)) = false from h, Bool.false_and]
                                                                                     · rw [show hasK held ("repeat" : Str) = false from h, Bool.and_false]
  have b5 : (lsortF o == ("repeat" : Str) && hasK held ("lock" : Str)) = false := by rcases a5 with h | h; · rw [show (lsortF o == ("repeat" : Str)) = false from h, Bool.false_and]
                                                                                     · rw [show hasK held ("lock" : Str) = false from h, Bool.and_false]
  rw [b4, b5]
  rfl
end
theorem big_of {w : World} {h : Heap} (X : (K2 w.params).In h) : sysModules < h.objs.size := Nat.lt_trans (by decide) (Heap.lt_size (X (nat_lit 278) _ rfl))
/-- what _law_step gives back -/
noncomputable def StepR (w : World) (held : Held) (o : Int) (v : Value) (tl : List (Addr × Obj)) : Prop :=
  (stepF held o = none ∧ v = .none ∧ tl = []) ∨ ∃ D held', stepF held o = some held' ∧ v = .ref D ∧ HeldL w D held' tl
section
variable {w : World} {mean : ExcName → Option Value} {mg mb : Str → Option Value}

theorem c_law_step (news : List (Addr × Obj)) (d : Addr) (od : Obj) (kvs : List (Str × Value)) (held : Held) (n : Int) (t : Tok) (hd : od.IsDictOf (PySem.strKind PP w) kvs) (hlo : (d == sysModules) = false) (hHK : HK kvs held) (hsz : kvs.length ≤ 100) :
    CP w mean mg mb 850 8500 214 [.ref d, .int n t] ((d, od) :: news) (StepR w held n) NoExc := by
  k_with_none
  w_top off
  k_with "call ref" => ((k_here; (with_reducible show wpAny _ _ (call (Value.ref 207) [Value.int _ _]) _ _ _); (k_dflt ((refine' (CP.lower (c_law_sort _ _ _) ?zdq ?zuq) _ _ _ _ _ _ _ _ _ _ _ _ _ _ _ ?zBq ?zFq ?zXq ?zNq ?zTq ?zKq ?_ ?zexcq); (case zdq => exact Nat.le_of_ble_eq_true rfl); (case zuq => exact Nat.le_of_ble_eq_true rfl); (case zBq => k_asm); (case zFq => k_asm); (case zXq => k_asm); (case zNq => first | k_asm | exact News.tl1 (by k_asm) | exact News.tl1 (News.tl1 (by k_asm)) | exact News.tl1 (News.tl1 (News.tl1 (by k_asm)))); (case zTq => k_asm); (case zKq => first | exact rfl | assumption); (case zexcq => exact fun _ _ _ _ _ h => h.elim); intro v' tl' h' tk' F' N' hR'; obtain ⟨e1', t', e2'⟩ := hR'; subst e1'; subst e2'; (try dsimp only [List.nil_append, List.cons_append] at N' ⊢)))))
  have hsz' : kvs.length ≤ 1000 := Nat.le_trans hsz (by decide)
  k_with "compareOp In str ref" => (k_dflt (refine in_held (held := held) (by k_asm) (by k_mem) hd hlo hHK ?_))
  k_with "call type:list" => (k_dflt (refine list_held (by k_asm) (by k_asm) rfl (by k_mem) (by k_mem) hd hsz' ?_); intro S h' tk acc c as F' N' hacc hlen hG)
  k_with "call type:dict" => (k_dflt (refine dict_held (by k_asm) (by k_asm) (big_of (by k_asm)) rfl (by k_mem) hd (by assumption) (by assumption) (by assumption) hsz' ?_); intro D od' h' tk F' N' hne hd' hlo')
  k_with "setItem ref str" => (k_dflt (refine set_held (by k_asm) (by k_asm) (by assumption) (by assumption) hHK (by assumption) hsz' ?_); intro h' o' kvs' F' N' hd' hk')
  refine unhook ?_
  k_fill
  intro _ _
  intro gd cn cs a ccd cl outer A₀ base h₀ L m s Q E hB hF hX hN hT hk hret hexc
  refine wpAny_call ?_
  k_dflt cell_enter
  repeat' (first | (k_unfold; (try dsimp only)) | walk1 | (dsimp only; walk1))

  all_goals first
    | (refine hret _ [] _ _ (by assumption) (by assumption) (.inl ⟨?_, rfl, rfl⟩); first | exact st1 (by assumption) | exact st2 (by assumption) | exact st3 (by assumption) | exact st4 (by assumption) (by assumption) | exact st5 (by assumption) (by assumption))
    | (refine hret _ [_] _ _ (by assumption) (News.pick1 (by assumption) (.head _) (fun p hp => by repeat' (first | exact hp | apply List.Mem.tail))) (.inr ⟨_, _, st6 (by assumption) (by assumption) (by assumption) (by first | exact .inl (by assumption) | exact .inr (by assumption)) (by first | exact .inl (by assumption) | exact .inr (by assumption)), rfl, _, _, rfl, by assumption, by assumption, by assumption⟩))
end
end Mine
end
section
open PySem PySem.W PyProof.Rows PySem.W.X
namespace Mine

/-- the law's own walk -/
noncomputable def walkF (held : Held) : List Int → Nat → Option (Held × Nat)
  | [], n => some (held, n)
  | o :: r, n => if lsortF o != "" then (match stepF held o with | none => none | some h => walkF h r (n + 1)) else some (held, n)
structure WkSt where
  d : Addr
  held : Held
  l : List (Addr × Obj)
  n : Nat
  t : Tok
theorem not_sys {w : World} {g h : Heap} {L d : Addr} {o : Obj} {news : List (Addr × Obj)} (X : (K2 w.params).In g) (N : News g L h ((d, o) :: news)) : (d == sysModules) = false := beq_eq_false_iff_ne.mpr fun e => by
  have z := (N _ (.head _)).2.2
  have y : g.get? sysModules = some _ := X (nat_lit 1) _ rfl
  rw [show (d, o).1 = sysModules from e, y] at z
  cases z
theorem HeldL.new {w : World} {d : Addr} {o : Obj} (hs : o.IsDictOf (PySem.strKind PP w) []) (h : (d == sysModules) = false) : HeldL w d [] [(d, o)] := ⟨_, [], rfl, hs, h, trivial⟩
section
variable {held h : Held} {zs : List Int} {n : Nat} {R : Option (Held × Nat)}
theorem drop_d (a : (n : Int) < (zs.length : Int)) : zs.drop n = zs.getD (n : Int).toNat 0 :: zs.drop (n + 1) := by
  have hn : n < zs.length := by omega
  rw [List.drop_eq_getElem_cons hn, Int.toNat_natCast, List.getD_eq_getElem?_getD, List.getElem?_eq_getElem hn]
  rfl
theorem wk1 (hw : walkF held (zs.drop n) n = R) (a : (n : Int) < (zs.length : Int)) (b : (lsortF (zs.getD (n : Int).toNat 0) != Str.ofString "") = true) (q : stepF held (zs.getD (n : Int).toNat 0) = none) : R = none := by
  rw [← hw, drop_d a, walkF, if_pos b, q]
theorem wk2 (hw : walkF held (zs.drop n) n = R) (a : (n : Int) < (zs.length : Int)) (b : (lsortF (zs.getD (n : Int).toNat 0) != Str.ofString "") = true) (q : stepF held (zs.getD (n : Int).toNat 0) = some h) : walkF h (zs.drop (n + 1)) (n + 1) = R := by
  rw [← hw, drop_d a, walkF, if_pos b, q]
theorem wk3 (hw : walkF held (zs.drop n) n = R) (a : (n : Int) < (zs.length : Int)) (b : (lsortF (zs.getD (n : Int).toNat 0) != Str.ofString "") = false) : R = some (held, n) := by
  rw [← hw, drop_d a, walkF, if_neg (by rw [show (lsortF (zs.getD (n : Int).toNat 0) != ("" : Str)) = false from b]; exact Bool.false_ne_true)]
theorem wk4 (hw : walkF held (zs.drop n) n = R) (a : ¬ (n : Int) < (zs.length : Int)) : R = some (held, n) := by
  rw [← hw, List.drop_eq_nil_of_le (by omega), walkF]
theorem step_len {o : Int} (q : stepF held o = some h) : h.length = held.length + 1 := by
  unfold stepF at q
  split at q
  · cases q
  · split at q
    · cases q
    · cases q
      simp
end
theorem same2 {m₀ u : Str → Option Value} {v1 v2 : Option Value} {w1 w2 w1' w2' : Value} {a f : Str} {z : Str} (h2 : ∀ p ∈ [(f, w1'), (a, w2')], z ≠ p.1) (h3 : [f, a].contains z = false) :
    (if z = a then v1 else if z = f then v2 else kstB (fun z => if [f, a].contains z = true then u z else m₀ z) [(f, w1), (a, w2)] z) = m₀ z := by
  have hf : z ≠ f := h2 _ (.head _)
  have ha : z ≠ a := h2 _ (.tail _ (.head _))
  rw [if_neg ha, if_neg hf]
  show (if z = f then some w1 else if z = a then some w2 else if [f, a].contains z = true then u z else m₀ z) = m₀ z
  rw [if_neg hf, if_neg ha, h3, if_neg Bool.false_ne_true]
theorem News.cut1 {h₀ h : Heap} {L : Addr} {x y : Addr × Obj} {news : List (Addr × Obj)} (N : News h₀ L h ([x] ++ y :: news)) : News h₀ L h (x :: news) := fun p hp => N p (by
  rcases List.mem_cons.mp hp with rfl | hp
  · exact .head _
  · exact .tail _ (.tail _ hp))
noncomputable abbrev WkEnd (w : World) (zs : List Int) (R : Option (Held × Nat)) (r : Addr) (lob : Obj) (news : List (Addr × Obj)) (h₀ : Heap) (L : Addr) (s : Shared) (m₀ : Str → Option Value) (c : WkSt) (s₂ : Shared) : Prop :=
  KswEnd h₀ L s (fun c : WkSt => c.l ++ ((r, lob) :: news)) (fun c => [(Str.ofString "held", Value.ref c.d), (Str.ofString "at", Value.int (c.n : Int) c.t)]) (fun c => HeldL w c.d c.held c.l) [Str.ofString "held", Str.ofString "at"] m₀
      (fun c => c.n ≤ zs.length ∧ c.held.length ≤ c.n ∧ walkF c.held (zs.drop c.n) c.n = R) (fun c => zs.length - c.n) c s₂
theorem wk_end {w : World} {zs : List Int} {R : Option (Held × Nat)} {r d₀ D : Addr} {lob o' : Obj} {x : Addr × Obj} {l₀ news : List (Addr × Obj)} {h₀ h' : Heap} {L : Addr} {s : Shared} {m₀ m' : Str → Option Value} {n : Nat} {t₀ t : Tok} {tk : Nat} {held held' : Held}
    (F : Fr h₀ L h' m') (N : News h₀ L h' ([(D, o')] ++ x :: (r, lob) :: news)) (hH : HeldL w D held' [(D, o')]) (hn : (n : Int) < (zs.length : Int)) (hl : held.length ≤ n) {o : Int} (hs : stepF held o = some held') (hw : walkF held' (zs.drop (n + 1)) (n + 1) = R)
    (h1 : m' (Str.ofString "held") = some (.ref D)) (h2 : m' (Str.ofString "at") = some (.int ((n : Int) + 1) t))
    (hr : ∀ z, (∀ p ∈ [(Str.ofString "held", Value.ref D), (Str.ofString "at", Value.int ((n + 1 : Nat) : Int) t)], z ≠ p.1) → [Str.ofString "held", Str.ofString "at"].contains z = false → m' z = m₀ z) :
    WkEnd w zs R r lob news h₀ L s m₀ ⟨d₀, held, l₀, n, t₀⟩ { s with heap := h', toks := tk } := by
  refine ksw_end ⟨D, held', [(D, o')], n + 1, t⟩ F (News.cut1 N) (fun p hp => hp) hH ?_ hr ⟨by show n + 1 ≤ zs.length; omega, ?_, hw⟩ (by show zs.length - (n + 1) < zs.length - n; omega)
  · intro p hp
    rcases List.mem_cons.mp hp with rfl | hp
    · exact h1
    · rcases List.mem_cons.mp hp with rfl | hp
      · exact h2
      · cases hp
  · show held'.length ≤ n + 1
    rw [step_len hs]; omega
/-- what _law_walk gives back -/
noncomputable def WalkR (w : World) (R : Option (Held × Nat)) (v : Value) (tl : List (Addr × Obj)) : Prop :=
  (R = none ∧ v = .none ∧ tl = []) ∨ ∃ tp d held n t c l, R = some (held, n) ∧ v = .ref tp ∧ HeldL w d held l ∧ tl = (tp, { cls := .type "tuple", data := .seq #[.ref d, .int (n : Int) t] c }) :: l
noncomputable def Stop (P : Prop) : Prop := P
theorem Stop.go {P : Prop} (h : Stop P) : P := h
section
variable {w : World} {mean : ExcName → Option Value} {mg mb : Str → Option Value}

theorem c_law_walk (news : List (Addr × Obj)) (r : Addr) (ys : List Value) (zs : List Int) (n0 : Nat) (t0 : Tok) (hy : IntsAre ys zs) (hlen : zs.length ≤ 7) (h0 : n0 ≤ zs.length) :
    CP w mean mg mb 800 8000 221 [.ref r, .int (n0 : Int) t0] ((r, LCg.lst ys) :: news) (WalkR w (walkF [] (zs.drop n0) n0)) NoExc := by
  k_with_none
  w_top off
  k_with "call ref" => ((k_here; (with_reducible show wpAny _ _ (call (Value.ref 207) [Value.int _ _]) _ _ _); (k_dflt ((refine' (CP.lower (c_law_sort _ _ _) ?zdq ?zuq) _ _ _ _ _ _ _ _ _ _ _ _ _ _ _ ?zBq ?zFq ?zXq ?zNq ?zTq ?zKq ?_ ?zexcq); (case zdq => exact Nat.le_of_ble_eq_true rfl); (case zuq => exact Nat.le_of_ble_eq_true rfl); (case zBq => k_asm); (case zFq => k_asm); (case zXq => k_asm); (case zNq => first | k_asm | exact News.tl1 (by k_asm) | exact News.tl1 (News.tl1 (by k_asm)) | exact News.tl1 (News.tl1 (News.tl1 (by k_asm)))); (case zTq => k_asm); (case zKq => first | exact rfl | assumption); (case zexcq => exact fun _ _ _ _ _ h => h.elim); intro v' tl' h' tk' F' N' hR'; obtain ⟨e1', t', e2'⟩ := hR'; subst e1'; subst e2'; (try dsimp only [List.nil_append, List.cons_append] at N' ⊢)))))
  k_with "exec" => ((k_here; (with_reducible show wpAny _ _ (exec (Stmt.While _ _ _ _) _) _ _ _); refine Stop.go ?_))
  k_with "call ref" => ((k_here; (with_reducible show wpAny _ _ (call (Value.ref 214) [Value.ref _, Value.int _ _]) _ _ _); (k_dflt ((refine' (CP.lower (c_law_step _ _ _ _ _ _ _ ?zp1q ?zp2q ?zp3q ?zp4q) ?zdq ?zuq) _ _ _ _ _ _ _ _ _ _ _ _ _ _ _ ?zBq ?zFq ?zXq ?zNq ?zTq ?zKq ?_ ?zexcq); (case zdq => exact Nat.le_of_ble_eq_true rfl); (case zuq => exact Nat.le_of_ble_eq_true rfl); (case zp1q => assumption); (case zp2q => assumption); (case zp3q => assumption); (case zp4q => assumption); (case zBq => k_asm); (case zFq => k_asm); (case zXq => k_asm); (case zNq => first | k_asm | exact News.tl1 (by k_asm) | exact News.tl1 (News.tl1 (by k_asm)) | exact News.tl1 (News.tl1 (News.tl1 (by k_asm)))); (case zTq => k_asm); (case zKq => first | exact rfl | assumption); (case zexcq => exact fun _ _ _ _ _ h => h.elim); intro v' tl' h' tk' F' N' hR'; rcases hR' with ⟨q1', e1', e2'⟩ | ⟨D', hd2', q1', e1', o2', k2', e2', i2', y2', h2'⟩ <;> subst e1' <;> subst e2'; (try dsimp only [List.nil_append, List.cons_append] at N' ⊢)))))
  refine unhook ?_
  k_fill
  intro _ _
  intro gd cn cs a ccd cl outer A₀ base h₀ L m s Q E hB hF hX hN hT hk hret hexc
  refine wpAny_call ?_
  k_dflt cell_enter
  repeat' (first | (k_unfold; (try dsimp only)) | walk1 | (dsimp only; walk1))

  unfold Stop
  refine ksw_while (σ := WkSt) (fun c => c.l ++ ((r, LCg.lst ys) :: news)) (fun c => [(Str.ofString "held", Value.ref c.d), (Str.ofString "at", Value.int (c.n : Int) c.t)]) (fun c => HeldL w c.d c.held c.l) [Str.ofString "held", Str.ofString "at"]
    (fun c => c.n ≤ zs.length ∧ c.held.length ≤ c.n ∧ walkF c.held (zs.drop c.n) c.n = walkF [] (zs.drop n0) n0) (fun c => zs.length - c.n) ⟨_, [], [_], n0, t0⟩ (by assumption) (by assumption) (HeldL.new (by assumption) (not_sys (by assumption) (by assumption))) ?hk ⟨h0, Nat.zero_le _, rfl⟩ ?_
  case hk => kst_all
  rintro ⟨d, held, l, n, t⟩ u h tk hf ⟨hn, hl7, hw⟩ lF lN
  dsimp only at hf
  obtain ⟨od, kvs, hl, hd, hlo, hHK⟩ := hf
  subst hl
  dsimp only [List.cons_append, List.nil_append] at lN lF hn hl7 hw ⊢
  have hsz : kvs.length ≤ 100 := by rw [hHK.len]; omega
  repeat' (first | (k_unfold; (try dsimp only)) | walk1 | (dsimp only; walk1))

  all_goals first
    | exact hret _ [] _ _ (by assumption) (News.tl1 (by assumption)) (.inl ⟨wk1 (by assumption) (by assumption) (by assumption) (by assumption), rfl, rfl⟩)
    | exact wk_end (by assumption) (by assumption) ⟨_, _, rfl, by assumption, by assumption, by assumption⟩ (by assumption) (by assumption) (by assumption) (wk2 (by assumption) (by assumption) (by assumption) (by assumption)) rfl rfl (by intro z h2 h3; exact same2 h2 h3)
    | (refine hret _ [_, _] _ _ (by assumption) (by assumption) (.inr ⟨_, _, held, n, _, _, _, ?_, rfl, ⟨_, _, rfl, hd, hlo, hHK⟩, rfl⟩); first | exact wk3 (by assumption) (by assumption) (by assumption) | exact wk4 (by assumption) (by assumption))
end
end Mine
end
section
open PySem PySem.W PyProof.Rows PySem.W.X
namespace Mine

theorem getF_no {k : Str} {d : Int} : ∀ {held : Held}, hasK held k = false → getF held k d = d
  | [], _ => rfl
  | p :: r, h => by
    have e : (p.1 == k) = false ∧ hasK r k = false := by simpa [hasK] using h
    have z := getF_no (d := d) e.2
    simp only [getF, List.find?_cons, e.1] at z ⊢
    exact z
theorem get_held {prog : Program} {w : World} {A : Around} {E : Value → Shared → Prop} {s : Shared} {h₀ : Heap} {L : Addr} {news : List (Addr × Obj)} {d : Addr} {od : Obj} {kvs : List (Str × Value)} {held : Held} {Q : Value → Shared → Prop} {k : Str} {t u : Tok} {n : Int}
    (N : News h₀ L s.heap news) (hp : (d, od) ∈ news) (hd : od.IsDictOf (PySem.strKind prog w) kvs) (lo : (d == sysModules) = false) (hk : HK kvs held) (h : ∀ t', Q (.int (getF held k n) t') { s with toks := s.toks + 1 }) :
    wpAny (model prog w) A (call (.builtin "dict.get") [.ref d, .str k t, .int n u]) Q E s := by
  have hD := kda_dict N hp hd
  refine call_meetsIn F.slot_dict_get hD.typeIs F.entry_dict_get (F.args_dict_get_3 _ _ _) (meets_dict_get_default (PySem.strKind prog w) d (strKind_is prog w k t) lo _) ⟨_, hD.mapOf, ?_⟩
  show Q _ _
  rcases hk.at_ (k := k) with ⟨q1, q2⟩ | ⟨q1, q2⟩
  · rw [q2]
    have z := h u
    rw [getF_no q1] at z
    exact z
  · obtain ⟨t', e⟩ := q2 n
    rw [e]
    exact h t'
noncomputable def placeF (held : Held) : Str := if getF held "segment" 0 = 100 then "fs" else if getF held "segment" 0 = 101 then "gs" else ""
theorem pf1 {held : Held} (h : getF held (Str.ofString "segment") 0 = 100) : placeF held = Str.ofString "fs" := if_pos h
theorem pf2 {held : Held} (h1 : ¬ getF held (Str.ofString "segment") 0 = 100) (h : getF held (Str.ofString "segment") 0 = 101) : placeF held = Str.ofString "gs" := (if_neg h1).trans (if_pos h)
theorem pf3 {held : Held} (h1 : ¬ getF held (Str.ofString "segment") 0 = 100) (h : ¬ getF held (Str.ofString "segment") 0 = 101) : placeF held = Str.ofString "" := (if_neg h1).trans (if_neg h)
section
variable {w : World} {mean : ExcName → Option Value} {mg mb : Str → Option Value}

theorem c_law_told (news : List (Addr × Obj)) (d : Addr) (od : Obj) (kvs : List (Str × Value)) (held : Held) (hd : od.IsDictOf (PySem.strKind PP w) kvs) (hlo : (d == sysModules) = false) (hHK : HK kvs held) :
    CP w mean mg mb 850 8500 228 [.ref d] ((d, od) :: news) (fun v tl => ∃ tp, v = .ref tp ∧ PartsL tp (placeF held) (hasK held "data") (getF held "repeat" 0) (hasK held "lock") (getF held "rex" (-1)) tl) NoExc := by
  k_with_none
  w_top off
  k_with "compareOp In str ref" => ((k_here; k_dflt (refine in_held (by k_asm) (by k_mem) (by assumption) (by assumption) (by assumption) ?_)))
  k_with "call builtin:dict.get" => ((k_here; (with_reducible show wpAny _ _ (call _ [Value.ref _, Value.str _ _, Value.int _ _]) _ _ _); k_dflt (refine get_held (by k_asm) (by k_mem) (by assumption) (by assumption) (by assumption) ?_; intro t')))
  refine unhook ?_
  k_fill
  intro _ _
  intro gd cn cs a ccd cl outer A₀ base h₀ L m s Q E hB hF hX hN hT hk hret hexc
  refine wpAny_call ?_
  k_dflt cell_enter
  repeat' (first | (k_unfold; (try dsimp only)) | walk1 | (dsimp only; walk1))

  all_goals
    (refine hret _ [_] _ _ (by assumption) (News.pick1 (by assumption) (.head _) (fun p hp => by repeat' (first | exact hp | apply List.Mem.tail))) ⟨_, rfl, ?_⟩; first | rw [pf1 (by assumption)] | rw [pf2 (by assumption) (by assumption)] | rw [pf3 (by assumption) (by assumption)])
    exact ⟨_, _, _, _, rfl⟩
end
end Mine
end
section
open PySem PySem.W PyProof.Rows PySem.W.X
namespace Mine

section
variable {w : World} {mean : ExcName → Option Value} {mg mb : Str → Option Value}

theorem c_told (news : List (Addr × Obj)) (p d : Addr) (t1 t2 t3 t4 t5 u1 u3 u5 : Tok) (X : Pfx) :
    CP w mean mg mb 900 9000 123 [.ref p] ((p, instObj 154 d) :: (d, dictOf (pfxEs w t1 t2 t3 t4 t5 X.seg X.data X.rep X.lock X.rex u1 u3 u5) 5) :: news)
      (fun v tl => ∃ tp, v = .ref tp ∧ PartsL tp X.seg X.data X.rep X.lock X.rex tl) NoExc := by
  k_with_none
  w_top off
  refine unhook ?_
  k_fill
  intro _ _
  intro gd cn cs a ccd cl outer A₀ base h₀ L m s Q E hB hF hX hN hT hk hret hexc
  refine wpAny_call ?_
  k_dflt cell_enter
  repeat' (first | (k_unfold; (try dsimp only)) | walk1 | (dsimp only; walk1))

  exact hret _ [_] _ _ (by assumption) (News.pick1 (by assumption) (.head _) (fun p hp => by repeat' (first | exact hp | apply List.Mem.tail))) ⟨_, rfl, _, _, _, _, rfl⟩
/-- the row's prefixes, read from a place on -/
noncomputable def lamOf (o : Obj) : PySem.Expr := match o.data with
  | .func fd => (match fd.body with
    | .stmts (.Assign _ (.Tuple [_, .Call _ [l] _ _] _ _) _ :: _) => l
    | _ => default)
  | _ => default
end
end Mine
end
section
open PySem PySem.W PyProof.Rows
namespace Mine
/-- the prefixes that a held dict stands for -/
noncomputable def pfxOf (held : Held) : Pfx := ⟨placeF held, hasK held "data", getF held "repeat" 0, hasK held "lock", getF held "rex" (-1)⟩
noncomputable def Good (held : Held) : Prop := ∀ p ∈ held, p.1 = lsortF p.2 ∧ 0 ≤ p.2
theorem hasK_app (held : Held) (k s : Str) (o : Int) : hasK (held ++ [(s, o)]) k = (hasK held k || s == k) := by simp [hasK]
theorem getF_app_ne {held : Held} {k s : Str} {o d : Int} (h : s ≠ k) : getF (held ++ [(s, o)]) k d = getF held k d := by
  have e : (s == k) = false := beq_eq_false_iff_ne.mpr h
  simp only [getF, List.find?_append]
  cases held.find? (fun p => p.1 == k) with
  | some p => rfl
  | none => simp [e]
theorem getF_app_eq {held : Held} {k : Str} {o d : Int} (h : hasK held k = false) : getF (held ++ [(k, o)]) k d = o := by
  have e : held.find? (fun p => p.1 == k) = none := by
    rw [List.find?_eq_none]
    intro p hp
    have := List.any_eq_false.mp h p hp
    simpa using this
  simp [getF, List.find?_append, e]
theorem get_good {held : Held} {k : Str} {d : Int} (g : Good held) (h : hasK held k = true) : lsortF (getF held k d) = k ∧ 0 ≤ getF held k d := by
  obtain ⟨p, hp, hk⟩ := List.any_eq_true.mp h
  cases e : held.find? (fun p => p.1 == k) with
  | none => exact absurd (List.find?_eq_none.mp e p hp) (by simpa using hk)
  | some q =>
    have h1 := List.find?_some e
    have h2 := List.mem_of_find?_eq_some e
    have h3 := g q h2
    simp only [getF, e]
    exact ⟨h3.1.symm.trans (by simpa using h1), h3.2⟩
theorem good_app {held : Held} {o : Int} (g : Good held) (h : 0 ≤ o) : Good (held ++ [(lsortF o, o)]) := fun p hp => by
  rcases List.mem_append.mp hp with hp | hp
  · exact g p hp
  · rw [List.mem_singleton.mp hp]; exact ⟨rfl, h⟩
/-- the sorts of octets, by cases -/
theorem lsort_cases (o : Int) : (64 ≤ o ∧ o ≤ 79 ∧ lsortF o = "rex") ∨ (¬ (64 ≤ o ∧ o ≤ 79) ∧ lsortF o = sortF o) := by
  unfold lsortF
  by_cases h : 64 ≤ o ∧ o ≤ 79
  · exact .inl ⟨h.1, h.2, if_pos h⟩
  · exact .inr ⟨h, if_neg h⟩
theorem sort_cases (o : Int) : (sortF o = "segment" ∧ (o = 100 ∨ o = 101)) ∨ (sortF o = "data" ∧ o = 102) ∨ (sortF o = "repeat" ∧ (o = 243 ∨ o = 242)) ∨ (sortF o = "lock" ∧ o = 240) ∨ sortF o = "barred" ∨ sortF o = "" := by
  unfold sortF
  repeat' split
  all_goals simp_all
theorem sne_segment_data : (("segment" : Str) == "data") = false := by decide
theorem sne_segment_repeat : (("segment" : Str) == "repeat") = false := by decide
theorem sne_segment_lock : (("segment" : Str) == "lock") = false := by decide
theorem sne_segment_barred : (("segment" : Str) == "barred") = false := by decide
theorem sne_segment_rex : (("segment" : Str) == "rex") = false := by decide
theorem sne_segment_none : (("segment" : Str) == "") = false := by decide
theorem sne_data_segment : (("data" : Str) == "segment") = false := by decide
theorem sne_data_repeat : (("data" : Str) == "repeat") = false := by decide
theorem sne_data_lock : (("data" : Str) == "lock") = false := by decide
theorem sne_data_barred : (("data" : Str) == "barred") = false := by decide
theorem sne_data_rex : (("data" : Str) == "rex") = false := by decide
theorem sne_data_none : (("data" : Str) == "") = false := by decide
theorem sne_repeat_segment : (("repeat" : Str) == "segment") = false := by decide
theorem sne_repeat_data : (("repeat" : Str) == "data") = false := by decide
theorem sne_repeat_lock : (("repeat" : Str) == "lock") = false := by decide
theorem sne_repeat_barred : (("repeat" : Str) == "barred") = false := by decide
theorem sne_repeat_rex : (("repeat" : Str) == "rex") = false := by decide
theorem sne_repeat_none : (("repeat" : Str) == "") = false := by decide
theorem sne_lock_segment : (("lock" : Str) == "segment") = false := by decide
theorem sne_lock_data : (("lock" : Str) == "data") = false := by decide
theorem sne_lock_repeat : (("lock" : Str) == "repeat") = false := by decide
theorem sne_lock_barred : (("lock" : Str) == "barred") = false := by decide
theorem sne_lock_rex : (("lock" : Str) == "rex") = false := by decide
theorem sne_lock_none : (("lock" : Str) == "") = false := by decide
theorem sne_barred_segment : (("barred" : Str) == "segment") = false := by decide
theorem sne_barred_data : (("barred" : Str) == "data") = false := by decide
theorem sne_barred_repeat : (("barred" : Str) == "repeat") = false := by decide
theorem sne_barred_lock : (("barred" : Str) == "lock") = false := by decide
theorem sne_barred_rex : (("barred" : Str) == "rex") = false := by decide
theorem sne_barred_none : (("barred" : Str) == "") = false := by decide
theorem sne_rex_segment : (("rex" : Str) == "segment") = false := by decide
theorem sne_rex_data : (("rex" : Str) == "data") = false := by decide
theorem sne_rex_repeat : (("rex" : Str) == "repeat") = false := by decide
theorem sne_rex_lock : (("rex" : Str) == "lock") = false := by decide
theorem sne_rex_barred : (("rex" : Str) == "barred") = false := by decide
theorem sne_rex_none : (("rex" : Str) == "") = false := by decide
theorem sne_none_segment : (("" : Str) == "segment") = false := by decide
theorem sne_none_data : (("" : Str) == "data") = false := by decide
theorem sne_none_repeat : (("" : Str) == "repeat") = false := by decide
theorem sne_none_lock : (("" : Str) == "lock") = false := by decide
theorem sne_none_barred : (("" : Str) == "barred") = false := by decide
theorem sne_none_rex : (("" : Str) == "rex") = false := by decide

theorem seg_val {v : Int} (h : lsortF v = "segment") : v = 100 ∨ v = 101 := by
  rcases lsort_cases v with ⟨_, _, e⟩ | ⟨_, e⟩
  · rw [h] at e; exact absurd e (by decide)
  · rw [h] at e
    rcases sort_cases v with ⟨_, q⟩ | ⟨q, _⟩ | ⟨q, _⟩ | ⟨q, _⟩ | q | q
    · exact q
    all_goals (rw [q] at e; exact absurd e (by decide))
theorem rep_val {v : Int} (h : lsortF v = "repeat") : v = 243 ∨ v = 242 := by
  rcases lsort_cases v with ⟨_, _, e⟩ | ⟨_, e⟩
  · rw [h] at e; exact absurd e (by decide)
  · rw [h] at e
    rcases sort_cases v with ⟨q, _⟩ | ⟨q, _⟩ | ⟨_, q⟩ | ⟨q, _⟩ | q | q
    · rw [q] at e; exact absurd e (by decide)
    · rw [q] at e; exact absurd e (by decide)
    · exact q
    all_goals (rw [q] at e; exact absurd e (by decide))
section
variable {held : Held} {o : Int}
theorem rex_has (g : Good held) (h : hasK held "rex" = true) : 0 ≤ getF held "rex" (-1) := (get_good g h).2
theorem rex_not (h : hasK held "rex" = false) : ¬ 0 ≤ getF held "rex" (-1) := by rw [getF_no h]; decide
theorem seg_has (g : Good held) (h : hasK held "segment" = true) : (placeF held != "") = true := by
  unfold placeF
  rcases seg_val (get_good (d := 0) g h).1 with e | e
  · rw [if_pos e]; decide
  · rw [if_neg (by rw [e]; decide), if_pos e]; decide
theorem seg_not (h : hasK held "segment" = false) : (placeF held != "") = false := by
  unfold placeF
  rw [getF_no h]
  decide
theorem rep_has (g : Good held) (h : hasK held "repeat" = true) : getF held "repeat" 0 ≠ 0 := by
  rcases rep_val (get_good (d := 0) g h).1 with e | e <;> rw [e] <;> decide
theorem rep_not (h : hasK held "repeat" = false) : getF held "repeat" 0 = 0 := getF_no h
theorem place_app_ne {k : Str} (h : k ≠ "segment") : placeF (held ++ [(k, o)]) = placeF held := by unfold placeF; rw [getF_app_ne h]
/-- REX: one step of either -/
theorem step_rex (g : Good held) (h : 64 ≤ o ∧ o ≤ 79) : (0 ≤ (pfxOf held).rex ∧ stepF held o = none) ∨ (¬ 0 ≤ (pfxOf held).rex ∧ stepF held o = some (held ++ [(lsortF o, o)]) ∧ pfxOf (held ++ [(lsortF o, o)]) = ⟨(pfxOf held).seg, (pfxOf held).data, (pfxOf held).rep, (pfxOf held).lock, o⟩) := by
  have e : lsortF o = "rex" := if_pos h
  cases hx : hasK held "rex" with
  | true =>
    refine .inl ⟨rex_has g hx, ?_⟩
    unfold stepF
    rw [hx, Bool.or_true, if_pos rfl]
  | false =>
    refine .inr ⟨rex_not hx, ?_, ?_⟩
    · unfold stepF
      rw [e, hx]
      simp only [sne_rex_barred, sne_rex_lock, sne_rex_repeat, Bool.or_false, Bool.false_and, Bool.false_eq_true, if_false]
    · rw [e]
      simp only [pfxOf, hasK_app, place_app_ne (show ("rex" : Str) ≠ "segment" by decide), getF_app_ne (show ("rex" : Str) ≠ "repeat" by decide), getF_app_eq hx, sne_rex_data, sne_rex_lock, Bool.or_false]
/-- a legacy prefix: one step of either -/
theorem step_leg (g : Good held) (h : ¬ (64 ≤ o ∧ o ≤ 79)) (hs : sortF o ≠ "") : (stepF held o = none ∧ legF (pfxOf held) o = none) ∨ (stepF held o = some (held ++ [(lsortF o, o)]) ∧ legF (pfxOf held) o = some (pfxOf (held ++ [(lsortF o, o)]))) := by
  have e : lsortF o = sortF o := if_neg h
  have hx0 : ∀ b, hasK held "rex" = b → (0 ≤ (pfxOf held).rex) = (b = true) := fun b hb => by
    cases b with
    | true => exact propext ⟨fun _ => rfl, fun _ => rex_has g hb⟩
    | false => exact propext ⟨fun z => absurd z (rex_not hb), fun z => Bool.noConfusion z⟩
  have hs0 : ∀ b, hasK held "segment" = b → ((pfxOf held).seg != "") = b := fun b hb => by
    cases b with
    | true => exact seg_has g hb
    | false => exact seg_not hb
  have hr0 : ∀ b, hasK held "repeat" = b → ((pfxOf held).rep ≠ 0) = (b = true) := fun b hb => by
    cases b with
    | true => exact propext ⟨fun _ => rfl, fun _ => rep_has g hb⟩
    | false => exact propext ⟨fun z => absurd (rep_not hb) z, fun z => Bool.noConfusion z⟩
  have hd0 : (pfxOf held).data = hasK held "data" := rfl
  have hl0 : (pfxOf held).lock = hasK held "lock" := rfl
  have hrb : ∀ b, hasK held "repeat" = b → ((pfxOf held).rep = 0) = (b = false) := fun b hb => by
    cases b with
    | true => exact propext ⟨fun z => absurd z (rep_has g hb), fun z => Bool.noConfusion z⟩
    | false => exact propext ⟨fun _ => rfl, fun _ => rep_not hb⟩
  cases hX : hasK held "rex" with
  | true =>
    refine .inl ⟨by unfold stepF; rw [hX, Bool.or_true, if_pos rfl], ?_⟩
    unfold legF
    rw [if_pos (show 0 ≤ (pfxOf held).rex from (hx0 _ hX).mpr rfl), ite_self]
  | false =>
    have nx : ¬ 0 ≤ (pfxOf held).rex := fun z => Bool.noConfusion ((hx0 _ hX).mp z)
    have rx : getF held "rex" (-1) = -1 := getF_no hX
    rcases sort_cases o with ⟨q, hv⟩ | ⟨q, hv⟩ | ⟨q, hv⟩ | ⟨q, hv⟩ | q | q
    · rw [e, q]
      cases hS : hasK held "segment" with
      | true => exact .inl ⟨by simp only [stepF, e, q, hS, sne_segment_repeat, sne_segment_lock, sne_segment_barred, Bool.or_false, Bool.or_true, Bool.true_or, Bool.false_and, Bool.false_eq_true, if_false, if_true], by simp only [legF, q, nx, hs0 _ hS, sne_segment_data, sne_segment_repeat, sne_segment_barred, Bool.false_eq_true, if_false, if_true, beq_self_eq_true, ne_eq]⟩
      | false =>
        refine .inr ⟨by simp only [stepF, e, q, hS, hX, sne_segment_repeat, sne_segment_lock, sne_segment_barred, Bool.or_false, Bool.false_and, Bool.false_eq_true, if_false], ?_⟩
        simp only [legF, q, nx, hs0 _ hS, sne_segment_data, sne_segment_repeat, sne_segment_barred, Bool.false_eq_true, if_false, if_true, beq_self_eq_true, ne_eq]
        simp only [pfxOf, placeF, getF_app_eq hS, hasK_app, getF_app_ne (show ("segment" : Str) ≠ "repeat" by decide), getF_app_ne (show ("segment" : Str) ≠ "rex" by decide), rx, sne_segment_data, sne_segment_lock, Bool.or_false]
        rcases hv with rfl | rfl <;> rfl
    · rw [e, q]
      cases hS : hasK held "data" with
      | true => exact .inl ⟨by simp only [stepF, e, q, hS, sne_data_repeat, sne_data_lock, sne_data_barred, Bool.or_false, Bool.or_true, Bool.true_or, Bool.false_and, Bool.false_eq_true, if_false, if_true], by simp only [legF, q, nx, hd0, hS, sne_data_segment, sne_data_repeat, sne_data_barred, Bool.false_eq_true, if_false, if_true, beq_self_eq_true, ne_eq]⟩
      | false =>
        refine .inr ⟨by simp only [stepF, e, q, hS, hX, sne_data_repeat, sne_data_lock, sne_data_barred, Bool.or_false, Bool.false_and, Bool.false_eq_true, if_false], ?_⟩
        simp only [legF, q, nx, hd0, hS, sne_data_segment, sne_data_repeat, sne_data_barred, Bool.false_eq_true, if_false, if_true, beq_self_eq_true, ne_eq]
        simp only [pfxOf, place_app_ne (show ("data" : Str) ≠ "segment" by decide), hasK_app, getF_app_ne (show ("data" : Str) ≠ "repeat" by decide), getF_app_ne (show ("data" : Str) ≠ "rex" by decide), rx, sne_data_lock, Bool.or_false, Bool.or_true, beq_self_eq_true]
    · rw [e, q]
      cases hS : hasK held "repeat" with
      | true => exact .inl ⟨by simp only [stepF, e, q, hS, sne_repeat_lock, sne_repeat_barred, Bool.or_true, Bool.false_or, Bool.true_or, Bool.and_true, Bool.true_and, if_true, beq_self_eq_true], by simp only [legF, q, nx, ne_eq, hrb _ hS, sne_repeat_segment, sne_repeat_data, sne_repeat_barred, Bool.false_eq_true, if_false, if_true, beq_self_eq_true, or_true, true_or, ne_eq, not_false_eq_true, reduceCtorEq]⟩
      | false =>
        cases hL : hasK held "lock" with
        | true => exact .inl ⟨by simp only [stepF, e, q, hS, hX, hL, ite_self, sne_repeat_lock, sne_repeat_barred, Bool.or_false, Bool.or_true, Bool.and_false, Bool.and_true, Bool.false_eq_true, if_true, beq_self_eq_true], by simp only [legF, q, nx, hl0, hL, sne_repeat_segment, sne_repeat_data, sne_repeat_barred, Bool.false_eq_true, if_false, if_true, beq_self_eq_true, or_true, true_or, ne_eq]⟩
        | false =>
          refine .inr ⟨by simp only [stepF, e, q, hS, hX, hL, sne_repeat_lock, sne_repeat_barred, Bool.or_false, Bool.and_false, Bool.false_eq_true, if_false, beq_self_eq_true], ?_⟩
          simp only [legF, q, nx, hl0, hL, ne_eq, hrb _ hS, sne_repeat_segment, sne_repeat_data, sne_repeat_barred, Bool.false_eq_true, if_false, if_true, beq_self_eq_true, or_false, ne_eq, not_true_eq_false]
          simp only [pfxOf, place_app_ne (show ("repeat" : Str) ≠ "segment" by decide), hasK_app, getF_app_eq hS, getF_app_ne (show ("repeat" : Str) ≠ "rex" by decide), rx, hL, sne_repeat_data, sne_repeat_lock, Bool.or_false]
    · rw [e, q]
      cases hS : hasK held "lock" with
      | true => exact .inl ⟨by simp only [stepF, e, q, hS, sne_lock_repeat, sne_lock_barred, Bool.or_false, Bool.or_true, Bool.true_or, Bool.and_true, Bool.true_and, if_true, beq_self_eq_true], by simp only [legF, q, nx, hl0, hS, sne_lock_segment, sne_lock_data, sne_lock_repeat, sne_lock_barred, Bool.false_eq_true, if_false, if_true, or_true, true_or, ne_eq]⟩
      | false =>
        cases hL : hasK held "repeat" with
        | true => exact .inl ⟨by simp only [stepF, e, q, hS, hX, hL, ite_self, sne_lock_repeat, sne_lock_barred, Bool.or_false, Bool.and_false, Bool.and_true, Bool.false_eq_true, if_true, beq_self_eq_true], by simp only [legF, q, nx, ne_eq, hrb _ hL, sne_lock_segment, sne_lock_data, sne_lock_repeat, sne_lock_barred, Bool.false_eq_true, if_false, if_true, or_true, true_or, ne_eq, not_false_eq_true, reduceCtorEq]⟩
        | false =>
          refine .inr ⟨by simp only [stepF, e, q, hS, hX, hL, sne_lock_repeat, sne_lock_barred, Bool.or_false, Bool.and_false, Bool.false_eq_true, if_false, beq_self_eq_true], ?_⟩
          simp only [legF, q, nx, hl0, hS, ne_eq, hrb _ hL, sne_lock_segment, sne_lock_data, sne_lock_repeat, sne_lock_barred, Bool.false_eq_true, if_false, or_false, ne_eq, not_true_eq_false]
          simp only [pfxOf, place_app_ne (show ("lock" : Str) ≠ "segment" by decide), hasK_app, getF_app_ne (show ("lock" : Str) ≠ "repeat" by decide), getF_app_ne (show ("lock" : Str) ≠ "rex" by decide), getF_no hL, rx, sne_lock_data, Bool.or_false, Bool.or_true, beq_self_eq_true]
    · refine .inl ⟨?_, ?_⟩
      · unfold stepF; rw [e, q]; rfl
      · unfold legF; rw [q]; rfl
    · exact absurd q hs
end
/-- both walks tell the same -/
theorem walk_read : ∀ (xs : List Int) (held : Held) (n : Nat), Good held → (∀ y ∈ xs, 0 ≤ y) → readF (pfxOf held) xs n = (walkF held xs n).map fun p => (pfxOf p.1, p.2)
  | [], _, _, _, _ => rfl
  | o :: r, held, n, g, hy => by
    have hr := fun y h => hy y (.tail _ h)
    have ho := hy o (.head _)
    by_cases hx : 64 ≤ o ∧ o ≤ 79
    · have e : lsortF o = "rex" := if_pos hx
      have ne : (lsortF o != "") = true := by rw [e]; decide
      rw [readF, walkF, if_pos hx, if_pos ne]
      rcases step_rex g hx with ⟨h1, h2⟩ | ⟨h1, h2, h3⟩
      · rw [if_pos h1, h2]; rfl
      · rw [if_neg h1, h2, ← h3]
        exact walk_read r _ _ (good_app g ho) hr
    · have e : lsortF o = sortF o := if_neg hx
      rw [readF, walkF, if_neg hx, e]
      by_cases hs : sortF o = ""
      · have ne : ¬ (sortF o != "") = true := by rw [hs]; decide
        rw [if_neg ne, if_neg ne]; rfl
      · have ne : (sortF o != "") = true := bne_iff_ne.mpr hs
        rw [if_pos ne, if_pos ne]
        rcases step_leg g hx hs with ⟨h1, h2⟩ | ⟨h1, h2⟩
        · rw [h1, h2]; rfl
        · rw [h1, h2]
          exact walk_read r _ _ (good_app g ho) hr
theorem step_good {held h : Held} {o : Int} (g : Good held) (ho : 0 ≤ o) (q : stepF held o = some h) : Good h := by
  unfold stepF at q
  split at q
  · cases q
  · split at q
    · cases q
    · cases q; exact good_app g ho
theorem walk_good : ∀ (xs : List Int) (held : Held) (n : Nat) {h : Held} {k : Nat}, Good held → (∀ y ∈ xs, 0 ≤ y) → walkF held xs n = some (h, k) → Good h ∧ h.length ≤ held.length + xs.length
  | [], _, _, _, _, g, _, q => by cases q; exact ⟨g, Nat.le_refl _⟩
  | o :: r, held, n, h, k, g, hy, q => by
    rw [walkF] at q
    split at q
    · cases e : stepF held o with
      | none => rw [e] at q; cases q
      | some h' =>
        rw [e] at q
        have z := walk_good r h' (n + 1) (step_good g (hy o (.head _)) e) (fun y hh => hy y (.tail _ hh)) q
        refine ⟨z.1, ?_⟩
        have := step_len e
        simp only [List.length_cons]
        omega
    · cases q
      exact ⟨g, Nat.le_add_right _ _⟩
theorem pfx_nil : pfxOf [] = pfx0 := rfl
theorem good_nil : Good [] := fun _ h => nomatch h
section
variable {zs : List Int} {n0 : Nat}
theorem both (hz : ∀ y ∈ zs, 0 ≤ y ∧ y < 256) : readF pfx0 (zs.drop n0) n0 = (walkF [] (zs.drop n0) n0).map fun p => (pfxOf p.1, p.2) :=
  walk_read _ [] _ good_nil fun y h => (hz y (List.mem_of_mem_drop h)).1
theorem no_some (hz : ∀ y ∈ zs, 0 ≤ y ∧ y < 256) {Y : Pfx} {n : Nat} (a : walkF [] (zs.drop n0) n0 = none) (b : readF pfx0 (zs.drop n0) n0 = some (Y, n)) : False := by
  rw [both hz, a] at b; cases b
theorem some_no (hz : ∀ y ∈ zs, 0 ≤ y ∧ y < 256) {h : Held} {n : Nat} (a : walkF [] (zs.drop n0) n0 = some (h, n)) (b : readF pfx0 (zs.drop n0) n0 = none) : False := by
  rw [both hz, a] at b; cases b
theorem some_some (hz : ∀ y ∈ zs, 0 ≤ y ∧ y < 256) {h : Held} {n k : Nat} {Y : Pfx} (a : walkF [] (zs.drop n0) n0 = some (h, n)) (b : readF pfx0 (zs.drop n0) n0 = some (Y, k)) : Y = pfxOf h ∧ k = n ∧ Good h ∧ h.length ≤ zs.length := by
  rw [both hz, a] at b
  have z := walk_good _ [] _ good_nil (fun y h => (hz y (List.mem_of_mem_drop h)).1) a
  cases b
  refine ⟨rfl, rfl, z.1, Nat.le_trans z.2 ?_⟩
  simp
end
/-- the octets that the law steps on with -/
noncomputable abbrev Octs : List Int := [100, 101, 102, 240, 242, 243, 46, 103]
theorem octs_leg {o : Int} (h : o ∈ Octs) : ¬ (64 ≤ o ∧ o ≤ 79) ∧ sortF o ≠ "" ∧ 0 ≤ o := by
  simp only [Octs, List.mem_cons, List.not_mem_nil, or_false] at h
  rcases h with rfl | rfl | rfl | rfl | rfl | rfl | rfl | rfl <;> exact ⟨by decide, by decide, by decide⟩
section
variable {held h : Held} {o : Int} {Y : Pfx}
theorem leg_no (g : Good held) (ho : o ∈ Octs) (a : stepF held o = none) (b : legF (pfxOf held) o = some Y) : False := by
  rcases step_leg g (octs_leg ho).1 (octs_leg ho).2.1 with ⟨_, e⟩ | ⟨e, _⟩
  · rw [e] at b; cases b
  · rw [e] at a; cases a
theorem leg_yes (g : Good held) (ho : o ∈ Octs) (a : stepF held o = some h) (b : legF (pfxOf held) o = none) : False := by
  rcases step_leg g (octs_leg ho).1 (octs_leg ho).2.1 with ⟨e, _⟩ | ⟨_, e⟩
  · rw [e] at a; cases a
  · rw [e] at b; cases b
theorem leg_both (g : Good held) (ho : o ∈ Octs) (a : stepF held o = some h) (b : legF (pfxOf held) o = some Y) : Y = pfxOf h ∧ Good h := by
  rcases step_leg g (octs_leg ho).1 (octs_leg ho).2.1 with ⟨e, _⟩ | ⟨e1, e2⟩
  · rw [e] at a; cases a
  · have z := step_good g (octs_leg ho).2.2 a
    rw [e1] at a
    cases a
    rw [e2] at b
    cases b
    exact ⟨rfl, z⟩
end
end Mine
end
section
open PySem PySem.W PyProof.Rows PySem.W.X PySem.Calls PySem.Spec
namespace Mine
/-- a def's code table ps and the codes that it names -/
noncomputable def TabOk (qual : Str) (ps : Array Value) (codes : List (Addr × Obj)) : Prop :=
  TriplesOk ps.toList ∧ ∀ pos cv, codeAmong pos ps.toList = some cv → ∃ c' oc vs t, cv = .ref c' ∧ (c', oc) ∈ codes ∧ oc.data = .fields vs ∧ vs[1]? = some (.str qual t)
theorem triples_1 {l : List Value} {q : Str} {t : Tok} (h : TriplesOk l) (e : l[1]? = some (.str q t)) : False := by
  fun_cases TriplesOk l with
  | case1 => cases e
  | case2 a t b u x rest => cases e
  | case3 l h1 h2 =>
    unfold TriplesOk at h
    split at h
    · exact h1 rfl
    · exact h2 _ _ _ _ _ _ rfl
    · exact h
theorem TabOk.nil {qual : Str} : TabOk qual #[] [] := ⟨trivial, fun _ _ h => nomatch h⟩
theorem among_snoc {pos p : Pos} {c cv : Value} (l : List Value) (h : TriplesOk l) (e : codeAmong pos (l ++ [rawInt p.line, rawInt p.col, c]) = some cv) : codeAmong pos l = some cv ∨ cv = c := by
  fun_induction TriplesOk l with
  | case1 =>
    simp only [List.nil_append, codeAmong, rawInt] at e
    split at e
    · exact .inr (Option.some.inj e).symm
    · cases e
  | case2 a t b u x rest ih =>
    simp only [List.cons_append, codeAmong] at e ⊢
    split at e
    · rename_i q
      rw [if_pos q]
      exact .inl e
    · rename_i q
      rw [if_neg q]
      exact ih h e
  | case3 => exact h.elim
theorem TabOk.snoc {qual : Str} {ps : Array Value} {codes : List (Addr × Obj)} {p : Pos} {c' : Addr} {oc : Obj} {vs : Array Value} {t : Tok} (h : TabOk qual ps codes) (hd : oc.data = .fields vs) (hv : vs[1]? = some (.str qual t)) :
    TabOk qual (ps ++ #[rawInt p.line, rawInt p.col, .ref c']) ((c', oc) :: codes) := by
  refine ⟨?_, fun pos cv e => ?_⟩
  · rw [Array.toList_append]
    exact TriplesOk_snoc _ _ _ _ h.1
  · rw [Array.toList_append] at e
    rcases among_snoc _ h.1 e with e | e
    · obtain ⟨c₂, oc₂, vs₂, t₂, e1, e2, e3⟩ := h.2 pos cv e
      exact ⟨c₂, oc₂, vs₂, t₂, e1, .tail _ e2, e3⟩
    · exact ⟨c', oc, vs, t, e, .head _, hd, hv⟩
section
variable {M : Model} {A : Around} {E : Value → Shared → Prop} {s : Shared} {h₀ : Heap} {L a c P : Addr} {m mg mb : Str → Option Value} {cn : Str} {cs : Scope} {ccd : Value} {cl : List (Str × Addr)} {news codes : List (Addr × Obj)} {g : Obj → List (Addr × Obj)}
  {p : Program} {loose : List Str} {mean : ExcName → Option Value} {name qual : Str} {params : Arguments} {body : PySem.Expr} {scope : Scope} {ps : Array Value} {pos : Pos} {firstLine : Nat} {clos : List (Str × Addr)}
/-- a lambda, whatever the table holds -/
theorem lam_made {Q : Value → Shared → Prop} (F : Fr h₀ L s.heap m) (N : News h₀ L s.heap news) (T : Top p loose mean mg mb h₀) (C : CodeHd h₀ c P) (hcd : ccd = .ref c) (U : UpdF P (tabObj ps) news g) (ok : TabOk qual ps codes) (hc : ∀ q ∈ codes, q ∈ news)
    (hcl : closureFor scope (envX cn cs L a ccd cl) = pure clos)
    (h : ∀ f c' oc vs t ctv ps' codes' h' tk, Fr h₀ L h' m → News h₀ L h' ((f, kla_obj name qual params body scope clos ((mg "__name__").getD .none) c' ctv) :: (c', oc) :: g (tabObj ps')) → oc.data = .fields vs → vs[1]? = some (.str qual t) →
      TabOk qual ps' codes' → (∀ q ∈ codes', q ∈ (c', oc) :: codes) → P ≠ c' → ((∀ q ∈ news, q.1 < c') ∨ (c', oc) ∈ codes) → Q (.ref f) { s with heap := h', toks := tk }) :
    wpAny M A (makeFunction name qual params (.expr body) scope (envX cn cs L a ccd cl) [] [] [] pos firstLine) Q E s := by
  have hPm : (P, tabObj ps) ∈ news ∧ g (tabObj ps) = news := by
    obtain ⟨pre, post, e1, e2, _⟩ := U.split
    exact ⟨by rw [e1]; exact List.mem_append_right _ (.head _), by rw [e1, e2]⟩
  cases hf : codeAmong pos ps.toList with
  | none =>
    refine kla_nest F N T C hcd U ok.1 hf hcl fun f c' oc vs t ctv h' tk F' N' hd hv hlt _ => ?_
    exact h f c' oc vs t ctv _ _ h' tk F' N' hd hv (ok.snoc hd hv) (fun q hq => hq) (Nat.ne_of_lt (hlt _ hPm.1)) (.inl hlt)
  | some cv =>
    obtain ⟨c', oc, vs, t, rfl, hm, hd, hv⟩ := ok.2 _ _ hf
    refine kla_hit F N T C hcd hPm.1 ok.1 hf hcl fun f ctv h' tk F' N' _ => ?_
    refine h f c' oc vs t ctv ps codes h' tk F' (fun q hq => ?_) hd hv ok (fun q hq => .tail _ hq) (fun e => ?_) (.inr hm)
    · rcases List.mem_cons.mp hq with rfl | hq
      · exact N' _ (.head _)
      · rcases List.mem_cons.mp hq with rfl | hq
        · exact N' _ (.tail _ (hc _ hm))
        · exact N' _ (.tail _ (hPm.2 ▸ hq))
    · have z1 := (N _ hPm.1).1
      have z2 := (N _ (hc _ hm)).1
      have z3 : ((c', oc) : Addr × Obj).1 = P := e.symm
      rw [z3, z1] at z2
      have z4 : tabObj ps = oc := Option.some.inj z2
      rw [← z4] at hd
      have z5 : ps = vs := by cases hd; rfl
      rw [← z5, ← Array.getElem?_toList] at hv
      exact triples_1 ok.1 hv
end
/-- a contract of a def that catches, with the ledger that it leaves -/
noncomputable abbrev CTk (w : World) (mean : ExcName → Option Value) (mg mb : Str → Option Value) (dp un : Nat) (f : Addr) (vs : List Value) (news keep : List (Addr × Obj)) (Ret : Value → List (Addr × Obj) → Prop) : Prop :=
  ∀ (gd : Option (List Code)) (cn : Str) (cs : Scope) (a : Addr) (ccd : Value) (cl : List (Str × Addr)) (outer : List Env) (A₀ : Around) (base g₀ h₀ : Heap) (L : Addr) (m : Str → Option Value) (s : Shared) (Q E : Value → Shared → Prop),
    Below A₀ base outer h₀ → Fr h₀ L s.heap m → (K2 w.params).In h₀ → News h₀ L s.heap news → Top VV LL mean mg mb h₀ → (K2 w.params).In base → Top VV LL mean mg mb base → KtsDicts (outer.filterMap (·.frame)) h₀ → KtsTurn (outer.filterMap (·.frame)) g₀ h₀ → cs.kind = .function →
    TRetP w mean mg mb A₀ base outer g₀ L m keep s Q Ret →
    wpAny (model PP w) (ktrTop dp un gd cn cs L a ccd cl outer) (call (.ref f) vs) Q E s
theorem CTk.lower {w : World} {mean : ExcName → Option Value} {mg mb : Str → Option Value} {dp un dp' un' : Nat} {f : Addr} {vs : List Value} {news keep : List (Addr × Obj)} {Ret : Value → List (Addr × Obj) → Prop}
    (h : CTk w mean mg mb dp un f vs news keep Ret) (d : dp' ≤ dp) (u : un' ≤ un) : CTk w mean mg mb dp' un' f vs news keep Ret :=
  fun gd cn cs a ccd cl outer A₀ base g₀ h₀ L m s Q E h1 h2 h3 h4 h5 h6 h7 h8 h9 h10 h11 => wpAny_lower (h gd cn cs a ccd cl outer A₀ base g₀ h₀ L m s Q E h1 h2 h3 h4 h5 h6 h7 h8 h9 h10 h11) d u
theorem News.dup {h₀ h : Heap} {L : Addr} {x : Addr × Obj} {l : List (Addr × Obj)} (N : News h₀ L h l) (hx : x ∈ l) : News h₀ L h (x :: l) := fun p hp => (List.mem_cons.mp hp).elim (fun e => e ▸ N x hx) (N p)
theorem News.undup {h₀ h : Heap} {L : Addr} {x : Addr × Obj} {tl l : List (Addr × Obj)} (N : News h₀ L h (tl ++ x :: l)) : News h₀ L h (tl ++ l) := fun p hp => N p ((List.mem_append.mp hp).elim (List.mem_append_left _) fun h => List.mem_append_right _ (.tail _ h))
theorem News.dup2 {h₀ h : Heap} {L : Addr} {a b : Addr × Obj} {l : List (Addr × Obj)} (N : News h₀ L h l) (h1 : a ∈ l) (h2 : b ∈ l) : News h₀ L h (a :: b :: l) := News.dup (News.dup N h2) (.tail _ h1)
theorem News.dup5 {h₀ h : Heap} {L : Addr} {a b c d e : Addr × Obj} {l : List (Addr × Obj)} (N : News h₀ L h l) (h1 : a ∈ l) (h2 : b ∈ l) (h3 : c ∈ l) (h4 : d ∈ l) (h5 : e ∈ l) : News h₀ L h (a :: b :: c :: d :: e :: l) :=
  News.dup (News.dup (News.dup (News.dup (News.dup N h5) (.tail _ h4)) (.tail _ (.tail _ h3))) (.tail _ (.tail _ (.tail _ h2)))) (.tail _ (.tail _ (.tail _ (.tail _ h1))))
theorem News.undup5 {h₀ h : Heap} {L : Addr} {a b c d e : Addr × Obj} {tl l : List (Addr × Obj)} (N : News h₀ L h (tl ++ a :: b :: c :: d :: e :: l)) : News h₀ L h (tl ++ l) := News.undup (News.undup (News.undup (News.undup (News.undup N))))
theorem News.dup7 {h₀ h : Heap} {L : Addr} {a b c d e f g : Addr × Obj} {l : List (Addr × Obj)} (N : News h₀ L h l) (h1 : a ∈ l) (h2 : b ∈ l) (h3 : c ∈ l) (h4 : d ∈ l) (h5 : e ∈ l) (h6 : f ∈ l) (h7 : g ∈ l) : News h₀ L h (a :: b :: c :: d :: e :: f :: g :: l) :=
  News.dup2 (News.dup5 N h3 h4 h5 h6 h7) (.tail _ (.tail _ (.tail _ (.tail _ (.tail _ h1))))) (.tail _ (.tail _ (.tail _ (.tail _ (.tail _ h2)))))
theorem News.undup7 {h₀ h : Heap} {L : Addr} {a b c d e f g : Addr × Obj} {tl l : List (Addr × Obj)} (N : News h₀ L h (tl ++ a :: b :: c :: d :: e :: f :: g :: l)) : News h₀ L h (tl ++ l) := News.undup5 (News.undup (News.undup N))
/-- what the loop over the written octets keeps -/
noncomputable def RJ (w : World) (mean : ExcName → Option Value) (mg mb : Str → Option Value) (A₁ : Around) (base : Heap) (envs : List Env) (g₀ : Heap) (qual : Str) (P coct I : Addr) (fixed rest tail : List (Addr × Obj)) (m₀ : Str → Option Value) (_ : Nat) (g : Heap) (m : Str → Option Value) (l : List (Addr × Obj)) : Prop :=
  ∃ (u : Str → Option Value) (ps : Array Value) (codes : List (Addr × Obj)) (oo : Obj) (v : Option Value), m = (fun z => if [Str.ofString "later", Str.ofString "told"].contains z then u z else m₀ z) ∧ l = fixed ++ (coct, oo) :: (P, tabObj ps) :: (rest ++ (codes ++ tail)) ∧ oo.data = .cell v ∧ TabOk qual ps codes ∧ (∀ p ∈ codes ++ tail, p.1 ≠ P) ∧ (∀ p ∈ codes ++ tail, p.1 ≠ coct) ∧ (∀ p ∈ codes ++ tail, p.1 ≠ I) ∧
    KtsTurn (envs.filterMap (·.frame)) g₀ g ∧ Below A₁ base envs g ∧ (K2 w.params).In g ∧ Top VV LL mean mg mb g ∧ KtsDicts (envs.filterMap (·.frame)) g
theorem for_next {L : Addr} {s : Shared} {J : Nat → Heap → (Str → Option Value) → List (Addr × Obj) → Prop} {I : Addr} {iob : Obj} {Q : Flow → Shared → Prop} {i : Nat} {g h : Heap} {m : Str → Option Value} {news : List (Addr × Obj)} {tk : Nat}
    (F : Fr g L h m) (N : News g L h ((I, iob) :: news)) (j : J i g m news) : ForEnd L s J I iob Q i .next { s with heap := h, toks := tk } := ⟨g, m, news, h, tk, rfl, F, N, j⟩
theorem for_cont {L : Addr} {s : Shared} {J : Nat → Heap → (Str → Option Value) → List (Addr × Obj) → Prop} {I : Addr} {iob : Obj} {Q : Flow → Shared → Prop} {i : Nat} {g h : Heap} {m : Str → Option Value} {news : List (Addr × Obj)} {tk : Nat}
    (F : Fr g L h m) (N : News g L h ((I, iob) :: news)) (j : J i g m news) : ForEnd L s J I iob Q i .cont { s with heap := h, toks := tk } := ⟨g, m, news, h, tk, rfl, F, N, j⟩
theorem News.sub {h₀ h : Heap} {L : Addr} {l l' : List (Addr × Obj)} (N : News h₀ L h l) (k : ∀ p ∈ l', p ∈ l) : News h₀ L h l' := fun p hp => N p (k p hp)
theorem news_size {h₀ h : Heap} {L : Addr} {l : List (Addr × Obj)} (N : News h₀ L h l) : ∀ p ∈ l, p.1 ≠ h.objs.size := fun p hp => Nat.ne_of_lt (Heap.lt_size (N p hp).1)
theorem TabOk.mono {qual : Str} {ps : Array Value} {codes codes' : List (Addr × Obj)} (h : TabOk qual ps codes) (k : ∀ q ∈ codes, q ∈ codes') : TabOk qual ps codes' :=
  ⟨h.1, fun pos cv e => let ⟨c', oc, vs, t, e1, e2, e3⟩ := h.2 pos cv e; ⟨c', oc, vs, t, e1, k _ e2, e3⟩⟩
section
variable {w : World} {mean : ExcName → Option Value} {mg mb : Str → Option Value} {A₁ : Around} {base : Heap} {envs : List Env} {g₀ g h : Heap} {qual : Str} {P coct L : Addr} {fixed rest tail codes : List (Addr × Obj)} {m₀ : Str → Option Value} {oo : Obj} {ps : Array Value} {v : Option Value}
theorem RJ.start (N : News g L h (fixed ++ (coct, oo) :: (P, tabObj ps) :: (rest ++ (codes ++ tail)))) (hoo : oo.data = .cell v) (ok : TabOk qual ps codes) (h1 : ∀ p ∈ codes ++ tail, p.1 ≠ P) (h2 : ∀ p ∈ codes ++ tail, p.1 ≠ coct)
    (T0 : KtsTurn (envs.filterMap (·.frame)) g₀ g) (B : Below A₁ base envs g) (X : (K2 w.params).In g) (T : Top VV LL mean mg mb g) (D : KtsDicts (envs.filterMap (·.frame)) g) :
    RJ w mean mg mb A₁ base envs g₀ qual P coct h.objs.size fixed rest tail m₀ 0 g m₀ (fixed ++ (coct, oo) :: (P, tabObj ps) :: (rest ++ (codes ++ tail))) :=
  ⟨m₀, ps, codes, oo, v, funext fun z => by split <;> rfl, rfl, hoo, ok, h1, h2, fun p hp => news_size N p (List.mem_append_right _ (.tail _ (.tail _ (List.mem_append_right _ hp)))), T0, B, X, T, D⟩
theorem RJ.hJ {x : Addr × Obj} (N : News g L h ((x :: fixed) ++ (coct, oo) :: (P, tabObj ps) :: (rest ++ (codes ++ tail)))) :
    ∀ i g m l, RJ w mean mg mb A₁ base envs g₀ qual P coct h.objs.size (x :: fixed) rest tail m₀ i g m l → x ∈ l ∧ ∀ p ∈ l, p.1 ≠ h.objs.size := by
  rintro i g m l ⟨u, ps', codes', oo', v', rfl, rfl, _, _, _, _, hI, _⟩
  have off := news_size N
  refine ⟨.head _, fun p hp => ?_⟩
  rcases List.mem_append.mp hp with hp | hp
  · exact off p (List.mem_append_left _ hp)
  · rcases List.mem_cons.mp hp with rfl | hp
    · exact off (coct, oo) (List.mem_append_right _ (.head _))
    · rcases List.mem_cons.mp hp with rfl | hp
      · exact off (P, tabObj ps) (List.mem_append_right _ (.tail _ (.head _)))
      · rcases List.mem_append.mp hp with hp | hp
        · exact off p (List.mem_append_right _ (.tail _ (.tail _ (List.mem_append_left _ hp))))
        · exact hI p hp
end
section
variable {prog : Program} {w : World} {A : Around} {E : Value → Shared → Prop} {s : Shared} {env : Env} {Q : Flow → Shared → Prop}
theorem for_listI {x : Str} {px : Pos} {body : List Stmt} {ax : Addr} {lob : Obj} {items : Array Value} {g₀ : Heap} {m₀ : Str → Option Value} {news₀ : List (Addr × Obj)}
    (hh : A.handled = none) (J : Nat → Heap → (Str → Option Value) → List (Addr × Obj) → Prop) (hc : lob.cls = .type "list") (hd : ∃ n, lob.data = .seq items n)
    (hJ : ∀ i g m news, J i g m news → (ax, lob) ∈ news ∧ ∀ p ∈ news, p.1 ≠ s.heap.objs.size) (F : Fr g₀ env.locals s.heap m₀) (N : News g₀ env.locals s.heap news₀) (h0 : J 0 g₀ m₀ news₀)
    (turn : Cut (∀ i v g m news h tk I iob, items[i]? = some v → J i g m news → Fr g env.locals h m → News g env.locals h ((I, iob) :: news) → iob.cls = .type "list_iterator" → (∃ fs, iob.data = .fields fs) → I = s.heap.objs.size →
      wpAny (model prog w) A (storeName env x v) (fun _ s₂ => wpAny (model prog w) A (execs body env) (ForEnd env.locals s J I iob Q (i + 1)) E s₂) E { s with heap := h, toks := tk }))
    (done : Cut (∀ g m news h tk, J items.size g m news → Fr g env.locals h m → News g env.locals h news → Q .next { s with heap := h, toks := tk }))
    (hE : PassesOwn (model prog w) A env E := by passes_own) :
    wpAny (model prog w) A (pyIter (.ref ax)) (fun it s₂ => codeAny (model prog w) A (.forLoop (.Name x px) it body [] env) (fun r s' => match r with | .ok f => Q f s' | .error e => cameBackBy (model prog w) A env E e s') s₂) E s := by
  have isl : ∀ {h : Heap}, h.get? ax = some lob → h.IsList ax items := fun e => ⟨lob, e, hc, hd⟩
  have hax := (N _ (hJ _ _ _ _ h0).1).1
  refine wpAny_pyIter_list (isl hax) ?_
  have lt0 : ∀ b o, s.heap.get? b = some o → b ≠ s.heap.objs.size := fun b o e => Nat.ne_of_lt (Heap.lt_size e)
  refine codeAny_forLoop (fun n s' => ∃ i g m news h tk iob, s' = { s with heap := h, toks := tk } ∧ i ≤ items.size ∧ n = items.size - i ∧ J i g m news ∧ Fr g env.locals h m ∧ News g env.locals h ((s.heap.objs.size, iob) :: news) ∧
      iob.cls = .type "list_iterator" ∧ iob.data = .fields #[.ref ax, .int (i : Int) 0]) ?_ items.size
    ⟨0, g₀, m₀, news₀, _, s.toks, { cls := .type "list_iterator", data := .fields #[.ref ax, .int 0 0] }, rfl, Nat.zero_le _, rfl, h0, F.push _, N.push F _, rfl, rfl⟩
  rintro n s' ⟨i, g, m, news, h, tk, iob, rfl, hi, rfl, hj, F', N', c1, c2⟩
  have hl := hJ _ _ _ _ hj
  have hlst : h.IsList ax items := isl (N' _ (.tail _ hl.1)).1
  have hit : h.IsListIter s.heap.objs.size ax i := ⟨iob, (N' _ (.head _)).1, c1, c2⟩
  have hap := hl.2
  cases hv : items[i]? with
  | none =>
    have hsz : i = items.size := Nat.le_antisymm hi (by simpa using hv)
    subst hsz
    refine wpAny_pyNext_list_end hh hit hlst hv fun h₁ he => wpAny_execs_nil ?_
    have hI := (N' _ (.head _)).2
    exact done.un g m news h₁ tk hj ⟨F'.ns.extBut he (Ne.symm hI.1), fun b o e => he b o (fun z => by rw [z, hI.2] at e; cases e) (F'.keep b o e), F'.above⟩ fun p hp => ⟨he _ _ (hap p hp) (N' p (.tail _ hp)).1, (N' p (.tail _ hp)).2⟩
  | some v =>
    have hlt : i < items.size := (Array.getElem?_eq_some_iff.mp hv).1
    refine wpAny_pyNext_list_item hit hlst hv fun h₁ hit₁ hs => ?_
    obtain ⟨iob₁, e1, e2, e3⟩ := hit₁
    have hI := (N' _ (.head _)).2
    have F₁ : Fr g env.locals h₁ m := F'.change hs hI.1 hI.2
    have N₁ : News g env.locals h₁ ((s.heap.objs.size, iob₁) :: news) := news_set (pre := []) N' (fun _ hp => nomatch hp) hap hs e1
    refine wpAny_assign_Name (wpAny_passesOwn hE (wpAny_mono (turn.un i v g m news h₁ tk s.heap.objs.size iob₁ hv hj F₁ N₁ e2 ⟨_, e3⟩ rfl) (fun _ s₂ q => wpAny_passesOwn hE (wpAny_mono q (fun f s₃ q => ?_) fun _ _ e => e)) fun _ _ e => e))
    cases f with
    | ret v => exact q
    | brk => exact q
    | next =>
      obtain ⟨g', m', news', h', tk', rfl, F₂, N₂, j₂⟩ := q
      exact ⟨items.size - (i + 1), by omega, i + 1, g', m', news', h', tk', iob₁, rfl, hlt, rfl, j₂, F₂, N₂, e2, e3⟩
    | cont =>
      obtain ⟨g', m', news', h', tk', rfl, F₂, N₂, j₂⟩ := q
      exact ⟨items.size - (i + 1), by omega, i + 1, g', m', news', h', tk', iob₁, rfl, hlt, rfl, j₂, F₂, N₂, e2, e3⟩
end
theorem iter_cls {o : Obj} (h : o.cls = .type "list_iterator") : o.cls ≠ .none := by rw [h]; intro e; cases e
theorem octs_at {a b c d e f g k : Tok} {i : Nat} {v : Value} (h : (#[.int 100 a, .int 101 b, .int 102 c, .int 240 d, .int 242 e, .int 243 f, .int 46 g, .int 103 k] : Array Value)[i]? = some v) : ∃ o t, v = .int o t ∧ o ∈ ([100, 101, 102, 240, 242, 243, 46, 103] : List Int) := by
  have hi : i < 8 := (Array.getElem?_eq_some_iff.mp h).1
  match i, hi with
  | 0, _ => cases h; exact ⟨_, _, rfl, by decide⟩
  | 1, _ => cases h; exact ⟨_, _, rfl, by decide⟩
  | 2, _ => cases h; exact ⟨_, _, rfl, by decide⟩
  | 3, _ => cases h; exact ⟨_, _, rfl, by decide⟩
  | 4, _ => cases h; exact ⟨_, _, rfl, by decide⟩
  | 5, _ => cases h; exact ⟨_, _, rfl, by decide⟩
  | 6, _ => cases h; exact ⟨_, _, rfl, by decide⟩
  | 7, _ => cases h; exact ⟨_, _, rfl, by decide⟩
theorem ne_more {P c' : Addr} {oc : Obj} {codes tail : List (Addr × Obj)} (h : c' ≠ P) (hne : ∀ p ∈ codes ++ tail, p.1 ≠ P) : ∀ p ∈ ((c', oc) :: codes) ++ tail, p.1 ≠ P := fun p hp => by
  rcases List.mem_cons.mp hp with rfl | hp
  · exact h
  · exact hne p hp
theorem same_lt {u m₀ : Str → Option Value} {a b : Option Value} {z : Str} (hz : [Str.ofString "later", Str.ofString "told"].contains z = false) :
    (if z = Str.ofString "told" then a else if z = Str.ofString "later" then b else if [Str.ofString "later", Str.ofString "told"].contains z = true then u z else m₀ z) = m₀ z := by
  have h1 : z ≠ Str.ofString "told" := fun e => by rw [e] at hz; simp at hz
  have h2 : z ≠ Str.ofString "later" := fun e => by rw [e] at hz; simp at hz
  rw [if_neg h1, if_neg h2, hz, if_neg Bool.false_ne_true]
section
variable {w : World} {mean : ExcName → Option Value} {mg mb : Str → Option Value} {A₁ : Around} {base : Heap} {envs : List Env} {g₀ g h : Heap} {qual : Str} {P coct L I I0 c' : Addr} {fixed rest tail codes codes' l ln : List (Addr × Obj)} {m₀ m' : Str → Option Value} {oo oc iob : Obj} {ps : Array Value} {v : Option Value} {s : Shared} {Q : Flow → Shared → Prop} {i tk : Nat}
theorem RJ.next (hsub : ∀ q ∈ codes', q ∈ (c', oc) :: codes) (ok : TabOk qual ps codes') (hp : P ≠ c') (hnew : (∀ q ∈ ln, q.1 < c') ∨ (c', oc) ∈ codes) (hIn : (I, iob) ∈ ln) (hI : I = I0) (F : Fr g L h m') (N : News g L h l) (hIl : (I, iob) ∈ l) (hf : ∀ p ∈ fixed, p ∈ l) (h1 : (coct, oo) ∈ l) (h2 : (P, tabObj ps) ∈ l) (hr : ∀ p ∈ rest, p ∈ l) (h3 : (c', oc) ∈ l) (hc : ∀ q ∈ codes ++ tail, q ∈ l)
    (hoo : oo.data = .cell v) (hco : c' ≠ coct) (n1 : ∀ p ∈ codes ++ tail, p.1 ≠ P) (n2 : ∀ p ∈ codes ++ tail, p.1 ≠ coct) (n3 : ∀ p ∈ codes ++ tail, p.1 ≠ I0) (hm : ∀ z, [Str.ofString "later", Str.ofString "told"].contains z = false → m' z = m₀ z)
    (T0 : KtsTurn (envs.filterMap (·.frame)) g₀ g) (B : Below A₁ base envs g) (X : (K2 w.params).In g) (T : Top VV LL mean mg mb g) (D : KtsDicts (envs.filterMap (·.frame)) g) :
    ForEnd L s (RJ w mean mg mb A₁ base envs g₀ qual P coct I0 fixed rest tail m₀) I iob Q i .next { s with heap := h, toks := tk } := by
  have hcI : c' ≠ I0 := by
    rcases hnew with hl | hm
    · exact fun e => absurd (hl _ hIn) (by rw [hI, ← e]; exact Nat.lt_irrefl _)
    · exact n3 _ (List.mem_append_left _ hm)
  refine for_next F (News.sub N fun p hp => ?_) ⟨m', ps, (c', oc) :: codes, oo, v, funext fun z => ?_, rfl, hoo, ok.mono hsub, ne_more (fun e => hp e.symm) n1, ne_more hco n2, ne_more hcI n3, T0, B, X, T, D⟩
  · rcases List.mem_cons.mp hp with rfl | hp
    · exact hIl
    · rcases List.mem_append.mp hp with hp | hp
      · exact hf p hp
      · rcases List.mem_cons.mp hp with rfl | hp
        · exact h1
        · rcases List.mem_cons.mp hp with rfl | hp
          · exact h2
          · rcases List.mem_append.mp hp with hp | hp
            · exact hr p hp
            · rcases List.mem_cons.mp hp with rfl | hp
              · exact h3
              · exact hc p hp
  · cases q : [Str.ofString "later", Str.ofString "told"].contains z with
    | true => rw [if_pos rfl]
    | false => rw [if_neg Bool.false_ne_true]; exact hm z q
end
theorem ne_told {z : Str} (hz : [Str.ofString "later", Str.ofString "told"].contains z = false) : z ≠ Str.ofString "told" := fun e => by rw [e] at hz; simp at hz
theorem ne_later {z : Str} (hz : [Str.ofString "later", Str.ofString "told"].contains z = false) : z ≠ Str.ofString "later" := fun e => by rw [e] at hz; simp at hz
end Mine
end
section
open PySem PySem.W PyProof.Rows PySem.W.X
namespace Mine


section
variable {w : World} {mean : ExcName → Option Value} {mg mb : Str → Option Value} {params : Arguments} {body : PySem.Expr} {scope : Scope} {pos : Pos}
theorem c_lam1 (news : List (Addr × Obj)) (f c' cr ca r : Addr) (oc orow oat : Obj) (vs : Array Value) (tq : Tok) (ctv pm : Value) (qual : Str) (ys : List Value) (zs : List Int) (n0 : Nat) (t0 : Tok) (hl : lamOf (ob252 w.params) = .Lambda params body scope pos)
    (hd : oc.data = .fields vs) (hv : vs[1]? = some (.str qual tq)) (h1 : orow.data = .cell (some (.ref r))) (h2 : oat.data = .cell (some (.int (n0 : Int) t0))) (hy : IntsAre ys zs) (hlen : zs.length ≤ 7) (h0 : n0 ≤ zs.length) (hz : ∀ y ∈ zs, 0 ≤ y ∧ y < 256) :
    CP w mean mg mb 750 7500 f [] ((f, kla_obj "<lambda>" qual params body scope [(Str.ofString "row", cr), (Str.ofString "at", ca)] pm c' ctv) :: (c', oc) :: (cr, orow) :: (ca, oat) :: (r, LCg.lst ys) :: news)
      (fun v tl => ∃ tp q Y l n t c, v = .ref tp ∧ readF pfx0 (zs.drop n0) n0 = some (Y, n) ∧ PfxL w q Y l ∧ tl = (tp, { cls := .type "tuple", data := .seq #[.ref q, .int n t] c }) :: l)
      (fun C => C = 64 ∧ readF pfx0 (zs.drop n0) n0 = none) := by
  k_with_none
  w_top off
  k_with "leaving ref" => ((k_here; refine' leave_on ?zk1q ?zk2q ?zk3q ?zk4q ?_; (case zk3q => assumption); (case zk2q => assumption); (case zk1q => assumption); (case zk4q => assumption); k_whole; intro h' S' U'; (try dsimp only at S' U' ⊢)))
  k_with "call ref" => ((k_here; (with_reducible show wpAny _ _ (call (Value.ref 179) [Value.bytes _ _, Value.int _ _]) _ _ _); (k_dflt ((refine' (CP.lower (c_read _ _ _ _ _ ?zp1q ?zp2q) ?zdq ?zuq) _ _ _ _ _ _ _ _ _ _ _ _ _ _ _ ?zBq ?zFq ?zXq ?zNq ?zTq ?zKq ?_ ?_); (case zdq => exact Nat.le_of_ble_eq_true rfl); (case zuq => exact Nat.le_of_ble_eq_true rfl); (case zp1q => first | assumption | (rw [byteArr_size]; omega)); (case zp2q => first | assumption | (rw [byteArr_size]; omega)); (case zBq => k_asm); (case zFq => k_asm); (case zXq => k_asm); (case zNq => first | k_asm | exact News.tl1 (by k_asm) | exact News.tl1 (News.tl1 (by k_asm)) | exact News.tl1 (News.tl1 (News.tl1 (by k_asm)))); (case zTq => k_asm); (case zKq => first | exact rfl | assumption); intro v' tl' h' tk' F' N' hR'; obtain ⟨tp', q', Y', l', n', t', c', e1', r1', hP', e2'⟩ := hR'; subst e1'; subst e2'; (try dsimp only [List.nil_append, List.cons_append] at N' ⊢); rotate_left; intro C' e' h' tk' g' hC' FG' S' U'; obtain ⟨e1', hY'⟩ := hC'; subst e1'; (try dsimp only at S' U' ⊢); rotate_right))))
  k_with "eval Name" => ((k_here; k_dflt (refine' nameX_F ?zNq ?zcq ?zmq ?zdq ?_ ?zaq ?zbq; (case zaq => rfl); (case zbq => rfl); (case zNq => k_asm); (case zcq => rfl); (case zmq => k_mem); (case zdq => assumption); k_whole)))
  have eb := congrArg (fun z => readF pfx0 (z.drop n0) n0) (KBa.ints_make hz)
  have hl' : PySem.Expr.Lambda _ _ _ _ = .Lambda params body scope pos := hl
  injection hl' with e1 e2 e3 e4
  subst e1 e2 e3 e4
  refine unhook ?_
  k_fill
  intro _ _
  intro gd cn cs a ccd cl outer A₀ base h₀ L m s Q E hB hF hX hN hT hk hret hexc
  refine wpAny_call ?_
  k_dflt (refine' kla_code ?k1 ?k2 ?k3 ?k4 ?k5 ?kA ?kF ?kK ?k6 ?k7 ?k8 ?k9 ?kB ?_ ?c2 ?c3 ?c4 ?c5; (case kA => exact rfl); (case kF => exact rfl); (case kK => assumption); (case k1 => exact hB); (case k2 => exact hF); (case k3 => exact hX); (case k4 => exact hN); (case k5 => exact hT); (case k6 => k_mem); (case k7 => exact codeRec_news (by exact hN) (by k_mem) (by assumption) (by assumption)); (case k8 => ktr_room); (case k9 => exact rfl); (case c5 => decide); (case kB => exact locs rfl); (case c2 => exact rfl); (case c3 => exact rfl); (case c4 => exact rfl); k_whole; intro g' L' h' FG' F' N' B' X' T'; (try dsimp only); (try k_lift B'); (try k_fold))
  repeat' (first | (k_unfold; (try dsimp only)) | walk1 | (dsimp only; walk1))

  · (rename News _ _ _ (_ :: (_ ++ _)) => kN9)
    exact hret _ (_ :: _) _ _ (by assumption) kN9 ⟨_, _, _, _, _, _, _, rfl, eb.symm.trans (by assumption), by assumption, rfl⟩
  · exact hexc _ _ _ _ _ ⟨rfl, eb.symm.trans (by assumption)⟩ (by assumption) (by assumption) (by assumption)
end
end Mine
end
section
open PySem PySem.W PyProof.Rows PySem.W.X
namespace Mine


noncomputable def lamOf2 (o : Obj) : PySem.Expr := match o.data with
  | .func fd => (match fd.body with
    | .stmts (_ :: _ :: _ :: .For _ _ (_ :: .Assign _ (.Call _ [l] _ _) _ :: _) _ _ :: _) => l
    | _ => default)
  | _ => default
section
variable {w : World} {mean : ExcName → Option Value} {mg mb : Str → Option Value} {params : Arguments} {body : PySem.Expr} {scope : Scope} {pos : Pos}
theorem c_lam2 (news : List (Addr × Obj)) (f c' ch co tp q d : Addr) (oc oh oo : Obj) (vs : Array Value) (tq : Tok) (ctv pm : Value) (qual : Str) (n : Value) (o : Int) (t0 : Tok) (c : Nat) (t1 t2 t3 t4 t5 u1 u3 u5 : Tok) (X : Pfx) (hl : lamOf2 (ob252 w.params) = .Lambda params body scope pos)
    (hd : oc.data = .fields vs) (hv : vs[1]? = some (.str qual tq)) (h1 : oh.data = .cell (some (.ref tp))) (h2 : oo.data = .cell (some (.int o t0))) :
    CP w mean mg mb 750 7500 f [] ((f, kla_obj "<lambda>" qual params body scope [(Str.ofString "octet", co), (Str.ofString "heard", ch)] pm c' ctv) :: (c', oc) :: (ch, oh) :: (co, oo) :: (tp, { cls := .type "tuple", data := .seq #[.ref q, n] c }) :: (q, instObj 154 d) :: (d, dictOf (pfxEs w t1 t2 t3 t4 t5 X.seg X.data X.rep X.lock X.rex u1 u3 u5) 5) :: news)
      (fun v tl => ∃ q2 Y, v = .ref q2 ∧ legF X o = some Y ∧ PfxL w q2 Y tl)
      (fun C => C = 64 ∧ legF X o = none) := by
  k_with_none
  w_top off
  k_with "leaving ref" => ((k_here; refine' leave_on ?zk1q ?zk2q ?zk3q ?zk4q ?_; (case zk3q => assumption); (case zk2q => assumption); (case zk1q => assumption); (case zk4q => assumption); k_whole; intro h' S' U'; (try dsimp only at S' U' ⊢)))
  k_with "call ref" => ((k_here; (with_reducible show wpAny _ _ (call (Value.ref 172) [Value.ref _, Value.int _ _]) _ _ _); (k_dflt ((refine' (CP.lower (c_with_legacy _ _ _ _ _ _ _ _ _ _ _ _ _ _) ?zdq ?zuq) _ _ _ _ _ _ _ _ _ _ _ _ _ _ _ ?zBq ?zFq ?zXq ?zNq ?zTq ?zKq ?_ ?_); (case zdq => exact Nat.le_of_ble_eq_true rfl); (case zuq => exact Nat.le_of_ble_eq_true rfl); (case zBq => k_asm); (case zFq => k_asm); (case zXq => k_asm); (case zNq => refine' News.dup2 ?znq ?zm1q ?zm2q; (case znq => k_asm); (case zm1q => k_mem); (case zm2q => k_mem)); (case zTq => k_asm); (case zKq => first | exact rfl | assumption); intro v' tl' h' tk' F' N' hR'; have N' := News.undup (News.undup N'); obtain ⟨q', Y', e1', hY', hP'⟩ := hR'; subst e1'; obtain ⟨d', t1', t2', t3', t4', t5', u1', u3', u5', hlt', e2'⟩ := hP'; subst e2'; (try dsimp only [List.nil_append, List.cons_append] at N' ⊢); rotate_left; intro C' e' h' tk' g' hC' FG' S' U'; obtain ⟨e1', hY'⟩ := hC'; subst e1'; (try dsimp only at S' U' ⊢); rotate_right))))
  k_with "eval Name" => ((k_here; k_dflt (refine' nameX_F ?zNq ?zcq ?zmq ?zdq ?_ ?zaq ?zbq; (case zaq => rfl); (case zbq => rfl); (case zNq => k_asm); (case zcq => rfl); (case zmq => k_mem); (case zdq => assumption); k_whole)))
  have hl' : PySem.Expr.Lambda _ _ _ _ = .Lambda params body scope pos := hl
  injection hl' with e1 e2 e3 e4
  subst e1 e2 e3 e4
  refine unhook ?_
  k_fill
  intro _ _
  intro gd cn cs a ccd cl outer A₀ base h₀ L m s Q E hB hF hX hN hT hk hret hexc
  refine wpAny_call ?_
  k_dflt (refine' kla_code ?k1 ?k2 ?k3 ?k4 ?k5 ?kA ?kF ?kK ?k6 ?k7 ?k8 ?k9 ?kB ?_ ?c2 ?c3 ?c4 ?c5; (case kA => exact rfl); (case kF => exact rfl); (case kK => assumption); (case k1 => exact hB); (case k2 => exact hF); (case k3 => exact hX); (case k4 => exact hN); (case k5 => exact hT); (case k6 => k_mem); (case k7 => exact codeRec_news (by exact hN) (by k_mem) (by assumption) (by assumption)); (case k8 => ktr_room); (case k9 => exact rfl); (case c5 => decide); (case kB => exact locs rfl); (case c2 => exact rfl); (case c3 => exact rfl); (case c4 => exact rfl); k_whole; intro g' L' h' FG' F' N' B' X' T'; (try dsimp only); (try k_lift B'); (try k_fold))
  repeat' (first | (k_unfold; (try dsimp only)) | walk1 | (dsimp only; walk1))

  · (rename News _ _ _ (_ :: _ :: _) => kN9)
    exact hret _ [_, _] _ _ (by assumption) kN9 ⟨_, _, rfl, by assumption, PfxL.mk (by assumption)⟩
  · exact hexc _ _ _ _ _ ⟨rfl, by assumption⟩ (by assumption) (RaisedSN.sub (by assumption) mem2) (by assumption)
end
end Mine
end
section
open PySem PySem.W PyProof.Rows PySem.W.X
namespace Mine

noncomputable abbrev parts (p : Str) (d : Bool) (r : Int) (l : Bool) (x : Int) (t1 t3 t5 : Tok) (c : Nat) : Obj := { cls := .type "tuple", data := .seq #[.str p t1, .bool d, .int r t3, .bool l, .int x t5] c }
theorem reads_parts {h : Heap} {a : Addr} {p : Str} {d l : Bool} {r x : Int} {t1 t3 t5 : Tok} {c : Nat} (e : h.get? a = some (parts p d r l x t1 t3 t5 c)) : ∃ as, Reads h (.ref a) (.tuple [.str p, .bool d, .int r, .bool l, .int x]) as :=
  ⟨_, reads_tuple_at e rfl rfl (.cons (.str _ _) (.cons (.bool _) (.cons (.int _ _) (.cons (.bool _) (.cons (.int _ _) .nil)))))⟩
theorem ne_parts {prog : Program} {w : World} {A : Around} {E : Value → Shared → Prop} {s : Shared} {h₀ : Heap} {L a b : Addr} {news : List (Addr × Obj)} {p p' : Str} {d d' l l' : Bool} {r r' x x' : Int} {t1 t3 t5 u1 u3 u5 : Tok} {c c' : Nat} {Q : Value → Shared → Prop}
    (N : News h₀ L s.heap news) (h1 : (a, parts p d r l x t1 t3 t5 c) ∈ news) (h2 : (b, parts p' d' r' l' x' u1 u3 u5 c') ∈ news) (e : p = p' ∧ d = d' ∧ r = r' ∧ l = l' ∧ x = x') (hp : PyData.strOk p' = true) (hu : A.units + 64 < cLine) (h : Q (.bool false) s) :
    wpAny (model prog w) A (compareOp .NotEq (.ref a) (.ref b)) Q E s := by
  obtain ⟨rfl, rfl, rfl, rfl, rfl⟩ := e
  obtain ⟨as, ra⟩ := reads_parts (N _ h1).1
  obtain ⟨bs, rb⟩ := reads_parts (N _ h2).1
  have sh : PySem.SeqAt.shaped (.tuple [.str p, .bool d, .int r, .bool l, .int x]) = true := by simp [SeqAt.shaped, PyData.canLay0, PyData.canLayAll0, PyData.depth, PyData.depthAll, hp]
  have eq : PyData.eqv (.tuple [.str p, .bool d, .int r, .bool l, .int x]) (.tuple [.str p, .bool d, .int r, .bool l, .int x]) = true := by simp [PyData.eqv, PyData.eqvAll]
  exact ne_dataH ra rb sh sh hu (by rw [eq]; exact h)
theorem place_ok (held : Held) : PyData.strOk (placeF held) = true := by
  unfold placeF
  split
  · decide +kernel
  · split <;> decide +kernel
theorem tab_back {h₀ h : Heap} {L P : Addr} {ps : Array Value} {y z : Addr × Obj} {l codes codes' tail : List (Addr × Obj)} (hsub : ∀ q ∈ codes', q ∈ y :: codes) (N : News h₀ L h l) (h1 : (P, tabObj ps) ∈ l) (h2 : y ∈ l) (h3 : z ∈ l) (hc : ∀ q ∈ codes ++ tail, q ∈ l) :
    News h₀ L h (((P, tabObj ps) :: codes') ++ z :: tail) := News.sub N fun p hp => by
  rcases List.mem_append.mp hp with hp | hp
  · rcases List.mem_cons.mp hp with rfl | hp
    · exact h1
    · rcases List.mem_cons.mp (hsub p hp) with rfl | hp
      · exact h2
      · exact hc p (List.mem_append_left _ hp)
  · rcases List.mem_cons.mp hp with rfl | hp
    · exact h3
    · exact hc p (List.mem_append_right _ hp)
theorem mem_of_sub {y : Addr × Obj} {codes codes' l : List (Addr × Obj)} (_ : ∀ q ∈ codes', q ∈ y :: codes) (h : y ∈ l) : y ∈ l := h
theorem tab_ne {P : Addr} {c' : Addr} {oc : Obj} {codes codes' tail : List (Addr × Obj)} (hsub : ∀ q ∈ codes', q ∈ (c', oc) :: codes) (hp : P ≠ c') (hne : ∀ p ∈ codes ++ tail, p.1 ≠ P) : ∀ q ∈ codes', q.1 ≠ P := fun q hq => by
  rcases List.mem_cons.mp (hsub q hq) with rfl | hq
  · exact fun e => hp e.symm
  · exact hne q (List.mem_append_left _ hq)
theorem ne_cls {h₀ h : Heap} {L a P : Addr} {o o2 : Obj} {l : List (Addr × Obj)} (N : News h₀ L h l) (h1 : (a, o) ∈ l) (h2 : (P, o2) ∈ l) (hc : o.cls ≠ o2.cls) : a ≠ P := fun e => by
  have z1 := (N _ h1).1
  have z2 := (N _ h2).1
  rw [show ((a, o) : Addr × Obj).1 = P from e] at z1
  rw [show ((P, o2) : Addr × Obj).1 = P from rfl, z1] at z2
  exact hc (congrArg Obj.cls (Option.some.inj z2))
theorem dict_cls {w : World} {o : Obj} {kvs : List (Str × Value)} (hd : o.IsDictOf (PySem.strKind PP w) kvs) : o.cls ≠ .none := by
  obtain ⟨es, ep, hx, _⟩ := hd
  rw [hx.1]
  intro e
  cases e
theorem ne_cell {h₀ h : Heap} {L a P : Addr} {o o2 : Obj} {v : Option Value} {l : List (Addr × Obj)} (N : News h₀ L h l) (h1 : (a, o) ∈ l) (h2 : (P, o2) ∈ l) (hc : o2.data = .cell v) (ho : ∀ v, o.data ≠ .cell v) : a ≠ P := fun e => by
  have z1 := (N _ h1).1
  have z2 := (N _ h2).1
  rw [show ((a, o) : Addr × Obj).1 = P from e] at z1
  rw [show ((P, o2) : Addr × Obj).1 = P from rfl, z1] at z2
  exact ho v ((congrArg Obj.data (Option.some.inj z2)).trans hc)
theorem fields_nc {o : Obj} {vs : Array Value} (h : o.data = .fields vs) : ∀ v, o.data ≠ .cell v := fun v e => by rw [h] at e; cases e
theorem dict_nc {w : World} {o : Obj} {kvs : List (Str × Value)} (hd : o.IsDictOf (PySem.strKind PP w) kvs) : ∀ v, o.data ≠ .cell v := fun v e => by
  obtain ⟨es, ep, _, hx, _⟩ := hd
  rw [hx] at e; cases e
theorem list_nc {items : Array Value} {n : Nat} : ∀ v, (PySem.W.listOf items n).data ≠ .cell v := fun v e => by cases (show Data.seq items n = Data.cell v from e)
theorem allLt_mem {d : Addr} : ∀ {l : List (Addr × Obj)}, AllLt d l → ∀ p ∈ l, @LT.lt Nat _ p.1 d
  | [], _, _, h => nomatch h
  | q :: r, h, p, hp => (List.mem_cons.mp hp).elim (fun e => e ▸ h.1) (allLt_mem h.2 p)

end Mine
end
section
open PySem PySem.W PyProof.Rows PySem.W.X
namespace Mine


noncomputable def wordF (o : Str) : Int := if o = "rep" then 243 else if o = "repne" then 242 else 0
theorem wf1 {o : Str} (h : (o == Str.ofString "rep") = true) : 243 = wordF o := by rw [eq_of_beq h]; rfl
theorem wf2 {o : Str} (h : (o == Str.ofString "repne") = true) : 242 = wordF o := by rw [eq_of_beq h]; rfl
theorem wf3 {o : Str} (h1 : (o == Str.ofString "rep") = false) (h2 : (o == Str.ofString "repne") = false) : 0 = wordF o := by
  unfold wordF
  rw [if_neg (ne_of_beq_false h1), if_neg (ne_of_beq_false h2)]
section
variable {w : World} {mean : ExcName → Option Value} {mg mb : Str → Option Value}

theorem c_repeat_octet (news : List (Addr × Obj)) (o : Str) (t : Tok) (z : Int) (hz : wordF o = z) :
    CP w mean mg mb 900 9000 193 [.str o t] news (fun v tl => tl = [] ∧ ∃ t, v = .int z t) NoExc := by
  k_with_none
  w_top off
  k_with "exec Raise some none" => ((k_here; refine Raise_own rfl ?_))
  k_with "call ref" => ((k_here; (with_reducible show wpAny _ _ (call (Value.ref _) [Value.str _ _]) (RaisableO _ _) _ _); refine raise_call ?zhCq ?zXq rfl ?zdq ?zuq ?_; (case zhCq => first | exact .inl rfl | exact .inr rfl); (case zXq => k_in); (case zdq => exact Nat.le_of_ble_eq_true rfl); (case zuq => exact Nat.le_of_ble_eq_true rfl); intro e' h' tk' hm'; (try dsimp only at hm' ⊢)))
  k_with "leaving ref" => ((k_here; refine' leave_own ?zk1q ?zk0q ?zk2q ?zk3q ?_; (case zk0q => assumption); (case zk2q => assumption); (case zk1q => assumption); (case zk3q => k_asm); k_whole; intro h' S' U'; (try dsimp only at S' U' ⊢)))
  subst hz
  refine unhook ?_
  k_fill
  intro _ _
  intro gd cn cs a ccd cl outer A₀ base h₀ L m s Q E hB hF hX hN hT hk hret hexc
  refine wpAny_call ?_
  k_dflt cell_enter
  repeat' (first | (k_unfold; (try dsimp only)) | walk1 | (dsimp only; walk1))

  all_goals refine hret _ [] _ _ (by assumption) (by first | assumption | exact News.tl1 (by assumption)) ⟨rfl, ⟨_, congrArg (fun x => Value.int x _) ?_⟩⟩
  all_goals first | exact wf1 (by assumption) | exact wf2 (by assumption) | exact wf3 (by assumption) (by assumption)
end
end Mine
end
section
open PySem PySem.W PyProof.Rows PySem.W.X
namespace Mine

/-- the law's own statements -/
noncomputable def lawStmts (o : Obj) : List Stmt := match o.data with
  | .func fd => (match fd.body with
    | .stmts l => l
    | _ => [])
  | _ => []
noncomputable def lawScope (o : Obj) : Scope := match o.data with
  | .func fd => fd.scope
  | _ => default
theorem fr_as {g h : Heap} {L : Addr} {m : Str → Option Value} {x : Str} {v : Value} (F : Fr g L h m) (e : m x = some v) : Fr g L h (fun y => if y = x then some v else m y) := by
  have : (fun y => if y = x then some v else m y) = m := funext fun y => by
    split
    · rename_i h; rw [h, e]
    · rfl
  rw [this]
  exact F
section
variable {w : World} {mean : ExcName → Option Value} {mg mb : Str → Option Value}

theorem law_words {gd : Option (List Code)} {cn : Str} {cs : Scope} {L a : Addr} {cl : List (Str × Addr)} {A₀ : Around} {base g : Heap} {m : Str → Option Value} {s : Shared} {Q : Flow → Shared → Prop} {E : Value → Shared → Prop} {x y : Stmt} {b : List Stmt} {o1 o2 : Obj}
    (h5 : (lawStmts (ob278 w.params))[5]? = some x) (h6 : (lawStmts (ob278 w.params))[6]? = some y) (hcs : lawScope (ob278 w.params) = cs)
    (hB : Below A₀ base [] g) (hF : Fr g L s.heap m) (hX : (K2 w.params).In g) (hN : News g L s.heap [(261, o1), (247, o2), (275, tabObj #[])]) (hT : Top VV LL mean mg mb g)
    (hk : ∀ h tk m', Fr g L h m' → News g L h [(261, o1), (247, o2), (275, tabObj #[])] → wpAny (model PP w) (ktrTop 600 6000 gd cn cs L a (.ref 277) cl []) (execs b (envX cn cs L a (.ref 277) cl)) Q E { s with heap := h, toks := tk }) :
    wpAny (model PP w) (ktrTop 600 6000 gd cn cs L a (.ref 277) cl []) (execs (x :: y :: b) (envX cn cs L a (.ref 277) cl)) Q E s := by
  k_with_none
  w_top off
  k_with "CompRest" => ((with_unfolding_all (refine LCg.CompRest.succ ?_; intro v' I' oI' C' oC' D' m' h' tk' E' hv' hC' hx' F' N' off' ne'; lcg_open hv')))
  k_with "CompEnd" => ((k_dflt (refine ⟨_, _, _, rfl, by k_asm, by k_asm, by assumption, by lcg_src, ?_⟩)))
  k_with "call ref" => ((k_here; (k_dflt show wpAny _ _ (call (Value.ref 193) [Value.str _ _]) _ _ _); ((k_dflt ((refine' (CP.lower (c_repeat_octet _ _ _ _ ?zzq) ?zdq ?zuq) _ _ _ _ _ _ _ _ _ _ _ _ _ _ _ ?zBq ?zFq ?zXq ?zNq ?zTq ?zKq ?_ ?zexcq); (case zdq => exact Nat.le_of_ble_eq_true rfl); (case zuq => exact Nat.le_of_ble_eq_true rfl); (case zzq => first | exact Eq.refl (243 : Int) | exact Eq.refl (242 : Int) | exact Eq.refl (0 : Int)); (case zBq => k_asm); (case zFq => k_asm); (case zXq => k_asm); (case zNq => k_asm); (case zTq => k_asm); (case zKq => first | exact rfl | assumption); (case zexcq => exact fun _ _ _ _ _ h => h.elim); intro v' tl' h' tk' F' N' hR'; obtain ⟨e1', t', e2'⟩ := hR'; subst e1'; subst e2'; (try dsimp only [List.nil_append, List.cons_append] at N' ⊢))))))
  k_with "call ref" => ((k_here; (k_dflt show wpAny _ _ (call (Value.ref 94) [Value.str _ _]) _ _ _); ((k_dflt ((refine' (CP.lower (c_segment_octet _ _ _) ?zdq ?zuq) _ _ _ _ _ _ _ _ _ _ _ _ _ _ _ ?zBq ?zFq ?zXq ?zNq ?zTq ?zKq ?_ ?zexcq); (case zdq => exact Nat.le_of_ble_eq_true rfl); (case zuq => exact Nat.le_of_ble_eq_true rfl); (case zBq => k_asm); (case zFq => k_asm); (case zXq => k_asm); (case zNq => k_asm); (case zTq => k_asm); (case zKq => first | exact rfl | assumption); (case zexcq => first | exact fun _ _ _ _ _ h => absurd rfl h.2.1 | exact fun _ _ _ _ _ h => absurd rfl h.2.2); intro v' tl' h' tk' F' N' hR'; rcases hR' with ⟨e1', ⟨e3', t', e2'⟩ | ⟨e3', t', e2'⟩⟩ <;> (first | exact absurd e3' (by decide) | (subst e1'; subst e2'; clear e3'; (try dsimp only [List.nil_append, List.cons_append] at N' ⊢))))))))
  have e5 : some (Stmt.Assign _ _ _) = some x := h5
  have e6 : some (Stmt.If _ _ _ _) = some y := h6
  have ec : (⟨_, _, _, _, _⟩ : Scope) = cs := hcs
  injection e5 with e5
  injection e6 with e6
  clear h5 h6 hcs
  subst e5
  subst e6
  subst ec
  refine unhook ?_
  k_fill
  intro _ _
  repeat' (first | (k_unfold; (try dsimp only)) | walk1 | (dsimp only; walk1))

  all_goals exact hk _ _ _ (by assumption) (News.sub (by assumption) (fun p hp => by repeat' (first | exact hp | apply List.Mem.tail)))
end
end Mine
end
section
open PySem PySem.W PyProof.Rows PySem.W.X
namespace Mine


theorem pickA {h₀ h : Heap} {L : Addr} {a b c d e f g i j k : Addr × Obj} {l r : List (Addr × Obj)} (N : News h₀ L h l) (hm : a ∈ l ∧ b ∈ l ∧ c ∈ l ∧ d ∈ l ∧ e ∈ l ∧ f ∈ l ∧ g ∈ l ∧ i ∈ l ∧ j ∈ l ∧ k ∈ l ∧ ∀ p ∈ r, p ∈ l) : News h₀ L h (a :: b :: c :: d :: e :: f :: g :: i :: j :: (k :: r)) := News.sub N fun p hp => by
  obtain ⟨h1, h2, h3, h4, h5, h6, h7, h8, h9, h10, h11⟩ := hm
  simp only [List.mem_cons] at hp
  rcases hp with rfl | rfl | rfl | rfl | rfl | rfl | rfl | rfl | rfl | rfl | hp
  · exact h1
  · exact h2
  · exact h3
  · exact h4
  · exact h5
  · exact h6
  · exact h7
  · exact h8
  · exact h9
  · exact h10
  · exact h11 p hp
section
variable {w : World} {mean : ExcName → Option Value} {mg mb : Str → Option Value} {gd : Option (List Code)} {cn cn₀ : Str} {cs cs₀ : Scope} {L a L₀ a₀ : Addr} {ccd₀ : Value} {cl₀ : List (Str × Addr)} {A₀ : Around} {base g₀ g : Heap} {outer : List Env} {m : Str → Option Value} {s : Shared} {Q : Flow → Shared → Prop} {E : Value → Shared → Prop} {b : List Stmt}
theorem row_A {x0 x1 x2 : Stmt} {tail codes : List (Addr × Obj)} {r : Addr} {ys : List Value} {zs : List Int} {n0 : Nat} {t0 : Tok} {ps : Array Value} {o1 o2 o3 o4 : Obj}
    (g0 : (lawStmts (ob252 w.params))[0]? = some x0) (g1 : (lawStmts (ob252 w.params))[1]? = some x1) (g2 : (lawStmts (ob252 w.params))[2]? = some x2) (hcs : lawScope (ob252 w.params) = cs)
    (hy : IntsAre ys zs) (hlen : zs.length ≤ 7) (h0 : n0 ≤ zs.length) (hz : ∀ y ∈ zs, 0 ≤ y ∧ y < 256) (ok : TabOk (cn ++ ".<locals>." ++ "<lambda>") ps codes) (hne : ∀ p ∈ codes ++ tail, p.1 ≠ 247) (hr : r ≠ 247)
    (ho1 : ∃ w1, o1.data = .cell w1) (ho2 : ∃ w2, o2.data = .cell w2) (ho3 : o3.data = .cell (some (.int (n0 : Int) t0))) (ho4 : o4.data = .cell (some (.ref r))) (hlt : @LT.lt Nat _ 247 L) (hlt2 : @LT.lt Nat _ r L) (hl : ∀ p ∈ codes ++ tail, @LT.lt Nat _ p.1 L)
    (hXB : (K2 w.params).In base) (hTB : Top VV LL mean mg mb base)
    (hB : Below (ktrTop 650 6500 gd cn₀ cs₀ L₀ a₀ ccd₀ cl₀ outer) base (envX cn₀ cs₀ L₀ a₀ ccd₀ cl₀ :: outer) g) (hF : Fr g L s.heap m) (hX : (K2 w.params).In g) (hN : News g L s.heap ((L + 1 + 1 + 1 + 1, o1) :: (L + 1 + 1 + 1, o2) :: (L + 1 + 1, o3) :: (L + 1, o4) :: (247, tabObj ps) :: (r, LCg.lst ys) :: (codes ++ tail))) (hT : Top VV LL mean mg mb g)
    (hD : KtsDicts ((envX cn₀ cs₀ L₀ a₀ ccd₀ cl₀ :: outer).filterMap (·.frame)) g) (hT0 : KtsTurn ((envX cn₀ cs₀ L₀ a₀ ccd₀ cl₀ :: outer).filterMap (·.frame)) g₀ g)
    (hk1 : ∀ (g h : Heap) (tk : Nat) (m' : Str → Option Value) (ps : Array Value) (codes : List (Addr × Obj)), KtsTurn ((envX cn₀ cs₀ L₀ a₀ ccd₀ cl₀ :: outer).filterMap (·.frame)) g₀ g → Fr g L h m' → News g L h (((247, tabObj ps) :: codes) ++ (r, LCg.lst ys) :: tail) → Below (ktrTop 650 6500 gd cn₀ cs₀ L₀ a₀ ccd₀ cl₀ outer) base (envX cn₀ cs₀ L₀ a₀ ccd₀ cl₀ :: outer) g → (K2 w.params).In g → Top VV LL mean mg mb g → KtsDicts ((envX cn₀ cs₀ L₀ a₀ ccd₀ cl₀ :: outer).filterMap (·.frame)) g → TabOk (cn ++ ".<locals>." ++ "<lambda>") ps codes → (∀ q ∈ codes, q.1 ≠ 247) →
      Q (.ret (.bool true)) { s with heap := h, toks := tk })
    (hk2 : ∀ (g h : Heap) (tk : Nat) (tp q d tp2 hd : Addr) (n c c2 : Nat) (t t0' t1 t2 t3 t4 t5 u1 u3 u5 : Tok) (od oh : Obj) (kvs : List (Str × Value)) (held : Held) (ps : Array Value) (codes : List (Addr × Obj)), KtsTurn ((envX cn₀ cs₀ L₀ a₀ ccd₀ cl₀ :: outer).filterMap (·.frame)) g₀ g → Fr g L h (fun y => if y = Str.ofString "due" then some (.ref tp2) else m y) → News g L h ((tp, ({ cls := .type "tuple", data := .seq #[.ref q, .int (n : Int) t] c } : Obj)) :: (q, instObj 154 d) :: (d, dictOf (pfxEs w t1 t2 t3 t4 t5 (pfxOf held).seg (pfxOf held).data (pfxOf held).rep (pfxOf held).lock (pfxOf held).rex u1 u3 u5) 5) :: (tp2, ({ cls := .type "tuple", data := .seq #[.ref hd, .int (n : Int) t0'] c2 } : Obj)) :: (hd, od) :: (L + 1 + 1 + 1, oh) :: (L + 1 + 1 + 1 + 1, o1) :: (247, tabObj ps) :: (r, LCg.lst ys) :: (codes ++ tail)) → Below (ktrTop 650 6500 gd cn₀ cs₀ L₀ a₀ ccd₀ cl₀ outer) base (envX cn₀ cs₀ L₀ a₀ ccd₀ cl₀ :: outer) g → (K2 w.params).In g → Top VV LL mean mg mb g → KtsDicts ((envX cn₀ cs₀ L₀ a₀ ccd₀ cl₀ :: outer).filterMap (·.frame)) g → oh.data = .cell (some (.ref tp)) → od.IsDictOf (PySem.strKind PP w) kvs → (hd == sysModules) = false → HK kvs held → Good held → held.length ≤ 7 → TabOk (cn ++ ".<locals>." ++ "<lambda>") ps codes → (∀ p ∈ codes ++ tail, p.1 ≠ 247) → (∀ p ∈ codes ++ tail, p.1 ≠ L + 1 + 1 + 1 + 1) →
      wpAny (model PP w) (Around.deeper (ktrTop 650 6500 gd cn₀ cs₀ L₀ a₀ ccd₀ cl₀ outer) (envOfC cn cs L a (.ref 251))) (execs b (envOfC cn cs L a (.ref 251))) Q E { s with heap := h, toks := tk }) :
    wpAny (model PP w) (Around.deeper (ktrTop 650 6500 gd cn₀ cs₀ L₀ a₀ ccd₀ cl₀ outer) (envOfC cn cs L a (.ref 251))) (execs (x0 :: x1 :: x2 :: b) (envOfC cn cs L a (.ref 251))) Q E s := by
  k_with_none
  w_top off
  k_with_none
  k_with "k_all" => (first | assumption | exact lt_ne (by assumption) (by first | exact Nat.le_refl _ | exact Nat.le_add_right _ _ | omega))
  k_with "call ref" => ((k_here; (with_reducible show wpAny _ _ (call (Value.ref 123) [Value.ref _]) _ _ _); (k_dflt ((refine' (CP.lower (c_told _ _ _ _ _ _ _ _ _ _ _ _) ?zdq ?zuq) _ _ _ _ _ _ _ _ _ _ _ _ _ _ _ ?zBq ?zFq ?zXq ?zNq ?zTq ?zKq ?_ ?zexcq); (case zdq => exact Nat.le_of_ble_eq_true rfl); (case zuq => exact Nat.le_of_ble_eq_true rfl); (case zBq => k_asm); (case zFq => k_asm); (case zXq => k_asm); (case zNq => refine' News.dup2 ?znq ?zm1q ?zm2q; (case znq => k_asm); (case zm1q => k_mem); (case zm2q => k_mem)); (case zTq => k_asm); (case zKq => first | exact rfl | assumption); (case zexcq => exact fun _ _ _ _ _ h => h.elim); intro v' tl' h' tk' F' N' hR'; have N' := News.undup (News.undup N'); obtain ⟨tp', e1', t1', t3', t5', c', e2'⟩ := hR'; subst e1'; subst e2'; (try dsimp only [List.nil_append, List.cons_append] at N' ⊢)))))
  k_with "call ref" => ((k_here; (with_reducible show wpAny _ _ (call (Value.ref 228) [Value.ref _]) _ _ _); (k_dflt ((refine' (CP.lower (c_law_told _ _ _ _ _ ?zp1q ?zp2q ?zp3q) ?zdq ?zuq) _ _ _ _ _ _ _ _ _ _ _ _ _ _ _ ?zBq ?zFq ?zXq ?zNq ?zTq ?zKq ?_ ?zexcq); (case zdq => exact Nat.le_of_ble_eq_true rfl); (case zuq => exact Nat.le_of_ble_eq_true rfl); (case zBq => k_asm); (case zFq => k_asm); (case zXq => k_asm); (case zNq => refine' News.dup ?znq ?zm1q; (case znq => k_asm); (case zm1q => k_mem)); (case zTq => k_asm); (case zp1q => assumption); (case zp2q => assumption); (case zp3q => assumption); (case zKq => first | exact rfl | assumption); (case zexcq => exact fun _ _ _ _ _ h => h.elim); intro v' tl' h' tk' F' N' hR'; have N' := News.undup N'; obtain ⟨tp', e1', t1', t3', t5', c', e2'⟩ := hR'; subst e1'; subst e2'; (try dsimp only [List.nil_append, List.cons_append] at N' ⊢)))))
  k_with "call ref" => ((k_here; (with_reducible show wpAny _ _ (call (Value.ref 214) [Value.ref _, Value.int _ _]) _ _ _); (k_dflt ((refine' (CP.lower (c_law_step _ _ _ _ _ _ _ ?zp1q ?zp2q ?zp3q ?zp4q) ?zdq ?zuq) _ _ _ _ _ _ _ _ _ _ _ _ _ _ _ ?zBq ?zFq ?zXq ?zNq ?zTq ?zKq ?_ ?zexcq); (case zdq => exact Nat.le_of_ble_eq_true rfl); (case zuq => exact Nat.le_of_ble_eq_true rfl); (case zBq => k_asm); (case zFq => k_asm); (case zXq => k_asm); (case zNq => refine' News.dup ?znq ?zm1q; (case znq => k_asm); (case zm1q => k_mem)); (case zTq => k_asm); (case zp1q => assumption); (case zp2q => assumption); (case zp3q => assumption); (case zp4q => assumption); (case zKq => first | exact rfl | assumption); (case zexcq => exact fun _ _ _ _ _ h => h.elim); intro v' tl' h' tk' F' N' hR'; have N' := News.undup N'; rcases hR' with ⟨q1', e1', e2'⟩ | ⟨D', hd2', q1', e1', o2', k2', e2', i2', y2', h2'⟩ <;> subst e1' <;> subst e2' <;> (try dsimp only [List.nil_append, List.cons_append] at N'); (try dsimp only [List.nil_append, List.cons_append] at N' ⊢)))))
  k_with "compareOp NotEq ref ref" => ((k_here; k_dflt (refine ne_parts (by k_asm) (by k_mem) (by k_mem) ⟨rfl, rfl, rfl, rfl, rfl⟩ (place_ok _) (by ke_room) ?_)))
  k_with "call ref" => ((k_here; (with_reducible show wpAny _ _ (call (Value.ref 240) [Value.ref _]) _ _ _); (k_dflt ((refine' (CT.lower (c_heard _ _ _ _ _ _ (.head _) _ _ (c_lam1 _ _ _ _ _ _ _ _ _ _ _ _ _ _ _ _ _ _ ?zhlq ?zhdq ?zhvq ?zh1q ?zh2q ?zhyq ?zhlenq ?zh0q ?zhzq) ?zhEq) ?zdq ?zuq) _ _ _ _ _ _ _ _ _ _ _ _ _ _ _ _ ?zBq ?zFq ?zXq ?zNq ?zTq ?zXBq ?zTBq ?zDq ?zT0q ?zKq ?_); (case zdq => exact Nat.le_of_ble_eq_true rfl); (case zuq => exact Nat.le_of_ble_eq_true rfl); (case zBq => k_asm); (case zFq => k_asm); (case zXq => k_asm); (case zNq => (refine' News.dup5 ?znq ?zm1q ?zm2q ?zm3q ?zm4q ?zm5q; (case znq => k_asm); (case zm1q => k_mem); (case zm2q => k_mem); (case zm3q => k_mem); (case zm4q => k_mem); (case zm5q => k_mem))); (case zTq => k_asm); (case zXBq => assumption); (case zTBq => assumption); (case zDq => assumption); (case zT0q => first | assumption | exact KtsTurn.refl); (case zKq => exact rfl); (case zhlq => exact rfl); (case zhdq => assumption); (case zhvq => assumption); (case zh1q => k_asm); (case zh2q => k_asm); (case zhyq => assumption); (case zhlenq => assumption); (case zh0q => assumption); (case zhzq => assumption); (case zhEq => exact fun C hC => .inr hC.1); intro v' tl' h' tk' h₀' T0' F' N' B' X' P' D' hR'; have N' := News.undup5 N'; rcases hR' with ⟨tp', q', Y', l', n', t', c', e1', r1', ⟨d', t1', t2', t3', t4', t5', u1', u3', u5', hlt', e3'⟩, e2'⟩ | ⟨e1', e2', C', hC', hN'⟩ <;> subst e1' <;> (try subst e3') <;> subst e2' <;> (try dsimp only [List.nil_append, List.cons_append] at N' ⊢) <;> first | exact (no_some (by assumption) (by assumption) (by assumption)).elim | exact (some_no (by assumption) (by assumption) (by assumption)).elim | (obtain ⟨e8', e9', g8', l8'⟩ := some_some (by assumption) (by assumption) (by assumption); subst e8'; subst e9') | skip))))
  k_with "call ref" => ((k_here; (with_reducible show wpAny _ _ (call (Value.ref 240) [Value.ref _]) _ _ _); (k_dflt ((refine' (CT.lower (c_heard _ _ _ _ _ _ (.head _) _ _ (c_lam2 _ _ _ _ _ _ _ _ _ _ _ _ _ _ _ _ _ _ _ _ _ _ _ _ _ _ _ _ _ ?zhlq ?zhdq ?zhvq ?zh1q ?zh2q) ?zhEq) ?zdq ?zuq) _ _ _ _ _ _ _ _ _ _ _ _ _ _ _ _ ?zBq ?zFq ?zXq ?zNq ?zTq ?zXBq ?zTBq ?zDq ?zT0q ?zKq ?_); (case zdq => exact Nat.le_of_ble_eq_true rfl); (case zuq => exact Nat.le_of_ble_eq_true rfl); (case zBq => k_asm); (case zFq => k_asm); (case zXq => k_asm); (case zNq => (refine' News.dup7 ?znq ?zm1q ?zm2q ?zm3q ?zm4q ?zm5q ?zm6q ?zm7q; (case znq => k_asm); (case zm1q => k_mem); (case zm2q => k_mem); (case zm3q => k_mem); (case zm4q => k_mem); (case zm5q => k_mem); (case zm6q => k_mem); (case zm7q => k_mem))); (case zTq => k_asm); (case zXBq => assumption); (case zTBq => assumption); (case zDq => assumption); (case zT0q => first | assumption | exact KtsTurn.refl); (case zKq => exact rfl); (case zhlq => exact rfl); (case zhdq => assumption); (case zhvq => assumption); (case zh1q => assumption); (case zh2q => assumption); (case zhEq => exact fun C hC => .inr hC.1); intro v' tl' h' tk' h₀' T0' F' N' B' X' P' D' hR'; have N' := News.undup7 N'; rcases hR' with ⟨q2', Y', e1', r1', ⟨d', t1', t2', t3', t4', t5', u1', u3', u5', hlt', e3'⟩⟩ | ⟨e1', e2', C', hC', hN'⟩ <;> subst e1' <;> (first | subst e3' | subst e2') <;> (try dsimp only [List.nil_append, List.cons_append] at N' ⊢) <;> first | exact (leg_no (by assumption) (by assumption) (by assumption) (by assumption)).elim | exact (leg_yes (by assumption) (by assumption) (by assumption) (by assumption)).elim | (obtain ⟨e8', g8'⟩ := leg_both (by assumption) (by assumption) (by assumption) (by assumption); subst e8') | skip))))
  k_with "k_ne" => (first | exact ne_cell (by k_asm) (by k_mem) (by k_mem) (by assumption) (by intro v e; cases e) | exact ne_cell (by k_asm) (by k_mem) (by k_mem) (by assumption) (fields_nc (by assumption)) | exact ne_cell (by k_asm) (by k_mem) (by k_mem) (by assumption) (dict_nc (by assumption)) | exact ne_cell (by k_asm) (by k_mem) (by k_mem) (by assumption) list_nc | exact ne_cls (o2 := tabObj _) (by k_asm) (by k_mem) (by k_mem) (iter_cls (by assumption)) | exact ne_cls (by k_asm) (by k_mem) (by k_mem) (by intro e; cases e) | exact ne_cls (o2 := tabObj _) (by k_asm) (by k_mem) (by k_mem) (dict_cls (by assumption)))
  k_with "eval Lambda" => ((k_here; k_dflt (refine kla_eval rfl ?_); k_dflt (refine' lam_made ?zFq ?zNq ?zTq (codeHd_of_K (P := 247) (by k_asm) (by kernel_rfl)) rfl ?zUq ?zokq ?zhcq rfl ?_; (case zFq => k_asm); (case zNq => k_asm); (case zTq => k_asm); (case zUq => k_updF); (case zokq => assumption); (case zhcq => exact fun q hq => by repeat' (first | exact List.mem_append_left _ hq | apply List.Mem.tail))); intro f c' oc vs t ctv ps' codes' h' tk F' N' hd hv ok' hsub hPc hnew; (try dsimp only at N')))
  k_with "call ref" => ((k_here; (with_reducible show wpAny _ _ (call (Value.ref 221) [Value.ref _, Value.int _ _]) _ _ _); (k_dflt ((refine' (CP.lower (c_law_walk _ _ _ _ _ _ ?zp1q ?zp2q ?zp3q) ?zdq ?zuq) _ _ _ _ _ _ _ _ _ _ _ _ _ _ _ ?zBq ?zFq ?zXq ?zNq ?zTq ?zKq ?_ ?zexcq); (case zdq => exact Nat.le_of_ble_eq_true rfl); (case zuq => exact Nat.le_of_ble_eq_true rfl); (case zp1q => assumption); (case zp2q => assumption); (case zp3q => assumption); (case zBq => k_asm); (case zFq => k_asm); (case zXq => k_asm); (case zNq => exact News.dup (by k_asm) (by k_mem)); (case zTq => k_asm); (case zKq => first | exact rfl | assumption); (case zexcq => exact fun _ _ _ _ _ h => h.elim); intro v' tl' h' tk' F' N' hR'; have N' := News.undup N'; rcases hR' with ⟨q1', e1', e2'⟩ | ⟨tp', d', held', n', t', c', l', q1', e1', ⟨od', kvs', el', hd', hlo', hHK'⟩, e2'⟩ <;> subst e1' <;> (try subst el') <;> subst e2' <;> (try dsimp only [List.nil_append, List.cons_append] at N' ⊢)))))
  obtain ⟨w1, ho1⟩ := ho1
  obtain ⟨w2, ho2⟩ := ho2
  have e0 : some (Stmt.Assign _ _ _) = some x0 := g0
  have e1 : some (Stmt.If _ _ _ _) = some x1 := g1
  have e2 : some (Stmt.If _ _ _ _) = some x2 := g2
  have ec : (⟨_, _, _, _, _⟩ : Scope) = cs := hcs
  injection e0 with e0
  injection e1 with e1
  injection e2 with e2
  clear g0 g1 g2 hcs
  subst e0
  subst e1
  subst e2
  subst ec
  refine unhook ?_
  k_fill
  intro _ _
  repeat' (first | (k_unfold; (try dsimp only)) | walk1 | (dsimp only; walk1))

  · (rename TabOk _ _ _ => ok9)
    (rename ∀ q ∈ _, q ∈ _ :: codes => hs9)
    (rename 247 ≠ _ => hp9)
    exact hk1 _ _ _ _ _ _ (by assumption) (by assumption) (tab_back (tail := tail) hs9 (by assumption) (by k_mem) (by k_mem) (by k_mem) (fun q hq => by repeat' (first | exact hq | apply List.Mem.tail))) (by assumption) (by assumption) (by assumption) (by assumption) ok9 (tab_ne hs9 hp9 hne)
  · exact absurd rfl (by assumption)
  · (rename TabOk _ _ _ => ok9)
    (rename ∀ q ∈ _, q ∈ _ :: codes => hs9)
    (rename 247 ≠ _ => hp9)
    (rename Obj.data _ = Data.fields _ => hf9)
    (rename News _ _ _ _ => N9)
    (rename Fr _ _ _ _ => F9)
    (rename List.length _ ≤ List.length zs => hl9)
    have hc9 := ne_cell (P := L + 1 + 1 + 1 + 1) N9 (mem_of_sub hs9 (by k_mem)) (by k_mem) ho1 (fields_nc hf9)
    refine hk2 _ _ _ _ _ _ _ _ _ _ _ _ _ _ _ _ _ _ _ _ _ _ _ _ _ _ (_ :: codes) (by assumption) F9 (pickA N9 ⟨by k_mem, by k_mem, by k_mem, by k_mem, by k_mem, by k_mem, by k_mem, by k_mem, by k_mem, by k_mem, fun p hp => by repeat' (first | exact hp | apply List.Mem.tail)⟩) (by assumption) (by assumption) (by assumption) (by assumption) (by assumption) (by assumption) (by assumption) (by assumption) (by assumption) (Nat.le_trans hl9 hlen) (ok9.mono hs9) (ne_more (fun e => hp9 e.symm) hne) (ne_more hc9 (lt_ne hl (by omega)))
end
end Mine
end
section
open PySem PySem.W PyProof.Rows PySem.W.X
namespace Mine


theorem pick11 {h₀ h : Heap} {L : Addr} {x1 x2 x3 x4 x5 x6 x7 x8 x9 x10 : Addr × Obj} {l : List (Addr × Obj)} (N : News h₀ L h (x1 :: x2 :: x3 :: x4 :: x5 :: x6 :: x7 :: x8 :: x9 :: x10 :: l)) : News h₀ L h ([x1, x2, x3, x4, x5, x6, x7] ++ x8 :: x9 :: ([x10] ++ l)) := N
section
variable {w : World} {mean : ExcName → Option Value} {mg mb : Str → Option Value} {gd : Option (List Code)} {cn cn₀ : Str} {cs cs₀ : Scope} {L a L₀ a₀ : Addr} {ccd₀ : Value} {cl₀ : List (Str × Addr)} {A₀ : Around} {base g₀ g : Heap} {outer : List Env} {m : Str → Option Value} {s : Shared} {Q : Flow → Shared → Prop} {E : Value → Shared → Prop} {b : List Stmt}
theorem row_B {x0 x1 : Stmt} {tail codes : List (Addr × Obj)} {r : Addr} {ys : List Value} {ps : Array Value} {o1 : Obj} {tp q d tp2 hd : Addr} {n c c2 : Nat} {t t0' t1 t2 t3 t4 t5 u1 u3 u5 : Tok} {od oh : Obj} {kvs : List (Str × Value)} {held : Held}
    (g3 : (lawStmts (ob252 w.params))[3]? = some x0) (g4 : (lawStmts (ob252 w.params))[4]? = some x1) (hcs : lawScope (ob252 w.params) = cs) (hm : m (Str.ofString "due") = some (.ref tp2)) (hlt : @LT.lt Nat _ 247 L) (ho1 : ∃ w1, o1.data = .cell w1)
    (k0 : oh.data = .cell (some (.ref tp)))
    (k1 : od.IsDictOf (PySem.strKind PP w) kvs)
    (k2 : (hd == sysModules) = false)
    (k3 : HK kvs held)
    (k4 : Good held)
    (k5 : held.length ≤ 7)
    (k6 : TabOk (cn ++ ".<locals>." ++ "<lambda>") ps codes)
    (k7 : (∀ p ∈ codes ++ tail, p.1 ≠ 247))
    (k8 : (∀ p ∈ codes ++ tail, p.1 ≠ L + 1 + 1 + 1 + 1))
    (hXB : (K2 w.params).In base) (hTB : Top VV LL mean mg mb base)
    (hB : Below (ktrTop 650 6500 gd cn₀ cs₀ L₀ a₀ ccd₀ cl₀ outer) base (envX cn₀ cs₀ L₀ a₀ ccd₀ cl₀ :: outer) g) (hF : Fr g L s.heap m) (hX : (K2 w.params).In g) (hN : News g L s.heap ((tp, ({ cls := .type "tuple", data := .seq #[.ref q, .int (n : Int) t] c } : Obj)) :: (q, instObj 154 d) :: (d, dictOf (pfxEs w t1 t2 t3 t4 t5 (pfxOf held).seg (pfxOf held).data (pfxOf held).rep (pfxOf held).lock (pfxOf held).rex u1 u3 u5) 5) :: (tp2, ({ cls := .type "tuple", data := .seq #[.ref hd, .int (n : Int) t0'] c2 } : Obj)) :: (hd, od) :: (L + 1 + 1 + 1, oh) :: (L + 1 + 1 + 1 + 1, o1) :: (247, tabObj ps) :: (r, LCg.lst ys) :: (codes ++ tail))) (hT : Top VV LL mean mg mb g)
    (hD : KtsDicts ((envX cn₀ cs₀ L₀ a₀ ccd₀ cl₀ :: outer).filterMap (·.frame)) g) (hT0 : KtsTurn ((envX cn₀ cs₀ L₀ a₀ ccd₀ cl₀ :: outer).filterMap (·.frame)) g₀ g)
    (hk1 : ∀ (g h : Heap) (tk : Nat) (m' : Str → Option Value) (ps : Array Value) (codes : List (Addr × Obj)), KtsTurn ((envX cn₀ cs₀ L₀ a₀ ccd₀ cl₀ :: outer).filterMap (·.frame)) g₀ g → Fr g L h m' → News g L h (((247, tabObj ps) :: codes) ++ (r, LCg.lst ys) :: tail) → Below (ktrTop 650 6500 gd cn₀ cs₀ L₀ a₀ ccd₀ cl₀ outer) base (envX cn₀ cs₀ L₀ a₀ ccd₀ cl₀ :: outer) g → (K2 w.params).In g → Top VV LL mean mg mb g → KtsDicts ((envX cn₀ cs₀ L₀ a₀ ccd₀ cl₀ :: outer).filterMap (·.frame)) g → TabOk (cn ++ ".<locals>." ++ "<lambda>") ps codes → (∀ q ∈ codes, q.1 ≠ 247) →
      Q (.ret (.bool true)) { s with heap := h, toks := tk }) :
    wpAny (model PP w) (Around.deeper (ktrTop 650 6500 gd cn₀ cs₀ L₀ a₀ ccd₀ cl₀ outer) (envOfC cn cs L a (.ref 251))) (execs [x0, x1] (envOfC cn cs L a (.ref 251))) Q (fun _ _ => False) s := by
  k_with_none
  w_top off
  k_with_none
  w_top off
  k_with "k_all" => (first | assumption | exact lt_ne (by assumption) (by first | exact Nat.le_refl _ | exact Nat.le_add_right _ _ | omega))
  k_with "call ref" => ((k_here; (with_reducible show wpAny _ _ (call (Value.ref 123) [Value.ref _]) _ _ _); (k_dflt ((refine' (CP.lower (c_told _ _ _ _ _ _ _ _ _ _ _ _) ?zdq ?zuq) _ _ _ _ _ _ _ _ _ _ _ _ _ _ _ ?zBq ?zFq ?zXq ?zNq ?zTq ?zKq ?_ ?zexcq); (case zdq => exact Nat.le_of_ble_eq_true rfl); (case zuq => exact Nat.le_of_ble_eq_true rfl); (case zBq => k_asm); (case zFq => k_asm); (case zXq => k_asm); (case zNq => refine' News.dup2 ?znq ?zm1q ?zm2q; (case znq => k_asm); (case zm1q => k_mem); (case zm2q => k_mem)); (case zTq => k_asm); (case zKq => first | exact rfl | assumption); (case zexcq => exact fun _ _ _ _ _ h => h.elim); intro v' tl' h' tk' F' N' hR'; have N' := News.undup (News.undup N'); obtain ⟨tp', e1', t1', t3', t5', c', e2'⟩ := hR'; subst e1'; subst e2'; (try dsimp only [List.nil_append, List.cons_append] at N' ⊢)))))
  k_with "call ref" => ((k_here; (with_reducible show wpAny _ _ (call (Value.ref 228) [Value.ref _]) _ _ _); (k_dflt ((refine' (CP.lower (c_law_told _ _ _ _ _ ?zp1q ?zp2q ?zp3q) ?zdq ?zuq) _ _ _ _ _ _ _ _ _ _ _ _ _ _ _ ?zBq ?zFq ?zXq ?zNq ?zTq ?zKq ?_ ?zexcq); (case zdq => exact Nat.le_of_ble_eq_true rfl); (case zuq => exact Nat.le_of_ble_eq_true rfl); (case zBq => k_asm); (case zFq => k_asm); (case zXq => k_asm); (case zNq => refine' News.dup ?znq ?zm1q; (case znq => k_asm); (case zm1q => k_mem)); (case zTq => k_asm); (case zp1q => assumption); (case zp2q => assumption); (case zp3q => assumption); (case zKq => first | exact rfl | assumption); (case zexcq => exact fun _ _ _ _ _ h => h.elim); intro v' tl' h' tk' F' N' hR'; have N' := News.undup N'; obtain ⟨tp', e1', t1', t3', t5', c', e2'⟩ := hR'; subst e1'; subst e2'; (try dsimp only [List.nil_append, List.cons_append] at N' ⊢)))))
  k_with "call ref" => ((k_here; (with_reducible show wpAny _ _ (call (Value.ref 214) [Value.ref _, Value.int _ _]) _ _ _); (k_dflt ((refine' (CP.lower (c_law_step _ _ _ _ _ _ _ ?zp1q ?zp2q ?zp3q ?zp4q) ?zdq ?zuq) _ _ _ _ _ _ _ _ _ _ _ _ _ _ _ ?zBq ?zFq ?zXq ?zNq ?zTq ?zKq ?_ ?zexcq); (case zdq => exact Nat.le_of_ble_eq_true rfl); (case zuq => exact Nat.le_of_ble_eq_true rfl); (case zBq => k_asm); (case zFq => k_asm); (case zXq => k_asm); (case zNq => refine' News.dup ?znq ?zm1q; (case znq => k_asm); (case zm1q => k_mem)); (case zTq => k_asm); (case zp1q => assumption); (case zp2q => assumption); (case zp3q => assumption); (case zp4q => assumption); (case zKq => first | exact rfl | assumption); (case zexcq => exact fun _ _ _ _ _ h => h.elim); intro v' tl' h' tk' F' N' hR'; have N' := News.undup N'; rcases hR' with ⟨q1', e1', e2'⟩ | ⟨D', hd2', q1', e1', o2', k2', e2', i2', y2', h2'⟩ <;> subst e1' <;> subst e2' <;> (try dsimp only [List.nil_append, List.cons_append] at N'); (try dsimp only [List.nil_append, List.cons_append] at N' ⊢)))))
  k_with "compareOp NotEq ref ref" => ((k_here; k_dflt (refine ne_parts (by k_asm) (by k_mem) (by k_mem) ⟨rfl, rfl, rfl, rfl, rfl⟩ (place_ok _) (by ke_room) ?_)))
  k_with "call ref" => ((k_here; (with_reducible show wpAny _ _ (call (Value.ref 240) [Value.ref _]) _ _ _); (k_dflt ((refine' (CT.lower (c_heard _ _ _ _ _ _ (.head _) _ _ (c_lam1 _ _ _ _ _ _ _ _ _ _ _ _ _ _ _ _ _ _ ?zhlq ?zhdq ?zhvq ?zh1q ?zh2q ?zhyq ?zhlenq ?zh0q ?zhzq) ?zhEq) ?zdq ?zuq) _ _ _ _ _ _ _ _ _ _ _ _ _ _ _ _ ?zBq ?zFq ?zXq ?zNq ?zTq ?zXBq ?zTBq ?zDq ?zT0q ?zKq ?_); (case zdq => exact Nat.le_of_ble_eq_true rfl); (case zuq => exact Nat.le_of_ble_eq_true rfl); (case zBq => k_asm); (case zFq => k_asm); (case zXq => k_asm); (case zNq => (refine' News.dup5 ?znq ?zm1q ?zm2q ?zm3q ?zm4q ?zm5q; (case znq => k_asm); (case zm1q => k_mem); (case zm2q => k_mem); (case zm3q => k_mem); (case zm4q => k_mem); (case zm5q => k_mem))); (case zTq => k_asm); (case zXBq => assumption); (case zTBq => assumption); (case zDq => assumption); (case zT0q => first | assumption | exact KtsTurn.refl); (case zKq => exact rfl); (case zhlq => exact rfl); (case zhdq => assumption); (case zhvq => assumption); (case zh1q => k_asm); (case zh2q => k_asm); (case zhyq => assumption); (case zhlenq => assumption); (case zh0q => assumption); (case zhzq => assumption); (case zhEq => exact fun C hC => .inr hC.1); intro v' tl' h' tk' h₀' T0' F' N' B' X' P' D' hR'; have N' := News.undup5 N'; rcases hR' with ⟨tp', q', Y', l', n', t', c', e1', r1', ⟨d', t1', t2', t3', t4', t5', u1', u3', u5', hlt', e3'⟩, e2'⟩ | ⟨e1', e2', C', hC', hN'⟩ <;> subst e1' <;> (try subst e3') <;> subst e2' <;> (try dsimp only [List.nil_append, List.cons_append] at N' ⊢) <;> first | exact (no_some (by assumption) (by assumption) (by assumption)).elim | exact (some_no (by assumption) (by assumption) (by assumption)).elim | (obtain ⟨e8', e9', g8', l8'⟩ := some_some (by assumption) (by assumption) (by assumption); subst e8'; subst e9') | skip))))
  k_with "call ref" => ((k_here; (with_reducible show wpAny _ _ (call (Value.ref 240) [Value.ref _]) _ _ _); (k_dflt ((refine' (CT.lower (c_heard _ _ _ _ _ _ (.head _) _ _ (c_lam2 _ _ _ _ _ _ _ _ _ _ _ _ _ _ _ _ _ _ _ _ _ _ _ _ _ _ _ _ _ ?zhlq ?zhdq ?zhvq ?zh1q ?zh2q) ?zhEq) ?zdq ?zuq) _ _ _ _ _ _ _ _ _ _ _ _ _ _ _ _ ?zBq ?zFq ?zXq ?zNq ?zTq ?zXBq ?zTBq ?zDq ?zT0q ?zKq ?_); (case zdq => exact Nat.le_of_ble_eq_true rfl); (case zuq => exact Nat.le_of_ble_eq_true rfl); (case zBq => k_asm); (case zFq => k_asm); (case zXq => k_asm); (case zNq => (refine' News.dup7 ?znq ?zm1q ?zm2q ?zm3q ?zm4q ?zm5q ?zm6q ?zm7q; (case znq => k_asm); (case zm1q => k_mem); (case zm2q => k_mem); (case zm3q => k_mem); (case zm4q => k_mem); (case zm5q => k_mem); (case zm6q => k_mem); (case zm7q => k_mem))); (case zTq => k_asm); (case zXBq => assumption); (case zTBq => assumption); (case zDq => assumption); (case zT0q => first | assumption | exact KtsTurn.refl); (case zKq => exact rfl); (case zhlq => exact rfl); (case zhdq => assumption); (case zhvq => assumption); (case zh1q => assumption); (case zh2q => assumption); (case zhEq => exact fun C hC => .inr hC.1); intro v' tl' h' tk' h₀' T0' F' N' B' X' P' D' hR'; have N' := News.undup7 N'; rcases hR' with ⟨q2', Y', e1', r1', ⟨d', t1', t2', t3', t4', t5', u1', u3', u5', hlt', e3'⟩⟩ | ⟨e1', e2', C', hC', hN'⟩ <;> subst e1' <;> (first | subst e3' | subst e2') <;> (try dsimp only [List.nil_append, List.cons_append] at N' ⊢) <;> first | exact (leg_no (by assumption) (by assumption) (by assumption) (by assumption)).elim | exact (leg_yes (by assumption) (by assumption) (by assumption) (by assumption)).elim | (obtain ⟨e8', g8'⟩ := leg_both (by assumption) (by assumption) (by assumption) (by assumption); subst e8') | skip))))
  k_with "k_ne" => (first | exact ne_cell (by k_asm) (by k_mem) (by k_mem) (by assumption) (by intro v e; cases e) | exact ne_cell (by k_asm) (by k_mem) (by k_mem) (by assumption) (fields_nc (by assumption)) | exact ne_cell (by k_asm) (by k_mem) (by k_mem) (by assumption) (dict_nc (by assumption)) | exact ne_cell (by k_asm) (by k_mem) (by k_mem) (by assumption) list_nc | exact ne_cls (o2 := tabObj _) (by k_asm) (by k_mem) (by k_mem) (iter_cls (by assumption)) | exact ne_cls (by k_asm) (by k_mem) (by k_mem) (by intro e; cases e) | exact ne_cls (o2 := tabObj _) (by k_asm) (by k_mem) (by k_mem) (dict_cls (by assumption)))
  k_with "eval Lambda" => ((k_here; k_dflt (refine kla_eval rfl ?_); k_dflt (refine' lam_made ?zFq ?zNq ?zTq (codeHd_of_K (P := 247) (by k_asm) (by kernel_rfl)) rfl ?zUq ?zokq ?zhcq rfl ?_; (case zFq => k_asm); (case zNq => k_asm); (case zTq => k_asm); (case zUq => k_updF); (case zokq => assumption); (case zhcq => exact fun q hq => by repeat' (first | exact List.mem_append_left _ hq | apply List.Mem.tail))); intro f c' oc vs t ctv ps' codes' h' tk F' N' hd hv ok' hsub hPc hnew; (try dsimp only at N')))
  k_with "call ref" => ((k_here; (with_reducible show wpAny _ _ (call (Value.ref 221) [Value.ref _, Value.int _ _]) _ _ _); (k_dflt ((refine' (CP.lower (c_law_walk _ _ _ _ _ _ ?zp1q ?zp2q ?zp3q) ?zdq ?zuq) _ _ _ _ _ _ _ _ _ _ _ _ _ _ _ ?zBq ?zFq ?zXq ?zNq ?zTq ?zKq ?_ ?zexcq); (case zdq => exact Nat.le_of_ble_eq_true rfl); (case zuq => exact Nat.le_of_ble_eq_true rfl); (case zp1q => assumption); (case zp2q => assumption); (case zp3q => assumption); (case zBq => k_asm); (case zFq => k_asm); (case zXq => k_asm); (case zNq => exact News.dup (by k_asm) (by k_mem)); (case zTq => k_asm); (case zKq => first | exact rfl | assumption); (case zexcq => exact fun _ _ _ _ _ h => h.elim); intro v' tl' h' tk' F' N' hR'; have N' := News.undup N'; rcases hR' with ⟨q1', e1', e2'⟩ | ⟨tp', d', held', n', t', c', l', q1', e1', ⟨od', kvs', el', hd', hlo', hHK'⟩, e2'⟩ <;> subst e1' <;> (try subst el') <;> subst e2' <;> (try dsimp only [List.nil_append, List.cons_append] at N' ⊢)))))
  k_with "exec For Name List cons nil" => ((k_here; k_dflt (refine wpAny_For ?_)))
  k_with "pyIter ref" => ((k_here; refine Stop.go ?_))
  obtain ⟨w1, ho1⟩ := ho1
  have e3 : some (Stmt.For _ _ _ _ _) = some x0 := g3
  have e4 : some (Stmt.Return _ _) = some x1 := g4
  have ec : (⟨_, _, _, _, _⟩ : Scope) = cs := hcs
  injection e3 with e3
  injection e4 with e4
  clear g3 g4 hcs
  subst e3
  subst e4
  subst ec
  have hF := fr_as hF hm
  refine unhook ?_
  k_fill
  intro _ _
  repeat' (first | (k_unfold; (try dsimp only)) | walk1 | (dsimp only; walk1))

  unfold Stop
  (rename Fr _ _ _ _ => F9)
  (rename News _ _ _ _ => N9)
  have N8 := pick11 N9
  have hsz := Nat.le_trans (Nat.le_of_eq k3.len) (Nat.le_trans k5 (show 7 ≤ 100 by decide))
  refine for_listI rfl (RJ w mean mg mb _ base _ g₀ _ 247 _ _ _ _ tail _) rfl ⟨_, rfl⟩ (RJ.hJ N8) F9 N8 (RJ.start N8 ho1 k6 k7 k8 hT0 hB hX hT hD) ?turn ?done PassesOwn.never
  case done =>
    with_reducible refine Cut.go ?_
    rintro g m news h tk ⟨u, ps1, codes1, oo1, vo, rfl, rfl, hoo1, ok1, hne1, hco1, hI1, T1, B1, X1, P1, D1⟩ F N
    dsimp only [List.cons_append, List.nil_append] at N ⊢
    repeat' (first | (k_unfold; (try dsimp only)) | walk1 | (dsimp only; walk1))

    exact hk1 _ _ _ _ _ codes1 T1 (by assumption) (tab_back (tail := tail) (y := (r, LCg.lst ys)) (codes := codes1) (fun q hq => .tail _ hq) (by assumption) (by k_mem) (by k_mem) (by k_mem) (fun q hq => by repeat' (first | exact hq | apply List.Mem.tail))) B1 X1 P1 D1 ok1 (fun q hq => hne1 q (List.mem_append_left _ hq))
  case turn =>
    with_reducible refine Cut.go ?_
    rintro i v g m news h tk I iob hv ⟨u, ps1, codes1, oo1, vo, rfl, rfl, hoo1, ok1, hne1, hco1, hI1, T1, B1, X1, P1, D1⟩ F N hic ⟨fs, hid⟩ hIe
    obtain ⟨oct1, to1, rfl, hoct1⟩ := octs_at hv
    clear N9 N8 F9 hB hX hT hD hT0 k6 k7 k8 hk1
    dsimp only [List.cons_append, List.nil_append] at N ⊢
    repeat' (first | (k_unfold; (try dsimp only)) | walk1 | (dsimp only; walk1))
    all_goals
      (rename TabOk _ _ _ => ok7)
      (rename ∀ q ∈ _, q ∈ _ :: codes1 => hs7)
      (rename 247 ≠ _ => hp7)
      (rename _ ∨ _ => hn7)
      (rename Obj.data _ = Data.fields _ => hf7)
      (rename News _ _ _ _ => N7)
      (rename Fr _ _ _ _ => F7)
      have hc7 := ne_cell (P := L + 1 + 1 + 1 + 1) N7 (mem_of_sub hs7 (by k_mem)) (by k_mem) (by assumption) (fields_nc hf7)
      refine RJ.next hs7 ok7 hp7 hn7 (by k_mem) hIe F7 N7 (by k_mem) (by repeat' (first | exact List.forall_mem_nil _ | refine List.forall_mem_cons.mpr ⟨by k_mem, ?_⟩)) (by k_mem) (by k_mem) (by repeat' (first | exact List.forall_mem_nil _ | refine List.forall_mem_cons.mpr ⟨by k_mem, ?_⟩)) (by k_mem) (fun q hq => by repeat' (first | exact hq | apply List.Mem.tail)) (by assumption) hc7 hne1 hco1 hI1 (by intro z hz; first | exact same_lt hz | (rw [if_neg (ne_told hz), if_neg (ne_later hz), if_neg (by rw [hz]; exact Bool.false_ne_true)]) | (simp only [if_neg (ne_told hz), if_neg (ne_later hz), hz, Bool.false_eq_true, if_false])) (by assumption) (by assumption) (by assumption) (by assumption) (by assumption)
end
end Mine
end
section
open PySem PySem.W PyProof.Rows PySem.W.X
namespace Mine

section
variable {w : World} {mean : ExcName → Option Value} {mg mb : Str → Option Value}

theorem c_row_right (tail codes : List (Addr × Obj)) (r : Addr) (ys : List Value) (zs : List Int) (n0 : Nat) (t0 : Tok) (ps : Array Value) (hy : IntsAre ys zs) (hlen : zs.length ≤ 7) (h0 : n0 ≤ zs.length) (hz : ∀ y ∈ zs, 0 ≤ y ∧ y < 256)
    (ok : TabOk "_law_row_right.<locals>.<lambda>" ps codes) (hne : ∀ p ∈ codes ++ tail, p.1 ≠ 247) (hr : r ≠ 247) :
    CTk w mean mg mb 650 6500 252 [.ref r, .int (n0 : Int) t0] ((247, tabObj ps) :: (r, LCg.lst ys) :: (codes ++ tail)) ((r, LCg.lst ys) :: tail)
      (fun v tl => v = .bool true ∧ ∃ ps' codes', tl = (247, tabObj ps') :: codes' ∧ TabOk "_law_row_right.<locals>.<lambda>" ps' codes' ∧ ∀ q ∈ codes', q.1 ≠ 247) := by
  refine unhook ?_
  k_fill
  intro _ _
  intro gd cn cs a ccd cl outer A₀ base g₀ h₀ L m s Q E hB hF hX hN hT hXB hTB hD hT0 hk hret
  refine wpAny_call ?_
  k_dflt (refine' code_T ?k1 ?k2 ?k3 ?k4 ?k5 ?XB ?TB ?D ?T0 ?kA ?kF ?kK ?k6 ?k7 ?k8 ?k9 ?kB ?kD ?_ ?c2 ?c3 ?c4; (case kA => exact rfl); (case kF => exact rfl); (case kK => assumption); (case k1 => exact hB); (case k2 => exact hF); (case k3 => exact hX); (case k4 => exact hN); (case k5 => exact hT); (case XB => exact hXB); (case TB => exact hTB); (case D => exact hD); (case T0 => exact hT0); (case k6 => k_is); (case k7 => k_is); (case k8 => ktr_room); (case k9 => exact BindsTo.of_eq rfl); (case kB => exact rfl); (case kD => decide +kernel); (case c2 => exact rfl); (case c3 => exact rfl); (case c4 => exact rfl); k_whole; intro g' L' h' tk' cells' FG' F' N' Y' B' X' T' D' l1; (try k_lt l1); (first | k_cells Y' | (cases Y')); (try simp only [List.cons_append, List.nil_append] at N'); (try dsimp only); (try k_lift B'); (try k_fold))

  have l2 : ∀ p ∈ codes ++ tail, @LT.lt Nat _ p.1 L' := allLt_mem l1.2.2
  refine wpAny_noRaise ?_
  (rename News _ _ _ _ => N9)
  (rename Fr _ _ _ _ => F9)
  obtain ⟨x0, x1, x2, x3, x4, e⟩ : ∃ x0 x1 x2 x3 x4, lawStmts (ob252 w.params) = [x0, x1, x2, x3, x4] := ⟨_, _, _, _, _, rfl⟩
  have g0 : (lawStmts (ob252 w.params))[0]? = some x0 := by rw [e]; rfl
  have g1 : (lawStmts (ob252 w.params))[1]? = some x1 := by rw [e]; rfl
  have g2 : (lawStmts (ob252 w.params))[2]? = some x2 := by rw [e]; rfl
  have g3 : (lawStmts (ob252 w.params))[3]? = some x3 := by rw [e]; rfl
  have g4 : (lawStmts (ob252 w.params))[4]? = some x4 := by rw [e]; rfl
  show wpAny _ _ (execs (lawStmts (ob252 w.params)) _) _ _ _
  rw [e]
  refine row_A g0 g1 g2 rfl hy hlen h0 hz ok hne hr ⟨_, by assumption⟩ ⟨_, by assumption⟩ (by assumption) (by assumption) l1.1 l1.2.1 l2 hXB hTB (by assumption) F9 (by assumption) N9 (by assumption) (by assumption) KtsTurn.refl ?_ ?_
  · intro g h tk m' ps' codes' T1 F1 N1 B1 X1 P1 D1 ok1 hne1
    refine leaveT_ F1 N1 T1 ?_
    intro kh kT kF kN kB kX kP kD
    exact hret _ (_ :: _) _ _ _ kT kF kN kB kX kP kD ⟨rfl, _, _, rfl, ok1, hne1⟩
  · intro g h tk tp q d tp2 hd n c c2 t t0' t1 t2 t3 t4 t5 u1 u3 u5 od oh kvs held ps' codes' T1 F1 N1 B1 X1 P1 D1 k0 k1 k2 k3 k4 k5 k6 k7 k8
    refine row_B g3 g4 rfl rfl l1.1 ⟨_, by assumption⟩ k0 k1 k2 k3 k4 k5 k6 k7 k8 hXB hTB B1 F1 X1 N1 P1 D1 T1 ?_
    intro g h tk m' ps' codes' T1 F1 N1 B1 X1 P1 D1 ok1 hne1
    refine leaveT_ F1 N1 T1 ?_
    intro kh kT kF kN kB kX kP kD
    exact hret _ (_ :: _) _ _ _ kT kF kN kB kX kP kD ⟨rfl, _, _, rfl, ok1, hne1⟩
end
end Mine
end
section
open PySem PySem.W PyProof.Rows
namespace Mine
/-- a suite cut behind its first statement -/
theorem execs_cut {M : Model} {A : Around} {E : Value → Shared → Prop} {Q : Flow → Shared → Prop} {st : Stmt} {rest : List Stmt} {env : Env} {s : Shared} (Mid : Shared → Prop)
    (h1 : wpAny M A (exec st env) (fun f s₁ => f = .next ∧ Mid s₁) E s) (h2 : ∀ s₁, Mid s₁ → wpAny M A (execs rest env) Q E s₁) : wpAny M A (execs (st :: rest) env) Q E s := by
  refine wpAny_execs_cons (wpAny_mono h1 (fun f s₁ h => ?_) fun _ _ y => y)
  obtain ⟨rfl, m⟩ := h
  exact h2 _ m
/-- a mark at which a walk stops -/
noncomputable def Halt (P : Prop) : Prop := P
theorem Halt.go {P : Prop} (h : Halt P) : P := h
end Mine
end
section
open PySem PySem.W PyProof.Rows PySem.W.X PySem.Calls
namespace Mine
section
variable {prog : Program} {w : World} {A : Around} {E : Value → Shared → Prop} {s : Shared} {b : Array UInt8} {t : Tok}
theorem len_bytes_look : typeLookup (.type "bytes") "__len__" = pure (some (.builtin "bytes.__len__")) := by rw [typeLookup_type, builtinLookup_eq_fast]; kernel_rfl
theorem hint_bytes {Q : Bool → Shared → Prop} (h : Q false s) : wpAny (model prog w) A (Builtin.List.listLengthHint (.bytes b t)) Q E s := by
  have hT := typeIs_bytes s b t
  unfold Builtin.List.listLengthHint
  refine wpAny_bind (wpAny_specialOf hT len_bytes_look ?_)
  generalize hid : ("bytes.__len__" : String) = id0
  wp_delta
  rw [show splitId id0 = some ("bytes", "__len__") from by subst hid; decide +kernel]
  subst hid
  refine wpAny_bind (wpAny_isInstance (T := "bytes") (b := true) hT (by rw [isSubtype_type]; kernel_rfl) ?_)
  refine wpAny_ite_split (fun hab => absurd hab (by decide)) (fun _ => ?_)
  refine wpAny_ite_split (fun _ => ?_) (fun hab => absurd (by decide +kernel) hab)
  refine wpAny_bind (wpAny_typeOf hT ?_)
  exact wpAny_pure h
noncomputable abbrev BP (b : Array UInt8) (i : Nat) (v : Value) : Prop := ∃ c u, b[i]? = some c ∧ v = .int (c.toNat : Int) u
theorem extend_bytes {R : Result → Shared → Prop} (hh : A.handled = none) (S : Addr) (res : Value) (c₀ : Nat) (hS : s.heap.get? S = some { cls := .type "list", data := .seq #[] c₀ })
    (hR : ∀ h' tk acc c, (∀ a o, a ≠ S → s.heap.get? a = some o → h'.get? a = some o) → h'.get? S = some { cls := .type "list", dict := none, data := .seq acc c, slots := #[] } → ItemsOf (BP b) acc b.size → R (.ok (.ret res)) { s with heap := h', toks := tk }) (hn : b.size ≤ sizeLine) :
    wpAny (model prog w) A.in1 (Builtin.List.listExtendWith (.ref S) (.bytes b t) res)
      (fun fin s' => match fin with | .done f => R (.ok f) s' | .again c' => c'.quiet = true ∧ codeAny (model prog w) A c' R s') (fun e s' => R (.error e) s') s := by
  have hSI : S < s.heap.objs.size := Heap.lt_size hS
  unfold Builtin.List.listExtendWith
  refine wpAny_bind (wpAny_typeOf (T := "bytes") (typeIs_bytes s b t) ?_)
  have h1 : Builtin.List.listSameRef (.ref S) (.bytes b t) = false := by simp [Builtin.List.listSameRef]
  have h2 : (Value.type "bytes" == Value.type "list") = false := by decide
  have h3 : (Value.type "bytes" == Value.type "tuple") = false := by decide
  simp only [h1, h2, h3, Bool.or_false, Bool.false_eq_true, if_false]
  refine wpAny_bind (KBw.pyIter_bytes ?_)
  refine wpAny_bind (wpAny_holding (hint_bytes ?_))
  refine wpAny_ite_split (fun hab => absurd hab (by decide)) (fun _ => ?_)
  have W := (KBw.walks (prog := prog) (w := w) (A := A.in1) hh s.heap.objs.size b t).toS
  refine wpAny_pure ⟨plainId_quiet PySem.F.plain_extend_loop _, codeAny_extend_loopS W hn S (by intro e; exact absurd (List.mem_singleton.mp e) (Nat.ne_of_lt hSI)) res b.size 0 _ #[] c₀ (Nat.sub_zero _) (Nat.zero_le _) ⟨_, Heap.get?_push_size _ rfl, rfl, rfl⟩ (Heap.get?_push_of_some _ hS) (ItemsOf.nil _) fun s' acc' c' hm hS' hacc => ?_⟩
  have e : s' = { s with heap := s'.heap, toks := s'.toks } := by
    obtain ⟨h1, h2, h3, h4, h5⟩ := hm
    obtain ⟨a1, a2, a3, a4, a5⟩ := s'
    have h2' : a2 = s.gens := h2
    have h3' : a3 = s.drawn := h3
    have h4' : a5 = s.os := h4
    subst h2' h3' h4'
    rfl
  rw [e]
  refine hR s'.heap s'.toks acc' c' (fun a o ha e => hm.heap a o (fun hm' => ?_) (Heap.get?_push_of_some _ e)) hS' hacc
  rcases List.mem_cons.mp hm' with e1 | e1
  · exact ha e1
  · exact absurd (Heap.lt_size e) (by rw [List.mem_singleton.mp e1]; exact Nat.lt_irrefl _)
theorem init_bytes {R : Result → Shared → Prop} (hh : A.handled = none) (S : Addr) (hS : s.heap.get? S = some { cls := .type "list", data := .seq #[] })
    (hR : ∀ h' tk acc c, (∀ a o, a ≠ S → s.heap.get? a = some o → h'.get? a = some o) → h'.get? S = some { cls := .type "list", dict := none, data := .seq acc c, slots := #[] } → ItemsOf (BP b) acc b.size → R (.ok (.ret .none)) { s with heap := h', toks := tk }) (hn : b.size ≤ sizeLine) :
    wpAny (model prog w) A.in1 (Builtin.«list.__init__» ⟨[.ref S, .bytes b t], []⟩)
      (fun fin s' => match fin with | .done f => R (.ok f) s' | .again c' => c'.quiet = true ∧ codeAny (model prog w) A c' R s') (fun e s' => R (.error e) s') s := by
  show wpAny _ _ (do let old ← Builtin.List.listItems (.ref S); Builtin.List.listUpdate (.ref S) (fun _ => #[]); letGo old.toList.reverse; Builtin.List.listExtendWith (.ref S) (.bytes b t) .none) _ _ s
  refine wpAny_bind ?_
  unfold Builtin.List.listItems
  refine wpAny_bind (wpAny_seqItems hS rfl (wpAny_pure ?_))
  show wpAny _ _ (updateSeq S (fun _ => #[]) >>= fun _ => letGo (#[] : Array Value).toList.reverse >>= fun _ => Builtin.List.listExtendWith (.ref S) (.bytes b t) .none) _ _ s
  refine wpAny_bind (wpAny_updateSeq hS rfl ?_)
  have hS₂ := Heap.get?_update_self (Obj.mapSeq (fun _ => (#[] : Array Value))) hS rfl
  refine wpAny_bind (wpAny_letGo ?_)
  refine extend_bytes hh S .none _ hS₂ (fun h' tk acc c hk hS' hacc => ?_) hn
  exact hR h' tk acc c (fun a o ha e => hk a o ha ((Heap.get?_update_other _ _ (Ne.symm ha)).trans e)) hS' hacc
theorem list_bytes {Q : Value → Shared → Prop} (hh : A.handled = none)
    (hQ : ∀ h' tk acc c, (∀ a o, s.heap.get? a = some o → h'.get? a = some o) → h'.get? s.heap.objs.size = some { cls := .type "list", dict := none, data := .seq acc c, slots := #[] } → ItemsOf (BP b) acc b.size → Q (.ref s.heap.objs.size) { s with heap := h', toks := tk }) (hn : b.size ≤ sizeLine) :
    wpAny (model prog w) A (call (.type "list") [.bytes b t]) Q E s := by
  refine callType_codes (Q₁ := fun obj s₁ => obj = .ref s.heap.objs.size ∧ s₁ = { s with heap := s.heap.push { cls := .type "list", data := .seq #[] } }) PySem.F.called_list (PySem.F.typeCall_list_1 _) PySem.F.entry_list_init
    (code_list_new _ ⟨rfl, rfl⟩) fun obj s₁ h₁ => ?_
  obtain ⟨rfl, rfl⟩ := h₁
  have hS : (s.heap.push { cls := .type "list", data := .seq #[] }).get? s.heap.objs.size = some { cls := .type "list", data := .seq #[] } := Heap.get?_push_size _ rfl
  refine ⟨⟨_, hS, rfl⟩, PySem.F.args_list_init_2 _ _, init_bytes (A := A.in1) hh _ hS (fun h' tk acc c hk hS' hacc => ?_) hn⟩
  exact ⟨rfl, hQ h' tk acc c (fun a o e => hk a o (Nat.ne_of_lt (Heap.lt_size e)) (Heap.get?_push_of_some _ e)) hS' hacc⟩
end
theorem ints_of_items : ∀ (l : List UInt8) (acc : List Value), acc.length = l.length → (∀ (j : Nat) (v : Value), acc[j]? = some v → ∃ (c : UInt8) (u : Tok), l[j]? = some c ∧ v = Value.int (c.toNat : Int) u) → IntsAre acc (l.map fun c => (c.toNat : Int))
  | [], [], _, _ => by constructor
  | [], _ :: _, h, _ => nomatch h
  | _ :: _, [], h, _ => nomatch h
  | c :: l, v :: acc, h, hi => by
    obtain ⟨c', u, e1, e2⟩ := hi 0 v rfl
    obtain rfl : c = c' := Option.some.inj e1
    subst e2
    have ih := ints_of_items l acc (Nat.succ.inj h) fun j v hj => hi (j + 1) v hj
    exact IntsAre.cons _ _ ih
/-- list(b) with its ledger -/
theorem list_bytesK {prog : Program} {w : World} {A : Around} {E Q : Value → Shared → Prop} {s : Shared} {b : Array UInt8} {t : Tok} {h₀ : Heap} {L : Addr} {m : Str → Option Value} {news : List (Addr × Obj)} {zs : List Int} (F : Fr h₀ L s.heap m) (N : News h₀ L s.heap news) (hb : KBw.bInts b = zs) (hh : A.handled = none) (hn : zs.length ≤ 1000)
    (h : ∀ D acc c h' tk, Fr h₀ L h' m → News h₀ L h' ((D, listOf acc c) :: news) → IntsAre acc.toList zs → (∀ q ∈ news, q.1 < D) → Q (.ref D) { s with heap := h', toks := tk }) :
    wpAny (model prog w) A (call (.type "list") [.bytes b t]) Q E s := by
  refine list_bytes hh (fun h' tk acc c hk hD hacc => ?_) (by rw [← KBw.ints_length b, hb]; exact Nat.le_trans hn (by decide +kernel))
  refine h _ acc c h' tk (F.keeps hk) (news_pushed F N hk hD rfl) ?_ fun q hq => Heap.lt_size (N q hq).1
  rw [← hb]
  exact ints_of_items b.toList acc.toList (by simpa using hacc.1) fun j v hj => by
    obtain ⟨c', u, e1, e2⟩ := hacc.2 j v (by simpa using hj)
    exact ⟨c', u, by simpa using e1, e2⟩
end Mine
end
section
open PySem PySem.W PyProof.Rows PySem.W.X
namespace Mine



/-- what Prefixes.octets gives, stage by stage -/
noncomputable def oc1 (X : Pfx) : Option (List Int) := if X.seg = "" then some [] else if X.seg = "fs" then some [100] else if X.seg = "gs" then some [101] else none
noncomputable def oc2 (X : Pfx) : Option (List Int) := (oc1 X).bind fun l => if X.data then some (l ++ [102]) else some l
noncomputable def oc3 (X : Pfx) : Option (List Int) := (oc2 X).bind fun l => if X.rep = 0 then some l else if X.rep = 243 ∨ X.rep = 242 then some (l ++ [X.rep]) else none
noncomputable def oc4 (X : Pfx) : Option (List Int) := (oc3 X).bind fun l => if X.lock then (if X.rep = 0 then some (l ++ [240]) else none) else some l
noncomputable def octF (X : Pfx) : Option (List Int) := (oc4 X).bind fun l => if 0 ≤ X.rex then (if 64 ≤ X.rex ∧ X.rex ≤ 79 then some (l ++ [X.rex]) else none) else some l
noncomputable def Mid (k : Nat) (f : Option (List Int)) (g : Heap) (L F : Addr) (m : Str → Option Value) (fixed : List (Addr × Obj)) (s : Shared) (s₁ : Shared) : Prop :=
  ∃ h tk its n zs, s₁ = { s with heap := h, toks := tk } ∧ Fr g L h m ∧ News g L h ((F, PySem.W.listOf its n) :: fixed) ∧ IntsAre its.toList zs ∧ f = some zs ∧ its.size ≤ k
theorem cutL {M : Model} {A : Around} {E : Value → Shared → Prop} {Q : Flow → Shared → Prop} {st : Stmt} {rest : List Stmt} {env : Env} {s : Shared} {g : Heap} {L F : Addr} {m : Str → Option Value} {fixed : List (Addr × Obj)} {its : Array Value} {n : Nat} (k : Nat) (f : Option (List Int)) (_ : Fr g L s.heap m) (_ : News g L s.heap ((F, PySem.W.listOf its n) :: fixed))
    (h1 : wpAny M A (exec st env) (fun f' s₁ => f' = .next ∧ Mid k f g L F m fixed s s₁) E s)
    (h2 : ∀ h tk its n zs, Fr g L h m → News g L h ((F, PySem.W.listOf its n) :: fixed) → IntsAre its.toList zs → f = some zs → its.size ≤ k → wpAny M A (execs rest env) Q E { s with heap := h, toks := tk }) : wpAny M A (execs (st :: rest) env) Q E s :=
  execs_cut _ h1 fun _ ⟨h, tk, its, n, zs, e, F, N, I, o, z⟩ => e ▸ h2 h tk its n zs F N I o z
theorem ints_snoc {its : Array Value} {zs : List Int} {v : Int} {t : Tok} (h : IntsAre its.toList zs) : IntsAre (its.push (.int v t)).toList (zs ++ [v]) := by
  rw [Array.toList_push]
  generalize its.toList = l at h
  induction h with
  | nil => exact .cons _ _ .nil
  | cons n t h ih => exact .cons _ _ ih
section
variable {X : Pfx} {zs : List Int}
theorem o1a (h : (X.seg != Str.ofString "") = false) : oc1 X = some [] := by
  have e : X.seg = Str.ofString "" := by simpa using h
  unfold oc1; rw [if_pos e]
theorem o1b (h : X.seg = "fs") : oc1 X = some [100] := by unfold oc1; rw [h]; rfl
theorem o1c (h : X.seg = "gs") : oc1 X = some [101] := by unfold oc1; rw [h]; rfl
theorem o1n (h : (X.seg != Str.ofString "") = true) (h1 : X.seg ≠ "fs") (h2 : X.seg ≠ "gs") : octF X = none := by
  have e : ¬ X.seg = Str.ofString "" := by simpa using h
  have : oc1 X = none := by unfold oc1; rw [if_neg e, if_neg h1, if_neg h2]
  simp [octF, oc4, oc3, oc2, this]
theorem o2a (e : oc1 X = some zs) (h : X.data = true) : oc2 X = some (zs ++ [102]) := by simp [oc2, e, h]
theorem o2b (e : oc1 X = some zs) (h : X.data = false) : oc2 X = some zs := by simp [oc2, e, h]
theorem o3a (e : oc2 X = some zs) (h : X.rep = 0) : oc3 X = some zs := by simp [oc3, e, h]
theorem o3b (e : oc2 X = some zs) (h : X.rep ≠ 0) (h1 : X.rep = 243) : oc3 X = some (zs ++ [X.rep]) := by simp [oc3, e, h1]
theorem o3c (e : oc2 X = some zs) (h : X.rep ≠ 0) (h1 : X.rep = 242) : oc3 X = some (zs ++ [X.rep]) := by simp [oc3, e, h1]
theorem o3n (h : X.rep ≠ 0) (h1 : X.rep ≠ 243) (h2 : X.rep ≠ 242) : octF X = none := by
  have : oc3 X = none := by unfold oc3; cases oc2 X <;> simp [h, h1, h2]
  simp [octF, oc4, this]
theorem o4a (e : oc3 X = some zs) (h : X.lock = false) : oc4 X = some zs := by simp [oc4, e, h]
theorem o4b (e : oc3 X = some zs) (h : X.lock = true) (h1 : X.rep = 0) : oc4 X = some (zs ++ [240]) := by simp [oc4, e, h, h1]
theorem o4n (h : X.lock = true) (h1 : X.rep ≠ 0) : octF X = none := by
  have : oc4 X = none := by unfold oc4; cases oc3 X <;> simp [h, h1]
  simp [octF, this]
theorem o5a (e : oc4 X = some zs) (h : ¬ 0 ≤ X.rex) : octF X = some zs := by simp only [octF, e, Option.bind_some, if_neg h]
theorem o5b (e : oc4 X = some zs) (h : 0 ≤ X.rex) (h1 : 64 ≤ X.rex ∧ X.rex ≤ 79) : octF X = some (zs ++ [X.rex]) := by simp only [octF, e, Option.bind_some, if_pos h, if_pos h1]
theorem o5n (h : 0 ≤ X.rex) (h1 : ¬ (64 ≤ X.rex ∧ X.rex ≤ 79)) : octF X = none := by unfold octF; cases oc4 X <;> simp [h, h1]
theorem oc_sub {h₀ h : Heap} {L : Addr} {l news : List (Addr × Obj)} (N : News h₀ L h l) (hn : ∀ p ∈ news, p ∈ l) : News h₀ L h ([] ++ news) := fun p hp => N p (hn p hp)
theorem o5c {r : Bool} (e : oc4 X = some zs) (h : 0 ≤ X.rex) (hr : r = decide (64 ≤ X.rex ∧ X.rex ≤ 79)) (h1 : r = true) : octF X = some (zs ++ [X.rex]) := o5b e h (of_decide_eq_true (hr.symm.trans h1))
theorem o5m {r : Bool} (h : 0 ≤ X.rex) (hr : r = decide (64 ≤ X.rex ∧ X.rex ≤ 79)) (h1 : r = false) : octF X = none := o5n h (of_decide_eq_false (hr.symm.trans h1))
theorem oct_good (h : octF X = some zs) : KBa.In zs ∧ zs.length ≤ 5 := by
  obtain ⟨l4, h4, h5⟩ := Option.bind_eq_some_iff.mp h
  obtain ⟨l3, h3, h4⟩ := Option.bind_eq_some_iff.mp h4
  obtain ⟨l2, h2, h3⟩ := Option.bind_eq_some_iff.mp h3
  obtain ⟨l1, h1, h2⟩ := Option.bind_eq_some_iff.mp h2
  have g1 : KBa.In l1 ∧ l1.length ≤ 1 := by
    unfold oc1 at h1
    split at h1
    · cases h1; exact ⟨fun _ h => (nomatch h), by decide⟩
    · split at h1
      · cases h1; exact ⟨fun _ h => by rw [List.mem_singleton.mp h]; decide, by decide⟩
      · split at h1
        · cases h1; exact ⟨fun _ h => by rw [List.mem_singleton.mp h]; decide, by decide⟩
        · cases h1
  have up : ∀ {l : List Int} {n : Nat} {o : Int}, (KBa.In l ∧ l.length ≤ n) → 0 ≤ o → o < 256 → KBa.In (l ++ [o]) ∧ (l ++ [o]).length ≤ n + 1 := fun {l n o} h h1 h2 =>
    ⟨fun k hk => (List.mem_append.mp hk).elim (h.1 k) fun e => by rw [List.mem_singleton.mp e]; exact ⟨h1, h2⟩, by rw [List.length_append]; exact Nat.succ_le_succ h.2⟩
  have st : ∀ {l : List Int} {n : Nat}, (KBa.In l ∧ l.length ≤ n) → KBa.In l ∧ l.length ≤ n + 1 := fun h => ⟨h.1, Nat.le_succ_of_le h.2⟩
  have g2 : KBa.In l2 ∧ l2.length ≤ 2 := by
    split at h2
    · cases h2; exact up g1 (by decide) (by decide)
    · cases h2; exact st g1
  have g3 : KBa.In l3 ∧ l3.length ≤ 3 := by
    split at h3
    · cases h3; exact st g2
    · split at h3
      · rename_i q
        cases h3
        rcases q with q | q <;> rw [q] <;> exact up g2 (by decide) (by decide)
      · cases h3
  have g4 : KBa.In l4 ∧ l4.length ≤ 4 := by
    split at h4
    · split at h4
      · cases h4; exact up g3 (by decide) (by decide)
      · cases h4
    · cases h4; exact st g3
  split at h5
  · split at h5
    · rename_i q
      cases h5; exact up g4 (by omega) (by omega)
    · cases h5
  · cases h5; exact st g4
end
section
variable {w : World} {mean : ExcName → Option Value} {mg mb : Str → Option Value}

theorem c_octets (news : List (Addr × Obj)) (p d : Addr) (t1 t2 t3 t4 t5 u1 u3 u5 : Tok) (X : Pfx) :
    CP w mean mg mb 850 8500 151 [.ref p] ((p, instObj 154 d) :: (d, dictOf (pfxEs w t1 t2 t3 t4 t5 X.seg X.data X.rep X.lock X.rex u1 u3 u5) 5) :: news)
      (fun v tl => tl = [] ∧ ∃ zs t, octF X = some zs ∧ KBa.In zs ∧ zs.length ≤ 5 ∧ v = .bytes (byteArr zs) t) (fun C => C = 52 ∧ octF X = none) := by
  k_with_none
  w_top off
  k_with "exec Raise some none" => ((k_here; refine Raise_own rfl ?_))
  k_with "call ref" => ((k_here; (with_reducible show wpAny _ _ (call (Value.ref _) [Value.str _ _]) (RaisableO _ _) _ _); refine raise_call ?zhCq ?zXq rfl ?zdq ?zuq ?_; (case zhCq => first | exact .inl rfl | exact .inr rfl); (case zXq => k_in); (case zdq => exact Nat.le_of_ble_eq_true rfl); (case zuq => exact Nat.le_of_ble_eq_true rfl); intro e' h' tk' hm'; (try dsimp only at hm' ⊢)))
  k_with "leaving ref" => ((k_here; refine' leave_own ?zk1q ?zk0q ?zk2q ?zk3q ?_; (case zk0q => assumption); (case zk2q => assumption); (case zk1q => assumption); (case zk3q => k_asm); k_whole; intro h' S' U'; (try dsimp only at S' U' ⊢)))
  k_with "leaving ref" => ((k_here; refine' leave_on ?zk1q ?zk2q ?zk3q ?zk4q ?_; (case zk3q => assumption); (case zk2q => assumption); (case zk1q => assumption); (case zk4q => assumption); k_whole; intro h' S' U'; (try dsimp only at S' U' ⊢)))
  k_with "call ref" => ((k_here; (with_reducible show wpAny _ _ (call (Value.ref 87) [Value.int _ _]) _ _ _); (k_dflt ((refine' (CP.lower (c_is_rex _ _ _) ?zdq ?zuq) _ _ _ _ _ _ _ _ _ _ _ _ _ _ _ ?zBq ?zFq ?zXq ?zNq ?zTq ?zKq ?_ ?zexcq); (case zdq => exact Nat.le_of_ble_eq_true rfl); (case zuq => exact Nat.le_of_ble_eq_true rfl); (case zBq => k_asm); (case zFq => k_asm); (case zXq => k_asm); (case zNq => first | k_asm | exact News.tl1 (by k_asm) | exact News.tl1 (News.tl1 (by k_asm)) | exact News.tl1 (News.tl1 (News.tl1 (by k_asm)))); (case zTq => k_asm); (case zKq => first | exact rfl | assumption); (case zexcq => exact fun _ _ _ _ _ h => h.elim); intro v' tl' h' tk' F' N' hR'; obtain ⟨e1', r', e2', hr'⟩ := hR'; subst e1'; subst e2'; (try dsimp only [List.nil_append, List.cons_append] at N' ⊢)))))
  k_with "call ref" => ((k_here; (with_reducible show wpAny _ _ (call (Value.ref 94) [Value.str _ _]) _ _ _); ((k_dflt ((refine' (CP.lower (c_segment_octet _ _ _) ?zdq ?zuq) _ _ _ _ _ _ _ _ _ _ _ _ _ _ _ ?zBq ?zFq ?zXq ?zNq ?zTq ?zKq ?_ ?_); (case zdq => exact Nat.le_of_ble_eq_true rfl); (case zuq => exact Nat.le_of_ble_eq_true rfl); (case zBq => k_asm); (case zFq => k_asm); (case zXq => k_asm); (case zNq => k_asm); (case zTq => k_asm); (case zKq => first | exact rfl | assumption); intro v' tl' h' tk' F' N' hR'; obtain ⟨e1', hR'⟩ := hR'; subst e1'; rcases hR' with ⟨hs', t', e2'⟩ | ⟨hs', t', e2'⟩ <;> subst e2' <;> (try dsimp only [List.nil_append, List.cons_append] at N' ⊢); rotate_left; rotate_left; intro C' e' h' tk' g' hC' FG' S' U'; obtain ⟨e1', hn1', hn2'⟩ := hC'; subst e1'; (try dsimp only at S' U' ⊢); rotate_right; rotate_right)))))
  k_with "execs cons If" => ((k_here; (first | (with_reducible show wpAny _ _ (execs (Stmt.If _ _ _ _ :: Stmt.If _ _ _ _ :: _) _) _ _ _) | (with_reducible show wpAny _ _ (execs (Stmt.If _ _ _ _ :: Stmt.Return _ _ :: _) _) _ _ _)); refine Halt.go ?_))
  refine unhook ?_
  k_fill
  intro _ _
  intro gd cn cs a ccd cl outer A₀ base h₀ L m s Q E hB hF hX hN hT hk hret hexc
  refine wpAny_call ?_
  k_dflt cell_enter
  repeat' (first | (k_unfold; (try dsimp only)) | walk1 | (dsimp only; walk1))

  unfold Halt
  (rename Fr _ _ _ _ => F9)
  (rename News _ _ _ _ => N9)
  refine cutL 1 (oc1 X) F9 N9 ?_ ?_
  repeat' (first | (k_unfold; (try dsimp only)) | walk1 | (dsimp only; walk1))

  all_goals first
    | (refine hexc _ _ _ _ _ ⟨rfl, ?_⟩ (by assumption) (by first | assumption | exact RaisedSN.sub (by assumption) (fun p hp => .tail _ hp)) (by assumption); first | exact o1n (by assumption) (by assumption) (by assumption) | exact o3n (by assumption) (by assumption) (by assumption) | exact o4n (by assumption) (by assumption) | exact o5n (by assumption) (by assumption))
    | (refine ⟨_, _, _, _, _, rfl, by assumption, by assumption, by first | exact ints_snoc (by assumption) | assumption | exact ints_snoc .nil | exact .nil, ?_, by first | omega | (rw [Array.size_push]; omega) | exact Nat.le_refl _ | decide⟩; first | exact o1a (by assumption) | exact o1b (by assumption) | exact o1c (by assumption))
    | skip
  unfold Halt
  (rename Fr _ _ _ _ => F9)
  (rename News _ _ _ _ => N9)
  refine cutL 2 (oc2 X) F9 N9 ?_ ?_
  repeat' (first | (k_unfold; (try dsimp only)) | walk1 | (dsimp only; walk1))

  all_goals first
    | (refine hexc _ _ _ _ _ ⟨rfl, ?_⟩ (by assumption) (by first | assumption | exact RaisedSN.sub (by assumption) (fun p hp => .tail _ hp)) (by assumption); first | exact o1n (by assumption) (by assumption) (by assumption) | exact o3n (by assumption) (by assumption) (by assumption) | exact o4n (by assumption) (by assumption) | exact o5n (by assumption) (by assumption))
    | (refine ⟨_, _, _, _, _, rfl, by assumption, by assumption, by first | exact ints_snoc (by assumption) | assumption | exact ints_snoc .nil | exact .nil, ?_, by first | omega | (rw [Array.size_push]; omega) | exact Nat.le_refl _ | decide⟩; first | exact o2a (by assumption) (by assumption) | exact o2b (by assumption) (by assumption))
    | skip
  unfold Halt
  (rename Fr _ _ _ _ => F9)
  (rename News _ _ _ _ => N9)
  refine cutL 3 (oc3 X) F9 N9 ?_ ?_
  repeat' (first | (k_unfold; (try dsimp only)) | walk1 | (dsimp only; walk1))

  all_goals first
    | (refine hexc _ _ _ _ _ ⟨rfl, ?_⟩ (by assumption) (by first | assumption | exact RaisedSN.sub (by assumption) (fun p hp => .tail _ hp)) (by assumption); first | exact o1n (by assumption) (by assumption) (by assumption) | exact o3n (by assumption) (by assumption) (by assumption) | exact o4n (by assumption) (by assumption) | exact o5n (by assumption) (by assumption))
    | (refine ⟨_, _, _, _, _, rfl, by assumption, by assumption, by first | exact ints_snoc (by assumption) | assumption | exact ints_snoc .nil | exact .nil, ?_, by first | omega | (rw [Array.size_push]; omega) | exact Nat.le_refl _ | decide⟩; first | exact o3a (by assumption) (by assumption) | exact o3b (by assumption) (by assumption) (by assumption) | exact o3c (by assumption) (by assumption) (by assumption))
    | skip
  unfold Halt
  (rename Fr _ _ _ _ => F9)
  (rename News _ _ _ _ => N9)
  refine cutL 4 (oc4 X) F9 N9 ?_ ?_
  repeat' (first | (k_unfold; (try dsimp only)) | walk1 | (dsimp only; walk1))

  all_goals first
    | (refine hexc _ _ _ _ _ ⟨rfl, ?_⟩ (by assumption) (by first | assumption | exact RaisedSN.sub (by assumption) (fun p hp => .tail _ hp)) (by assumption); first | exact o1n (by assumption) (by assumption) (by assumption) | exact o3n (by assumption) (by assumption) (by assumption) | exact o4n (by assumption) (by assumption) | exact o5n (by assumption) (by assumption))
    | (refine ⟨_, _, _, _, _, rfl, by assumption, by assumption, by first | exact ints_snoc (by assumption) | assumption | exact ints_snoc .nil | exact .nil, ?_, by first | omega | (rw [Array.size_push]; omega) | exact Nat.le_refl _ | decide⟩; first | exact o4a (by assumption) (by assumption) | exact o4b (by assumption) (by assumption) (by assumption))
    | skip
  unfold Halt
  (rename Fr _ _ _ _ => F9)
  (rename News _ _ _ _ => N9)
  refine cutL 5 (octF X) F9 N9 ?_ (fun h9 tk9 its9 n9 zs9 F9 N9 I9 o9 z9 => ?_)
  rotate_left
  have hg9 := (oct_good o9).1
  have hl9 := (oct_good o9).2
  rotate_right
  repeat' (first | (k_unfold; (try dsimp only)) | walk1 | (dsimp only; walk1))

  all_goals first
    | (refine hexc _ _ _ _ _ ⟨rfl, ?_⟩ (by assumption) (by first | assumption | exact RaisedSN.sub (by assumption) (fun p hp => .tail _ hp)) (by assumption); first | exact o1n (by assumption) (by assumption) (by assumption) | exact o3n (by assumption) (by assumption) (by assumption) | exact o4n (by assumption) (by assumption) | exact o5m (by assumption) (by assumption) (by assumption))
    | (refine ⟨_, _, _, _, _, rfl, by assumption, by assumption, by first | exact ints_snoc (by assumption) | assumption | exact ints_snoc .nil | exact .nil, ?_, by first | omega | (rw [Array.size_push]; omega) | exact Nat.le_refl _ | decide⟩; first | exact o5a (by assumption) (by assumption) | exact o5c (by assumption) (by assumption) (by assumption) (by assumption))
    | skip
  exact hret _ [] _ _ (by assumption) (oc_sub (by assumption) (fun p hp => by repeat' (first | exact hp | apply List.Mem.tail))) ⟨rfl, _, _, o9, hg9, hl9, rfl⟩
end
end Mine
end
section
open PySem PySem.W PyProof.Rows PySem.W.X
namespace Mine


section
variable {w : World} {mean : ExcName → Option Value} {mg mb : Str → Option Value}

theorem c_count (news : List (Addr × Obj)) (p d : Addr) (t1 t2 t3 t4 t5 u1 u3 u5 : Tok) (X : Pfx) :
    CP w mean mg mb 800 8000 144 [.ref p] ((p, instObj 154 d) :: (d, dictOf (pfxEs w t1 t2 t3 t4 t5 X.seg X.data X.rep X.lock X.rex u1 u3 u5) 5) :: news)
      (fun v tl => tl = [] ∧ ∃ zs t, octF X = some zs ∧ v = .int (zs.length : Int) t) (fun C => C = 52 ∧ octF X = none) := by
  k_with_none
  w_top off
  k_with "leaving ref" => ((k_here; refine' leave_on ?zk1q ?zk2q ?zk3q ?zk4q ?_; (case zk3q => assumption); (case zk2q => assumption); (case zk1q => assumption); (case zk4q => assumption); k_whole; intro h' S' U'; (try dsimp only at S' U' ⊢)))
  k_with "call ref" => ((k_here; (k_dflt show wpAny _ _ (call (Value.ref 151) [Value.ref _]) _ _ _); (k_dflt ((refine' (CP.lower (c_octets _ _ _ _ _ _ _ _ _ _ _ _) ?zdq ?zuq) _ _ _ _ _ _ _ _ _ _ _ _ _ _ _ ?zBq ?zFq ?zXq ?zNq ?zTq ?zKq ?_ ?_); (case zdq => exact Nat.le_of_ble_eq_true rfl); (case zuq => exact Nat.le_of_ble_eq_true rfl); (case zBq => k_asm); (case zFq => k_asm); (case zXq => k_asm); (case zNq => refine' News.dup2 ?znq ?zm1q ?zm2q; (case znq => k_asm); (case zm1q => k_mem); (case zm2q => k_mem)); (case zTq => k_asm); (case zKq => first | exact rfl | assumption); intro v' tl' h' tk' F' N' hR'; have N' := News.undup (News.undup N'); obtain ⟨e1', zs', t', o', i', l', e2'⟩ := hR'; subst e1'; subst e2'; (try dsimp only [List.nil_append, List.cons_append] at N' ⊢); rotate_left; intro C' e' h' tk' g' hC' FG' S' U'; obtain ⟨e1', hY'⟩ := hC'; subst e1'; (try dsimp only at S' U' ⊢); rotate_right))))
  refine unhook ?_
  k_fill
  intro _ _
  intro gd cn cs a ccd cl outer A₀ base h₀ L m s Q E hB hF hX hN hT hk hret hexc
  refine wpAny_call ?_
  k_dflt cell_enter
  repeat' (first | (k_unfold; (try dsimp only)) | walk1 | (dsimp only; walk1))

  · exact hret _ [] _ _ (by assumption) (by assumption) ⟨rfl, _, _, by assumption, rfl⟩
  · exact hexc _ _ _ _ _ ⟨rfl, by assumption⟩ (by assumption) (by first | assumption | exact RaisedSN.sub (by assumption) mem2) (by assumption)
end
end Mine
end
section
open PySem PySem.W PyProof.Rows PySem.W.X
namespace Mine


noncomputable def lamO (o : Obj) : PySem.Expr := match o.data with
  | .func fd => (match fd.body with
    | .stmts (_ :: _ :: .Assign _ (.Call _ [l] _ _) _ :: _) => l
    | _ => default)
  | _ => default
noncomputable def lamC (o : Obj) : PySem.Expr := match o.data with
  | .func fd => (match fd.body with
    | .stmts (_ :: _ :: _ :: _ :: _ :: .If _ [.Return (some (.Compare (.Call _ [l] _ _) _ _ _)) _] _ _ :: _) => l
    | _ => default)
  | _ => default
section
variable {w : World} {mean : ExcName → Option Value} {mg mb : Str → Option Value} {params : Arguments} {body : PySem.Expr} {scope : Scope} {pos : Pos}
theorem c_lamO (news : List (Addr × Obj)) (f c' cm p d : Addr) (oc om : Obj) (vs : Array Value) (tq : Tok) (ctv pm : Value) (qual : Str) (t1 t2 t3 t4 t5 u1 u3 u5 : Tok) (X : Pfx) (hl : lamO (ob266 w.params) = .Lambda params body scope pos)
    (hd : oc.data = .fields vs) (hv : vs[1]? = some (.str qual tq)) (h1 : om.data = .cell (some (.ref p))) :
    CP w mean mg mb 750 7500 f [] ((f, kla_obj "<lambda>" qual params body scope [(Str.ofString "made", cm)] pm c' ctv) :: (c', oc) :: (cm, om) :: (p, instObj 154 d) :: (d, dictOf (pfxEs w t1 t2 t3 t4 t5 X.seg X.data X.rep X.lock X.rex u1 u3 u5) 5) :: news)
      (fun v tl => tl = [] ∧ ∃ zs t, octF X = some zs ∧ KBa.In zs ∧ zs.length ≤ 5 ∧ v = .bytes (byteArr zs) t) (fun C => C = 52 ∧ octF X = none) := by
  k_with_none
  w_top off
  k_with "leaving ref" => ((k_here; refine' leave_on ?zk1q ?zk2q ?zk3q ?zk4q ?_; (case zk3q => assumption); (case zk2q => assumption); (case zk1q => assumption); (case zk4q => assumption); k_whole; intro h' S' U'; (try dsimp only at S' U' ⊢)))
  k_with "call ref" => ((k_here; (k_dflt show wpAny _ _ (call (Value.ref 151) [Value.ref _]) _ _ _); (k_dflt ((refine' (CP.lower (c_octets _ _ _ _ _ _ _ _ _ _ _ _) ?zdq ?zuq) _ _ _ _ _ _ _ _ _ _ _ _ _ _ _ ?zBq ?zFq ?zXq ?zNq ?zTq ?zKq ?_ ?_); (case zdq => exact Nat.le_of_ble_eq_true rfl); (case zuq => exact Nat.le_of_ble_eq_true rfl); (case zBq => k_asm); (case zFq => k_asm); (case zXq => k_asm); (case zNq => refine' News.dup2 ?znq ?zm1q ?zm2q; (case znq => k_asm); (case zm1q => k_mem); (case zm2q => k_mem)); (case zTq => k_asm); (case zKq => first | exact rfl | assumption); intro v' tl' h' tk' F' N' hR'; have N' := News.undup (News.undup N'); obtain ⟨e1', zs', t', o', i', l', e2'⟩ := hR'; subst e1'; subst e2'; (try dsimp only [List.nil_append, List.cons_append] at N' ⊢); rotate_left; intro C' e' h' tk' g' hC' FG' S' U'; obtain ⟨e1', hY'⟩ := hC'; subst e1'; (try dsimp only at S' U' ⊢); rotate_right))))
  k_with "call ref" => ((k_here; (k_dflt show wpAny _ _ (call (Value.ref 144) [Value.ref _]) _ _ _); (k_dflt ((refine' (CP.lower (c_count _ _ _ _ _ _ _ _ _ _ _ _) ?zdq ?zuq) _ _ _ _ _ _ _ _ _ _ _ _ _ _ _ ?zBq ?zFq ?zXq ?zNq ?zTq ?zKq ?_ ?_); (case zdq => exact Nat.le_of_ble_eq_true rfl); (case zuq => exact Nat.le_of_ble_eq_true rfl); (case zBq => k_asm); (case zFq => k_asm); (case zXq => k_asm); (case zNq => refine' News.dup2 ?znq ?zm1q ?zm2q; (case znq => k_asm); (case zm1q => k_mem); (case zm2q => k_mem)); (case zTq => k_asm); (case zKq => first | exact rfl | assumption); intro v' tl' h' tk' F' N' hR'; have N' := News.undup (News.undup N'); obtain ⟨e1', zs', t', o', e2'⟩ := hR'; subst e1'; subst e2'; (try dsimp only [List.nil_append, List.cons_append] at N' ⊢); rotate_left; intro C' e' h' tk' g' hC' FG' S' U'; obtain ⟨e1', hY'⟩ := hC'; subst e1'; (try dsimp only at S' U' ⊢); rotate_right))))
  k_with "eval Name" => ((k_here; k_dflt (refine' nameX_F ?zNq ?zcq ?zmq ?zdq ?_ ?zaq ?zbq; (case zaq => rfl); (case zbq => rfl); (case zNq => k_asm); (case zcq => rfl); (case zmq => k_mem); (case zdq => assumption); k_whole)))
  have hl' : PySem.Expr.Lambda _ _ _ _ = .Lambda params body scope pos := hl
  injection hl' with e1 e2 e3 e4
  subst e1 e2 e3 e4
  refine unhook ?_
  k_fill
  intro _ _
  intro gd cn cs a ccd cl outer A₀ base h₀ L m s Q E hB hF hX hN hT hk hret hexc
  refine wpAny_call ?_
  k_dflt (refine' kla_code ?k1 ?k2 ?k3 ?k4 ?k5 ?kA ?kF ?kK ?k6 ?k7 ?k8 ?k9 ?kB ?_ ?c2 ?c3 ?c4 ?c5; (case kA => exact rfl); (case kF => exact rfl); (case kK => assumption); (case k1 => exact hB); (case k2 => exact hF); (case k3 => exact hX); (case k4 => exact hN); (case k5 => exact hT); (case k6 => k_mem); (case k7 => exact codeRec_news (by exact hN) (by k_mem) (by assumption) (by assumption)); (case k8 => ktr_room); (case k9 => exact rfl); (case c5 => decide); (case kB => exact locs rfl); (case c2 => exact rfl); (case c3 => exact rfl); (case c4 => exact rfl); k_whole; intro g' L' h' FG' F' N' B' X' T'; (try dsimp only); (try k_lift B'); (try k_fold))
  repeat' (first | (k_unfold; (try dsimp only)) | walk1 | (dsimp only; walk1))

  · exact hret _ [] _ _ (by assumption) (by assumption) ⟨rfl, _, _, by assumption, by assumption, by assumption, rfl⟩
  · exact hexc _ _ _ _ _ ⟨rfl, by assumption⟩ (by assumption) (by first | assumption | exact RaisedSN.sub (by assumption) mem2) (by assumption)
theorem c_lamC (news : List (Addr × Obj)) (f c' cm p d : Addr) (oc om : Obj) (vs : Array Value) (tq : Tok) (ctv pm : Value) (qual : Str) (t1 t2 t3 t4 t5 u1 u3 u5 : Tok) (X : Pfx) (hl : lamC (ob266 w.params) = .Lambda params body scope pos)
    (hd : oc.data = .fields vs) (hv : vs[1]? = some (.str qual tq)) (h1 : om.data = .cell (some (.ref p))) :
    CP w mean mg mb 750 7500 f [] ((f, kla_obj "<lambda>" qual params body scope [(Str.ofString "made", cm)] pm c' ctv) :: (c', oc) :: (cm, om) :: (p, instObj 154 d) :: (d, dictOf (pfxEs w t1 t2 t3 t4 t5 X.seg X.data X.rep X.lock X.rex u1 u3 u5) 5) :: news)
      (fun v tl => tl = [] ∧ ∃ zs t, octF X = some zs ∧ v = .int (zs.length : Int) t) (fun C => C = 52 ∧ octF X = none) := by
  k_with_none
  w_top off
  k_with "leaving ref" => ((k_here; refine' leave_on ?zk1q ?zk2q ?zk3q ?zk4q ?_; (case zk3q => assumption); (case zk2q => assumption); (case zk1q => assumption); (case zk4q => assumption); k_whole; intro h' S' U'; (try dsimp only at S' U' ⊢)))
  k_with "call ref" => ((k_here; (k_dflt show wpAny _ _ (call (Value.ref 151) [Value.ref _]) _ _ _); (k_dflt ((refine' (CP.lower (c_octets _ _ _ _ _ _ _ _ _ _ _ _) ?zdq ?zuq) _ _ _ _ _ _ _ _ _ _ _ _ _ _ _ ?zBq ?zFq ?zXq ?zNq ?zTq ?zKq ?_ ?_); (case zdq => exact Nat.le_of_ble_eq_true rfl); (case zuq => exact Nat.le_of_ble_eq_true rfl); (case zBq => k_asm); (case zFq => k_asm); (case zXq => k_asm); (case zNq => refine' News.dup2 ?znq ?zm1q ?zm2q; (case znq => k_asm); (case zm1q => k_mem); (case zm2q => k_mem)); (case zTq => k_asm); (case zKq => first | exact rfl | assumption); intro v' tl' h' tk' F' N' hR'; have N' := News.undup (News.undup N'); obtain ⟨e1', zs', t', o', i', l', e2'⟩ := hR'; subst e1'; subst e2'; (try dsimp only [List.nil_append, List.cons_append] at N' ⊢); rotate_left; intro C' e' h' tk' g' hC' FG' S' U'; obtain ⟨e1', hY'⟩ := hC'; subst e1'; (try dsimp only at S' U' ⊢); rotate_right))))
  k_with "call ref" => ((k_here; (k_dflt show wpAny _ _ (call (Value.ref 144) [Value.ref _]) _ _ _); (k_dflt ((refine' (CP.lower (c_count _ _ _ _ _ _ _ _ _ _ _ _) ?zdq ?zuq) _ _ _ _ _ _ _ _ _ _ _ _ _ _ _ ?zBq ?zFq ?zXq ?zNq ?zTq ?zKq ?_ ?_); (case zdq => exact Nat.le_of_ble_eq_true rfl); (case zuq => exact Nat.le_of_ble_eq_true rfl); (case zBq => k_asm); (case zFq => k_asm); (case zXq => k_asm); (case zNq => refine' News.dup2 ?znq ?zm1q ?zm2q; (case znq => k_asm); (case zm1q => k_mem); (case zm2q => k_mem)); (case zTq => k_asm); (case zKq => first | exact rfl | assumption); intro v' tl' h' tk' F' N' hR'; have N' := News.undup (News.undup N'); obtain ⟨e1', zs', t', o', e2'⟩ := hR'; subst e1'; subst e2'; (try dsimp only [List.nil_append, List.cons_append] at N' ⊢); rotate_left; intro C' e' h' tk' g' hC' FG' S' U'; obtain ⟨e1', hY'⟩ := hC'; subst e1'; (try dsimp only at S' U' ⊢); rotate_right))))
  k_with "eval Name" => ((k_here; k_dflt (refine' nameX_F ?zNq ?zcq ?zmq ?zdq ?_ ?zaq ?zbq; (case zaq => rfl); (case zbq => rfl); (case zNq => k_asm); (case zcq => rfl); (case zmq => k_mem); (case zdq => assumption); k_whole)))
  have hl' : PySem.Expr.Lambda _ _ _ _ = .Lambda params body scope pos := hl
  injection hl' with e1 e2 e3 e4
  subst e1 e2 e3 e4
  refine unhook ?_
  k_fill
  intro _ _
  intro gd cn cs a ccd cl outer A₀ base h₀ L m s Q E hB hF hX hN hT hk hret hexc
  refine wpAny_call ?_
  k_dflt (refine' kla_code ?k1 ?k2 ?k3 ?k4 ?k5 ?kA ?kF ?kK ?k6 ?k7 ?k8 ?k9 ?kB ?_ ?c2 ?c3 ?c4 ?c5; (case kA => exact rfl); (case kF => exact rfl); (case kK => assumption); (case k1 => exact hB); (case k2 => exact hF); (case k3 => exact hX); (case k4 => exact hN); (case k5 => exact hT); (case k6 => k_mem); (case k7 => exact codeRec_news (by exact hN) (by k_mem) (by assumption) (by assumption)); (case k8 => ktr_room); (case k9 => exact rfl); (case c5 => decide); (case kB => exact locs rfl); (case c2 => exact rfl); (case c3 => exact rfl); (case c4 => exact rfl); k_whole; intro g' L' h' FG' F' N' B' X' T'; (try dsimp only); (try k_lift B'); (try k_fold))
  repeat' (first | (k_unfold; (try dsimp only)) | walk1 | (dsimp only; walk1))

  · exact hret _ [] _ _ (by assumption) (by assumption) ⟨rfl, _, _, by assumption, rfl⟩
  · exact hexc _ _ _ _ _ ⟨rfl, by assumption⟩ (by assumption) (by first | assumption | exact RaisedSN.sub (by assumption) mem2) (by assumption)
end
end Mine
end
section
open PySem PySem.W PyProof.Rows PySem.W.X
namespace Mine

/-- how a turn of a filtered list of ints ends -/
noncomputable def FEl (news : List (Addr × Obj)) (r : Option Int) (y : Value) (news' : List (Addr × Obj)) : Prop := news' = news ∧ ∃ (a : Int) (t : Tok), y = .int a t ∧ r = some a
noncomputable def FNo (news : List (Addr × Obj)) (r : Option Int) (news' : List (Addr × Obj)) : Prop := news' = news ∧ r = none
section
variable {prog : Program} {w : World} {A : Around} {h₀ : Heap} {L : Addr} {m : Str → Option Value} {env : Env} {ct elt : PySem.Expr} {x : Str} {scope : Scope} {cl : List (Str × Addr)} {s : Shared} {S : List (Addr × Obj) → Prop} {P : Nat → Value → Prop} {Fin : List Value → List (Addr × Obj) → Prop} {news : List (Addr × Obj)}
theorem filt_rest {n : Nat} (g : Nat → Option Int)
    (turn : ∀ i v I oI C oC D m₂ ys h tk (E' : Value → Shared → Prop), i < n → P i v → LCg.NsObj oC m₂ → m₂ x = some v → Fr h₀ L h m → News h₀ L h ((I, oI) :: (C, oC) :: (D, LCg.lst ys) :: news) → LCg.Off3 I C D news → ((@Ne Nat I C) ∧ (@Ne Nat I D) ∧ (@Ne Nat C D)) →
      wpAny (model prog w) A (isTrue ct (compEnvC scope cl C env) (eval ct (compEnvC scope cl C env))) (fun b s' => if b = true then wpAny (model prog w) A (eval elt (compEnvC scope cl C env)) (LCg.CompEnd h₀ L m { s with heap := h, toks := tk } I oI C oC D (LCg.lst ys) S (fun y news' => FEl news (g i) y news')) E' s'
        else LCg.CompEnd h₀ L m { s with heap := h, toks := tk } I oI C oC D (LCg.lst ys) S (fun _ news' => FNo news (g i) news') Value.none s') E' { s with heap := h, toks := tk })
    (fin : ∀ ys, IntsAre ys ((List.range n).filterMap g) → Fin ys news) : LCt.CompRestT prog w A h₀ L m env ct elt x scope cl s S P Fin n 0 [] news := by
  have key : ∀ (j i : Nat) (ys : List Value), i + j = n → IntsAre ys ((List.range i).filterMap g) → LCt.CompRestT prog w A h₀ L m env ct elt x scope cl s S P Fin j i ys news := by
    intro j
    induction j with
    | zero =>
      intro i ys hi hy
      obtain rfl : i = n := by omega
      exact LCt.CompRestT.zero (fin ys hy)
    | succ j ih =>
      intro i ys hi hy
      refine LCt.CompRestT.succ ?_
      intro v I oI C oC D m₂ h tk E' hv hC hx F N off ne
      have hs : (List.range (i + 1)).filterMap g = (List.range i).filterMap g ++ (g i).toList := by rw [List.range_succ, List.filterMap_append]; cases hg : g i <;> simp [hg]
      refine wpAny_mono (turn i v I oI C oC D m₂ ys h tk E' (by omega) hv hC hx F N off ne) (fun b s₂ hq => ?_) fun _ _ e => e
      cases b with
      | true =>
        simp only [if_true] at hq ⊢
        refine wpAny_mono hq (fun y s₃ hr => ?_) fun _ _ e => e
        obtain ⟨h', tk', nw, e, F', N', off', hS, hn, a, t', hy', hr'⟩ := hr
        rw [hn] at N' off' hS
        refine ⟨h', tk', news, e, F', N', off', hS, ?_⟩
        rw [hy']
        refine ih (i + 1) _ (by omega) ?_
        rw [hs, hr']
        exact IntsAre.append hy (.cons a t' .nil)
      | false =>
        simp only [Bool.false_eq_true, if_false] at hq ⊢
        obtain ⟨h', tk', nw, e, F', N', off', hS, hn, hr'⟩ := hq
        rw [hn] at N' off' hS
        refine ⟨h', tk', news, e, F', N', off', hS, ih (i + 1) _ (by omega) ?_⟩
        rw [hs, hr']
        simpa using hy
  exact key n 0 [] (by omega) .nil
end
noncomputable def sorts5 : List Str := ["segment", "data", "repeat", "lock", "rex"]
noncomputable def writeAt (held : Held) (i : Nat) : Option Int := (sorts5[i]?).bind fun k => if hasK held k then some (getF held k 0) else none
/-- what _law_written tells -/
noncomputable def writtenF (held : Held) : List Int := (List.range 5).filterMap (writeAt held)
theorem sorts_at {a b c d e : Tok} {i : Nat} {v : Value} (h : (#[.str (Str.ofString "segment") a, .str (Str.ofString "data") b, .str (Str.ofString "repeat") c, .str (Str.ofString "lock") d, .str (Str.ofString "rex") e] : Array Value)[i]? = some v) : ∃ k t, v = .str k t ∧ sorts5[i]? = some k := by
  have hi : i < 5 := (Array.getElem?_eq_some_iff.mp h).1
  match i, hi with
  | 0, _ => cases h; exact ⟨_, _, rfl, rfl⟩
  | 1, _ => cases h; exact ⟨_, _, rfl, rfl⟩
  | 2, _ => cases h; exact ⟨_, _, rfl, rfl⟩
  | 3, _ => cases h; exact ⟨_, _, rfl, rfl⟩
  | 4, _ => cases h; exact ⟨_, _, rfl, rfl⟩
theorem item_held {prog : Program} {w : World} {A : Around} {E : Value → Shared → Prop} {s : Shared} {h₀ : Heap} {L : Addr} {news : List (Addr × Obj)} {d : Addr} {od : Obj} {kvs : List (Str × Value)} {held : Held} {value slice : PySem.Expr} {Q : Value → Shared → Prop} {k : Str} {t : Tok}
    (N : News h₀ L s.heap news) (hp : (d, od) ∈ news) (hd : od.IsDictOf (PySem.strKind prog w) kvs) (hk : HK kvs held) (hh : hasK held k = true) (h : ∀ t', Q (.int (getF held k 0) t') { s with toks := s.toks + 1 })
    (hs : subscripted slice false (.ref d) (.str k t) = operate [.ref d, .str k t] (getItem (.ref d) (.str k t)) := by with_unfolding_all rfl) (hg : ∀ r, letTemporaryGo value (.ref d) r = pure () := by intro _; with_unfolding_all rfl) :
    wpAny (model prog w) A (subscriptTail value slice (.ref d) (.str k t)) Q E s := by
  rcases hk.at_ (k := k) with ⟨q1, q2⟩ | ⟨q1, q2⟩
  · rw [hh] at q1; cases q1
  · obtain ⟨t', e⟩ := q2 0
    exact kda_item (knd := PySem.strKind prog w) N hp hd (strKind_is prog w k t) e (h t') hs hg
theorem wa1 {held : Held} {i : Nat} {k : Str} (h : sorts5[i]? = some k) (hh : hasK held k = true) : writeAt held i = some (getF held k 0) := by unfold writeAt; rw [h]; simp [hh]
theorem wa0 {held : Held} {i : Nat} {k : Str} (h : sorts5[i]? = some k) (hh : hasK held k = false) : writeAt held i = none := by unfold writeAt; rw [h]; simp [hh]
section
variable {w : World} {mean : ExcName → Option Value} {mg mb : Str → Option Value}

theorem c_written (news : List (Addr × Obj)) (d : Addr) (od : Obj) (kvs : List (Str × Value)) (held : Held) (hd : od.IsDictOf (PySem.strKind PP w) kvs) (hlo : (d == sysModules) = false) (hHK : HK kvs held) :
    CP w mean mg mb 900 9000 233 [.ref d] ((d, od) :: news) (fun v tl => ∃ D ys, v = .ref D ∧ tl = [(D, LCg.lst ys)] ∧ IntsAre ys (writtenF held)) NoExc := by
  k_with_none
  w_top off
  k_with "eval ListComp" => ((k_here; (k_dflt (refine LCt.ListComp_T (F₀ := by k_asm) (by with_unfolding_all rfl) (by decide) (by rfl) (by decide) (by rfl) ?_); k_dflt lct_toSrc)))
  k_with "CompSrcT" => ((k_here; (k_dflt (refine LCt.CompSrcT.ledger (by rfl) (by k_asm) (by k_asm) (by k_mem) (by first | size_fits | exact Nat.le_of_ble_eq_true rfl) ?_; intro g'; refine Halt.go ?_))))
  k_with "compareOp In str ref" => (k_dflt (refine in_held (held := held) (by k_asm) (by k_mem) hd hlo hHK ?_))
  k_with "subscriptTail" => (k_dflt (refine item_held (held := held) (by k_asm) (by k_mem) hd hHK (by assumption) ?_; intro t'))
  refine unhook ?_
  k_fill
  intro _ _
  intro gd cn cs a ccd cl outer A₀ base h₀ L m s Q E hB hF hX hN hT hk hret hexc
  refine wpAny_call ?_
  k_dflt (refine' code_defC ?k1 ?k2 ?k3 ?k4 ?k5 ?kA ?kF ?kK ?k6 ?k7 ?k8 ?k9 ?kB ?kD ?_ ?c2 ?c3 ?c4; (case kA => exact rfl); (case kF => exact rfl); (case kK => assumption); (case k1 => exact hB); (case k2 => exact hF); (case k3 => exact hX); (case k4 => exact hN); (case k5 => exact hT); (case k6 => k_is); (case k7 => k_is); (case k8 => ktr_room); (case k9 => exact BindsTo.of_eq rfl); (case kB => exact rfl); (case kD => decide +kernel); (case c2 => exact rfl); (case c3 => exact rfl); (case c4 => exact rfl); k_whole; intro g' L' h' tk' cells' FG' F' N' Y' B' X' T' l1; (try k_lt l1); k_cells Y'; (try simp only [List.cons_append, List.nil_append] at N'); (try dsimp only); (try k_lift B'); (try k_fold))
  repeat' (first | (k_unfold; (try dsimp only)) | walk1 | (dsimp only; walk1))

  unfold Halt
  refine filt_rest (writeAt held) (fun i v I oI C oC D m₂ ys h tk E' hi hv hC hx F N off ne => ?_) (fun ys hy => ?_)
  · obtain ⟨k, t, rfl, hk⟩ := sorts_at hv
    repeat' (first | (k_unfold; (try dsimp only)) | walk1 | (dsimp only; walk1))

    · exact ⟨_, _, _, rfl, F, N, off, .inr ⟨_, by k_mem, rfl, _, rfl⟩, rfl, _, _, rfl, wa1 hk (by assumption)⟩
    · exact ⟨_, _, _, rfl, F, N, off, .inr ⟨_, by k_mem, rfl, _, rfl⟩, rfl, wa0 hk (by assumption)⟩
  · skip
    repeat' (first | (k_unfold; (try dsimp only)) | walk1 | (dsimp only; walk1))

    exact hret _ [_] _ _ (by assumption) (News.pick1 (by assumption) (.head _) (fun p hp => by repeat' (first | exact hp | apply List.Mem.tail))) ⟨_, _, rfl, rfl, hy⟩
end
end Mine
end
section
open PySem PySem.W PyProof.Rows PySem.W.X
namespace Mine

open PyProof PyProof.V
/-- the entries that _law_parts_right writes, in their order -/
noncomputable def segI (s : Str) : Int := if s = Str.ofString "fs" then 100 else if s = Str.ofString "gs" then 101 else -1
noncomputable def esF (X : Pfx) : Held := [(Str.ofString "segment", segI X.seg), (Str.ofString "data", if X.data then 102 else -1), (Str.ofString "repeat", if 0 < X.rep then X.rep else -1), (Str.ofString "lock", if X.lock then 240 else -1), (Str.ofString "rex", X.rex)]
noncomputable def heldN (X : Pfx) (i : Nat) : Held := ((esF X).take i).filter fun p => 0 ≤ p.2
theorem has_filter {k : Str} {f : Str × Int → Bool} : ∀ {l : Held}, (∀ p ∈ l, p.1 ≠ k) → hasK (l.filter f) k = false := by
  intro l h
  unfold hasK
  rw [List.any_eq_false]
  intro p hp
  have := h p (List.mem_filter.mp hp).1
  simp [this]
theorem held_len (X : Pfx) (i : Nat) : (heldN X i).length ≤ 5 := by
  refine Nat.le_trans (List.length_filter_le _ _) ?_
  rw [List.length_take]
  exact Nat.min_le_right _ _
theorem held_snoc {X : Pfx} {i : Nat} {k : Str} {o : Int} (h : (esF X)[i]? = some (k, o)) (ho : 0 ≤ o) : heldN X (i + 1) = heldN X i ++ [(k, o)] := by
  unfold heldN
  rw [List.take_add_one, h, List.filter_append]
  simp [ho]
theorem held_skip {X : Pfx} {i : Nat} {k : Str} {o : Int} (h : (esF X)[i]? = some (k, o)) (ho : ¬ 0 ≤ o) : heldN X (i + 1) = heldN X i := by
  unfold heldN
  rw [List.take_add_one, h, List.filter_append]
  simp [ho]
theorem held_no {X : Pfx} {i : Nat} {k : Str} {o : Int} (h : (esF X)[i]? = some (k, o)) : hasK (heldN X i) k = false := by
  refine has_filter fun p hp => ?_
  have hi : i < 5 := (List.getElem?_eq_some_iff.mp h).1
  match i, hi with
  | 0, _ => exact (nomatch hp)
  | 1, _ => cases h; simp [esF] at hp; (rw [hp]; dsimp only; decide +kernel)
  | 2, _ => cases h; simp [esF] at hp; rcases hp with hp | hp <;> (rw [hp]; dsimp only; decide +kernel)
  | 3, _ => cases h; simp [esF] at hp; rcases hp with hp | hp | hp <;> (rw [hp]; dsimp only; decide +kernel)
  | 4, _ => cases h; simp [esF] at hp; rcases hp with hp | hp | hp | hp <;> (rw [hp]; dsimp only; decide +kernel)
theorem segv {v : Value} {s : Str} {t1 t2 t3 t4 : Tok} (hpl : s ∈ [Str.ofString "", Str.ofString "fs", Str.ofString "gs", Str.ofString "cs"]) (h : Flat v ((Spec.lookup (PyData.str s) (strData [(.str (Str.ofString "fs") t1, .int 100 t2), (.str (Str.ofString "gs") t3, .int 101 t4)])).getD (PyData.int (-1)))) : ∃ t, v = .int (segI s) t := by
  refine Flat.int_inv (i := segI s) ?_
  have e : (Spec.lookup (PyData.str s) (strData [(.str (Str.ofString "fs") t1, .int 100 t2), (.str (Str.ofString "gs") t3, .int 101 t4)])).getD (PyData.int (-1)) = .int (segI s) := by
    show (Spec.lookup (PyData.str s) [(.str (Str.ofString "fs"), .int 100), (.str (Str.ofString "gs"), .int 101)]).getD (PyData.int (-1)) = .int (segI s)
    simp only [List.mem_cons, List.not_mem_nil, or_false] at hpl
    rcases hpl with rfl | rfl | rfl | rfl <;> rfl
  rw [e] at h
  exact h
section
variable {prog : Program} {w : World} {A : Around} {E : Value → Shared → Prop} {s : Shared} {env : Env} {Q : Flow → Shared → Prop}
theorem for_listT {elts : List PySem.Expr} {x1 : Nat} {pos : Pos} {body : List Stmt} {ax : Addr} {lob : Obj} {items : Array Value} {g₀ : Heap} {m₀ : Str → Option Value} {news₀ : List (Addr × Obj)}
    (J : Nat → Heap → (Str → Option Value) → List (Addr × Obj) → Prop) (F : Fr g₀ env.locals s.heap m₀) (N : News g₀ env.locals s.heap news₀) (h0 : J 0 g₀ m₀ news₀)
    (hJ : ∀ i g m news, J i g m news → (ax, lob) ∈ news ∧ ∀ p ∈ news, p.1 ≠ s.heap.objs.size) (hc : lob.cls = .type "list") (hd : ∃ n, lob.data = .seq items n) (hi : ∀ (i : Nat) (v : Value), items[i]? = some v → ∃ T, v = Value.ref T) (hh : A.handled = none)
    (turn : Cut (∀ i v g m news h tk I iob, items[i]? = some v → J i g m news → Fr g env.locals h m → News g env.locals h ((I, iob) :: news) → I = s.heap.objs.size →
      wpAny (model prog w) A (assign (.Tuple elts x1 pos) env v) (fun _ s₂ => wpAny (model prog w) A (execs body env) (ForEnd env.locals s J I iob Q (i + 1)) E s₂) E { s with heap := h, toks := tk }))
    (done : Cut (∀ g m news h tk, J items.size g m news → Fr g env.locals h m → News g env.locals h news → Q .next { s with heap := h, toks := tk }))
    (hE : PassesOwn (model prog w) A env E := by passes_own) :
    wpAny (model prog w) A (pyIter (.ref ax)) (fun it s₂ => codeAny (model prog w) A (.forLoop (.Tuple elts x1 pos) it body [] env) (fun r s' => match r with | .ok f => Q f s' | .error e => cameBackBy (model prog w) A env E e s') s₂) E s := by
  have isl : ∀ {h : Heap}, h.get? ax = some lob → h.IsList ax items := fun e => ⟨lob, e, hc, hd⟩
  have hax := (N _ (hJ _ _ _ _ h0).1).1
  refine wpAny_pyIter_list (isl hax) ?_
  have lt0 : ∀ b o, s.heap.get? b = some o → b ≠ s.heap.objs.size := fun b o e => Nat.ne_of_lt (Heap.lt_size e)
  refine codeAny_forLoop_any (fun n s' => ∃ i g m news h tk iob, s' = { s with heap := h, toks := tk } ∧ i ≤ items.size ∧ n = items.size - i ∧ J i g m news ∧ Fr g env.locals h m ∧ News g env.locals h ((s.heap.objs.size, iob) :: news) ∧
      iob.cls = .type "list_iterator" ∧ iob.data = .fields #[.ref ax, .int (i : Int) 0]) ?_ items.size
    ⟨0, g₀, m₀, news₀, _, s.toks, { cls := .type "list_iterator", data := .fields #[.ref ax, .int 0 0] }, rfl, Nat.zero_le _, rfl, h0, F.push _, N.push F _, rfl, rfl⟩
  rintro n s' ⟨i, g, m, news, h, tk, iob, rfl, hi', rfl, hj, F', N', c1, c2⟩
  have hl := hJ _ _ _ _ hj
  have hlst : h.IsList ax items := isl (N' _ (.tail _ hl.1)).1
  have hit : h.IsListIter s.heap.objs.size ax i := ⟨iob, (N' _ (.head _)).1, c1, c2⟩
  have hap := hl.2
  cases hv : items[i]? with
  | none =>
    have hsz : i = items.size := Nat.le_antisymm hi' (by simpa using hv)
    subst hsz
    refine wpAny_pyNext_list_end hh hit hlst hv fun h₁ he => wpAny_execs_nil ?_
    have hI := (N' _ (.head _)).2
    exact done.un g m news h₁ tk hj ⟨F'.ns.extBut he (Ne.symm hI.1), fun b o e => he b o (fun z => by rw [z, hI.2] at e; cases e) (F'.keep b o e), F'.above⟩ fun p hp => ⟨he _ _ (hap p hp) (N' p (.tail _ hp)).1, (N' p (.tail _ hp)).2⟩
  | some v =>
    have hlt : i < items.size := (Array.getElem?_eq_some_iff.mp hv).1
    refine wpAny_pyNext_list_item hit hlst hv fun h₁ hit₁ hs => ?_
    obtain ⟨T, rfl⟩ := hi i v hv
    refine wpAny_letOwnedTupleGo_listiter hit₁ ?_
    obtain ⟨iob₁, e1, e2, e3⟩ := hit₁
    have hI := (N' _ (.head _)).2
    have F₁ : Fr g env.locals h₁ m := F'.change hs hI.1 hI.2
    have N₁ : News g env.locals h₁ ((s.heap.objs.size, iob₁) :: news) := news_set (pre := []) N' (fun _ hp => nomatch hp) hap hs e1
    refine wpAny_passesOwn hE (wpAny_mono (turn.un i (.ref T) g m news h₁ tk s.heap.objs.size iob₁ hv hj F₁ N₁ rfl) (fun _ s₂ q => wpAny_passesOwn hE (wpAny_mono q (fun f s₃ q => ?_) fun _ _ e => e)) fun _ _ e => e)
    cases f with
    | ret v => exact q
    | brk => exact q
    | next =>
      obtain ⟨g', m', news', h', tk', rfl, F₂, N₂, j₂⟩ := q
      exact ⟨items.size - (i + 1), by omega, i + 1, g', m', news', h', tk', iob₁, rfl, hlt, rfl, j₂, F₂, N₂, e2, e3⟩
    | cont =>
      obtain ⟨g', m', news', h', tk', rfl, F₂, N₂, j₂⟩ := q
      exact ⟨items.size - (i + 1), by omega, i + 1, g', m', news', h', tk', iob₁, rfl, hlt, rfl, j₂, F₂, N₂, e2, e3⟩
end
noncomputable def soNames : List Str := [Str.ofString "sort", Str.ofString "octet"]
/-- what the loops over the entries keep -/
noncomputable def HJ (w : World) (d : Addr) (g₀ : Heap) (m₀ : Str → Option Value) (fixed post : List (Addr × Obj)) (X : Pfx) (b : Nat) (i : Nat) (g : Heap) (m : Str → Option Value) (l : List (Addr × Obj)) : Prop :=
  g = g₀ ∧ ∃ (u : Str → Option Value) (od : Obj) (kvs : List (Str × Value)), m = (fun z => if soNames.contains z then u z else m₀ z) ∧ l = fixed ++ (d, od) :: post ∧ od.IsDictOf (PySem.strKind PP w) kvs ∧ HK kvs (heldN X (b + i))
noncomputable def MidH (w : World) (d : Addr) (g : Heap) (L : Addr) (m₀ : Str → Option Value) (post : List (Addr × Obj)) (X : Pfx) (n : Nat) (s s₁ : Shared) : Prop :=
  ∃ (h : Heap) (tk : Nat) (u : Str → Option Value) (od : Obj) (kvs : List (Str × Value)), s₁ = { s with heap := h, toks := tk } ∧ Fr g L h (fun z => if soNames.contains z then u z else m₀ z) ∧ News g L h ((d, od) :: post) ∧ od.IsDictOf (PySem.strKind PP w) kvs ∧ HK kvs (heldN X n)
section
variable {w : World} {d : Addr} {g₀ : Heap} {m₀ : Str → Option Value} {fixed post : List (Addr × Obj)} {X : Pfx} {b i : Nat}
theorem HJ.hJ {s : Shared} {ax : Addr} {lob od : Obj} {L : Addr} (ha : (ax, lob) ∈ fixed) (N : News g₀ L s.heap (fixed ++ (d, od) :: post)) : ∀ i g m news, HJ w d g₀ m₀ fixed post X b i g m news → (ax, lob) ∈ news ∧ ∀ p ∈ news, p.1 ≠ s.heap.objs.size := by
  rintro i g m news ⟨_, u, od', kvs, _, rfl, _, _⟩
  refine ⟨List.mem_append_left _ ha, fun p hp => ?_⟩
  rcases List.mem_append.mp hp with hp | hp
  · exact news_size N p (List.mem_append_left _ hp)
  · rcases List.mem_cons.mp hp with rfl | hp
    · exact news_size N (d, od) (List.mem_append_right _ (.head _))
    · exact news_size N p (List.mem_append_right _ (.tail _ hp))
theorem HJ.start {od : Obj} {kvs : List (Str × Value)} (hd : od.IsDictOf (PySem.strKind PP w) kvs) (hk : HK kvs (heldN X b)) : HJ w d g₀ m₀ fixed post X b 0 g₀ m₀ (fixed ++ (d, od) :: post) :=
  ⟨rfl, m₀, od, kvs, funext fun z => by split <;> rfl, rfl, hd, hk⟩
theorem HJ.next {od : Obj} {kvs : List (Str × Value)} {m' : Str → Option Value} {held : Held} (hd : od.IsDictOf (PySem.strKind PP w) kvs) (hk : HK kvs held) (e : heldN X (b + i + 1) = held) (hm : ∀ z, soNames.contains z = false → m' z = m₀ z) :
    HJ w d g₀ m₀ fixed post X b (i + 1) g₀ m' (fixed ++ (d, od) :: post) :=
  ⟨rfl, m', od, kvs, funext fun z => by
    cases q : soNames.contains z with
    | true => rw [if_pos rfl]
    | false => rw [if_neg Bool.false_ne_true]; exact hm z q, rfl, hd, e ▸ hk⟩
theorem set_heldU {prog : Program} {A : Around} {E : Value → Shared → Prop} {s : Shared} {h₀ : Heap} {L : Addr} {m : Str → Option Value} {news : List (Addr × Obj)} {g : Obj → List (Addr × Obj)} {od : Obj} {kvs : List (Str × Value)} {held : Held} {k : Str} {t u : Tok} {o : Int} {Q : Unit → Shared → Prop} (F : Fr h₀ L s.heap m) (N : News h₀ L s.heap news) (U : UpdF d od news g) (hd : od.IsDictOf (PySem.strKind prog w) kvs) (hk : HK kvs held) (hno : hasK held k = false) (hsz : kvs.length ≤ 1000)
    (h : ∀ h' o' kvs', Fr h₀ L h' m → News h₀ L h' (g o') → o'.IsDictOf (PySem.strKind prog w) kvs' → HK kvs' (held ++ [(k, o)]) → Q () { s with heap := h', toks := s.toks + 1 }) :
    wpAny (model prog w) A (setItem (.ref d) (.str k t) (.int o u)) Q E s := by
  refine kda_set F N U hd (strKind_is _ _ _ _) (by rw [sizeLine_eq]; omega) fun h' o' F' N' hd' => ?_
  have e : stored kvs k (.int o u) = kvs ++ [(k, .int o u)] := stored_absent (by
    rcases hk.at_ (k := k) with q | q
    · exact q.2
    · rw [hno] at q; cases q.1) _
  rw [e] at hd'
  exact h h' o' _ F' N' hd' hk.snoc
end
theorem ne_sort {z : Str} (hz : soNames.contains z = false) : z ≠ Str.ofString "sort" := fun e => by rw [e] at hz; simp [soNames] at hz
theorem ne_octet {z : Str} (hz : soNames.contains z = false) : z ≠ Str.ofString "octet" := fun e => by rw [e] at hz; simp [soNames] at hz
/-- what is read back -/
noncomputable def backOk (X : Pfx) (zs : List Int) : Bool := match readF pfx0 (zs ++ [144, 102]) 1 with
  | some (Y, n) => Y.seg == X.seg && Y.data == X.data && Y.rep == X.rep && Y.lock == X.lock && Y.rex == X.rex && n == 1 + zs.length
  | none => false
noncomputable def partOk (X : Pfx) : Bool := match octF X with
  | some zs => writtenF (heldN X 5) == zs && backOk X zs
  | none => true
theorem parts_all : ∀ pl ∈ [Str.ofString "", Str.ofString "fs", Str.ofString "gs", Str.ofString "cs"], ∀ rp ∈ ([0, 242, 243, 240, 1] : List Int), ∀ rx ∈ ([-1, 64, 72, 79, 80, 63] : List Int), ∀ dt lk : Bool, partOk ⟨pl, dt, rp, lk, rx⟩ = true := by decide +kernel
section
variable {X : Pfx} (hpl : X.seg ∈ [Str.ofString "", Str.ofString "fs", Str.ofString "gs", Str.ofString "cs"]) (hrp : X.rep ∈ ([0, 242, 243, 240, 1] : List Int)) (hrx : X.rex ∈ ([-1, 64, 72, 79, 80, 63] : List Int))
include hpl hrp hrx
theorem part_written {zs : List Int} (e : octF X = some zs) : writtenF (heldN X 5) = zs := by
  have z := parts_all _ hpl _ hrp _ hrx X.data X.lock
  unfold partOk at z
  rw [show octF ⟨X.seg, X.data, X.rep, X.lock, X.rex⟩ = some zs from e] at z
  exact eq_of_beq (Bool.and_eq_true_iff.mp z).1
theorem part_back {zs : List Int} (e : octF X = some zs) {Y : Pfx} {n : Nat} (h : readF pfx0 (zs ++ [144, 102]) 1 = some (Y, n)) : Y = X ∧ n = 1 + zs.length := by
  have z := parts_all _ hpl _ hrp _ hrx X.data X.lock
  unfold partOk at z
  rw [show octF ⟨X.seg, X.data, X.rep, X.lock, X.rex⟩ = some zs from e] at z
  have z2 := (Bool.and_eq_true_iff.mp z).2
  unfold backOk at z2
  rw [h] at z2
  simp only [Bool.and_eq_true, beq_iff_eq] at z2
  obtain ⟨⟨⟨⟨⟨a1, a2⟩, a3⟩, a4⟩, a5⟩, a6⟩ := z2
  obtain ⟨y1, y2, y3, y4, y5⟩ := Y
  obtain ⟨x1, x2, x3, x4, x5⟩ := X
  dsimp only at a1 a2 a3 a4 a5
  subst a1 a2 a3 a4 a5
  exact ⟨rfl, a6⟩
theorem part_no {zs : List Int} (e : octF X = some zs) (h : readF pfx0 (zs ++ [144, 102]) 1 = none) : False := by
  have z := parts_all _ hpl _ hrp _ hrx X.data X.lock
  unfold partOk at z
  rw [show octF ⟨X.seg, X.data, X.rep, X.lock, X.rex⟩ = some zs from e] at z
  have z2 := (Bool.and_eq_true_iff.mp z).2
  unfold backOk at z2
  rw [h] at z2
  cases z2
end
end Mine
end
section
open PySem PySem.W PyProof.Rows PySem.W.X
namespace Mine

section
variable {prog : Program} {w : World} {A : Around} {E : Value → Shared → Prop} {s : Shared} {env : Env} {Q : Flow → Shared → Prop}
/-- a loop over a range whose turns may turn the ground -/
theorem for_rangeJ {x : Str} {px : Pos} {body : List Stmt} {r : Addr} {a b : Int} {t u v : Tok} {n : Nat} {g₀ : Heap} {m₀ : Str → Option Value} {news₀ : List (Addr × Obj)}
    (J : Nat → Heap → (Str → Option Value) → List (Addr × Obj) → Prop) (F : Fr g₀ env.locals s.heap m₀) (N : News g₀ env.locals s.heap news₀) (h0 : J 0 g₀ m₀ news₀)
    (hJ : ∀ i g m news, J i g m news → ∀ p ∈ news, p.1 ≠ s.heap.objs.size) (hr : IsRange s.heap r a b 1 t u v) (hsm : Builtin.Range.small a b 1 = true) (hn : Builtin.Range.rangeSize a b 1 = ((n : Nat) : Int)) (hh : A.handled = none)
    (turn : Cut (∀ i v tv g m news h tk I iob, i < n → v = a + (i : Int) → J i g m news → Fr g env.locals h m → News g env.locals h ((I, iob) :: news) → iob.cls = .type "range_iterator" → (∃ y1 y2 y3, iob.data = .fields #[rawInt y1, rawInt y2, rawInt y3]) → I = s.heap.objs.size →
      wpAny (model prog w) A (storeName env x (.int v tv)) (fun _ s₂ => wpAny (model prog w) A (execs body env) (ForEnd env.locals s J I iob Q (i + 1)) E s₂) E { s with heap := h, toks := tk }))
    (done : Cut (∀ g m news h tk, J n g m news → Fr g env.locals h m → News g env.locals h news → Q .next { s with heap := h, toks := tk }))
    (hE : PassesOwn (model prog w) A env E := by passes_own) :
    wpAny (model prog w) A (pyIter (.ref r)) (fun it s₂ => codeAny (model prog w) A (.forLoop (.Name x px) it body [] env) (fun r s' => match r with | .ok f => Q f s' | .error e => cameBackBy (model prog w) A env E e s') s₂) E s := by
  refine wpAny_pyIter_range hr hsm ?_
  rw [hn]
  refine codeAny_forLoop (fun k s' => ∃ i g m news h tk, s' = { s with heap := h, toks := tk } ∧ i ≤ n ∧ k = n - i ∧ J i g m news ∧ Fr g env.locals h m ∧ News g env.locals h ((s.heap.objs.size, { cls := .type "range_iterator", data := .fields #[rawInt (a + (i : Int)), rawInt ((n : Int) - (i : Int)), rawInt 1] }) :: news)) ?_ n
    ⟨0, g₀, m₀, news₀, _, s.toks, rfl, Nat.zero_le _, rfl, h0, F.push _, by simpa using N.push F { cls := .type "range_iterator", data := .fields #[rawInt a, rawInt (n : Int), rawInt 1] }⟩
  rintro k s' ⟨i, g, m, news, h, tk, rfl, hi, rfl, hj, F', N'⟩
  have hap := hJ _ _ _ _ hj
  have hit : IsRangeIter h s.heap.objs.size (a + (i : Int)) ((n : Int) - (i : Int)) 1 := (N' _ (.head _)).1
  have hI := (N' _ (.head _)).2
  by_cases hlt : i < n
  · refine wpAny_pyNext_range_item hit (by omega) fun h₁ hit₁ hs => ?_
    have F₁ : Fr g env.locals h₁ m := F'.change hs hI.1 hI.2
    have N₁ : News g env.locals h₁ ((s.heap.objs.size, { cls := .type "range_iterator", data := .fields #[rawInt (a + (i : Int) + 1), rawInt ((n : Int) - (i : Int) - 1), rawInt 1] }) :: news) := news_set (pre := []) N' (fun _ hp => nomatch hp) hap hs hit₁
    refine wpAny_assign_Name (wpAny_passesOwn hE (wpAny_mono (turn.un i _ tk g m news h₁ (tk + 1) s.heap.objs.size _ hlt rfl hj F₁ N₁ rfl ⟨_, _, _, rfl⟩ rfl) (fun _ s₂ q => wpAny_passesOwn hE (wpAny_mono q (fun f s₃ q => ?_) fun _ _ e => e)) fun _ _ e => e))
    have st : ∀ f, (f = .next ∨ f = .cont) → ForEnd env.locals s J s.heap.objs.size { cls := .type "range_iterator", data := .fields #[rawInt (a + (i : Int) + 1), rawInt ((n : Int) - (i : Int) - 1), rawInt 1] } Q (i + 1) f s₃ → ∃ m', m' < n - i ∧ ∃ i g m news h tk, s₃ = { s with heap := h, toks := tk } ∧ i ≤ n ∧ m' = n - i ∧ J i g m news ∧ Fr g env.locals h m ∧ News g env.locals h ((s.heap.objs.size, { cls := .type "range_iterator", data := .fields #[rawInt (a + (i : Int)), rawInt ((n : Int) - (i : Int)), rawInt 1] }) :: news) := by
      intro f hf q
      have q' : ∃ g m news h tk, s₃ = { s with heap := h, toks := tk } ∧ Fr g env.locals h m ∧ News g env.locals h ((s.heap.objs.size, { cls := .type "range_iterator", data := .fields #[rawInt (a + (i : Int) + 1), rawInt ((n : Int) - (i : Int) - 1), rawInt 1] }) :: news) ∧ J (i + 1) g m news := by rcases hf with rfl | rfl <;> exact q
      obtain ⟨g', m', news', h', tk', rfl, F₂, N₂, j₂⟩ := q'
      refine ⟨n - (i + 1), by omega, i + 1, g', m', news', h', tk', rfl, hlt, rfl, j₂, F₂, ?_⟩
      have e1 : a + (i : Int) + 1 = a + ((i + 1 : Nat) : Int) := by omega
      have e2 : (n : Int) - (i : Int) - 1 = (n : Int) - ((i + 1 : Nat) : Int) := by omega
      rw [← e1, ← e2]
      exact N₂
    cases f with
    | ret v => exact q
    | brk => exact q
    | next => exact st _ (.inl rfl) q
    | cont => exact st _ (.inr rfl) q
  · have hin : i = n := by omega
    subst hin
    refine wpAny_pyNext_range_end hh hit (by omega) fun h₁ he => wpAny_execs_nil ?_
    exact done.un g m news h₁ tk hj ⟨F'.ns.extBut he (Ne.symm hI.1), fun b o e => he b o (fun z => by rw [z, hI.2] at e; cases e) (F'.keep b o e), F'.above⟩ fun p hp => ⟨he _ _ (hap p hp) (N' p (.tail _ hp)).1, (N' p (.tail _ hp)).2⟩
end
theorem TabOk.off {qual : Str} {ps : Array Value} {codes : List (Addr × Obj)} {I : Addr} (h : TabOk qual ps codes) (k : ∀ c' oc vs t, (c', oc) ∈ codes → oc.data = .fields vs → vs[1]? = some (.str qual t) → c' ≠ I) : TabOk qual ps (codes.filter fun q => q.1 != I) :=
  ⟨h.1, fun pos cv e => by
    obtain ⟨c', oc, vs, t, e1, e2, e3, e4⟩ := h.2 pos cv e
    exact ⟨c', oc, vs, t, e1, List.mem_filter.mpr ⟨e2, by simpa using k c' oc vs t e2 e3 e4⟩, e3, e4⟩⟩
/-- what the law's own loop keeps -/
noncomputable def AJ (G : Heap) (I r : Addr) (ys : List Value) (tail : List (Addr × Obj)) (m₀ : Str → Option Value) (_ : Nat) (g : Heap) (m : Str → Option Value) (l : List (Addr × Obj)) : Prop :=
  ∃ (u : Str → Option Value) (ps : Array Value) (codes : List (Addr × Obj)), g = G ∧ m = (fun z => if z = Str.ofString "at" then u z else m₀ z) ∧ l = (247, tabObj ps) :: (r, LCg.lst ys) :: (codes ++ tail) ∧ TabOk "_law_row_right.<locals>.<lambda>" ps codes ∧ (∀ p ∈ codes, p.1 ≠ 247) ∧ (∀ p ∈ codes, p.1 ≠ I)
section
variable {g h : Heap} {I L r : Addr} {ys : List Value} {tail codes codes' : List (Addr × Obj)} {m₀ m : Str → Option Value} {ps : Array Value} {iob : Obj} {s : Shared} {Q : Flow → Shared → Prop} {i tk : Nat}
theorem AJ.start : AJ g I r ys tail m₀ 0 g m₀ ((247, tabObj #[]) :: (r, LCg.lst ys) :: ([] ++ tail)) := by
  unfold AJ
  refine ⟨m₀, #[], [], rfl, ?_, ?_, ?_, ?_, ?_⟩
  · exact funext fun z => by split <;> rfl
  · rfl
  · exact TabOk.nil
  · exact fun _ h => nomatch h
  · exact fun _ h => nomatch h
theorem AJ.hJ (N : News g L s.heap ((247, tabObj #[]) :: (r, LCg.lst ys) :: ([] ++ tail))) : ∀ i g' m news, AJ g s.heap.objs.size r ys tail m₀ i g' m news → ∀ p ∈ news, p.1 ≠ s.heap.objs.size := by
  rintro i g m news ⟨u, ps, codes, _, _, rfl, _, _, hI⟩ p hp
  have z := news_size N
  rcases List.mem_cons.mp hp with rfl | hp
  · exact z (247, tabObj #[]) (.head _)
  · rcases List.mem_cons.mp hp with rfl | hp
    · exact z _ (.tail _ (.head _))
    · rcases List.mem_append.mp hp with hp | hp
      · exact hI p hp
      · exact z p (.tail _ (.tail _ hp))
theorem AJ.next (F : Fr g L h m) (N : News g L h (((247, tabObj ps) :: codes') ++ (r, LCg.lst ys) :: (I, iob) :: tail)) (hd : ∃ y1 y2 y3, iob.data = .fields #[rawInt y1, rawInt y2, rawInt y3]) (ok : TabOk "_law_row_right.<locals>.<lambda>" ps codes') (h1 : ∀ q ∈ codes', q.1 ≠ 247)
    (hm : ∀ z, z ≠ Str.ofString "at" → m z = m₀ z) :
    ForEnd L s (AJ g I r ys tail m₀) I iob Q i .next { s with heap := h, toks := tk } := by
  have nn : News g L h ((I, iob) :: (247, tabObj ps) :: (r, LCg.lst ys) :: ((codes'.filter fun q => q.1 != I) ++ tail)) := News.sub N fun p hp => by
    rcases List.mem_cons.mp hp with rfl | hp
    · exact List.mem_append_right _ (.tail _ (.head _))
    · rcases List.mem_cons.mp hp with rfl | hp
      · exact .head _
      · rcases List.mem_cons.mp hp with rfl | hp
        · exact List.mem_append_right _ (.head _)
        · rcases List.mem_append.mp hp with hp | hp
          · exact List.mem_append_left _ (.tail _ (List.mem_filter.mp hp).1)
          · exact List.mem_append_right _ (.tail _ (.tail _ hp))
  refine for_next F nn ?_
  unfold AJ
  refine ⟨m, ps, codes'.filter fun q => q.1 != I, rfl, ?_, ?_, ?_, ?_, ?_⟩
  · funext z
    split
    · rfl
    · exact hm z (by assumption)
  · rfl
  · exact ok.off fun c' oc vs t hm' e1 e2 e => by
      obtain ⟨y1, y2, y3, hd⟩ := hd
      have z1 := (N (c', oc) (List.mem_append_left _ (.tail _ hm'))).1
      have z2 := (N (I, iob) (List.mem_append_right _ (.tail _ (.head _)))).1
      have z3 : ((c', oc) : Addr × Obj).1 = I := e
      rw [z3, z2] at z1
      have z4 : iob = oc := Option.some.inj z1
      rw [← z4, hd] at e1
      have z5 := Data.fields.inj e1
      rw [← z5] at e2
      simp [rawInt] at e2
  · exact fun p hp => h1 p (List.mem_filter.mp hp).1
  · exact fun p hp => by simpa using (List.mem_filter.mp hp).2
end
end Mine
end
section
open PySem PySem.W PyProof.Rows PySem.W.X
namespace Mine

section
variable {prog : Program} {w : World} {A : Around} {h₀ : Heap} {L : Addr} {m : Str → Option Value} {env : Env} {elt : PySem.Expr} {x : Str} {scope : Scope} {cl : List (Str × Addr)} {s : Shared} {S : List (Addr × Obj) → Prop} {P : Nat → Value → Prop} {Fin : List Value → List (Addr × Obj) → Prop} {news : List (Addr × Obj)}
noncomputable def TEl (v₀ : Value) (news : List (Addr × Obj)) (y : Value) (news' : List (Addr × Obj)) : Prop := news' = news ∧ y = v₀
/-- a list of one value -/
theorem same_rest {n : Nat} (v₀ : Value)
    (turn : Cut (∀ i v I oI C oC D m₂ ys h tk (E' : Value → Shared → Prop), i < n → P i v → LCg.NsObj oC m₂ → m₂ x = some v → Fr h₀ L h m → News h₀ L h ((I, oI) :: (C, oC) :: (D, LCg.lst ys) :: news) → LCg.Off3 I C D news → ((@Ne Nat I C) ∧ (@Ne Nat I D) ∧ (@Ne Nat C D)) →
      wpAny (model prog w) A (eval elt (compEnvC scope cl C env)) (LCg.CompEnd h₀ L m { s with heap := h, toks := tk } I oI C oC D (LCg.lst ys) S (TEl v₀ news)) E' { s with heap := h, toks := tk }))
    (fin : Cut (Fin (List.replicate n v₀) news)) : LCg.CompRest prog w A h₀ L m env elt x scope cl s S P Fin n 0 [] news := by
  have key : ∀ (j i : Nat), i + j = n → LCg.CompRest prog w A h₀ L m env elt x scope cl s S P Fin j i (List.replicate i v₀) news := by
    intro j
    induction j with
    | zero =>
      intro i hi
      obtain rfl : i = n := by omega
      exact LCg.CompRest.zero fin.un
    | succ j ih =>
      intro i hi
      refine LCg.CompRest.succ ?_
      intro v I oI C oC D m₂ h tk E' hv hC hx F N off ne
      refine wpAny_mono (turn.un i v I oI C oC D m₂ _ h tk E' (by omega) hv hC hx F N off ne) (fun y s₃ hr => ?_) fun _ _ e => e
      obtain ⟨h', tk', nw, e, F', N', off', hS, hn, hy⟩ := hr
      rw [hn] at N' off' hS
      refine ⟨h', tk', news, e, F', N', off', hS, ?_⟩
      rw [hy]
      show LCg.CompRest prog w A h₀ L m env elt x scope cl s S P Fin j (i + 1) (List.replicate i v₀ ++ [v₀]) news
      rw [← List.replicate_succ']
      exact ih (i + 1) (by omega)
  exact key n 0 (by omega)
theorem bools_rep : ∀ n, LSm.BoolsAre (List.replicate n (Value.bool true)) (List.replicate n true)
  | 0 => .nil
  | n + 1 => .cons true (bools_rep n)
end
end Mine
end
section
open PySem PySem.W PyProof.Rows PySem.W.X
namespace Mine

section
variable {prog : Program} {w : World} {A : Around} {E : Value → Shared → Prop} {s : Shared} {env : Env} {Q : Flow → Shared → Prop}
/-- a loop over a tuple that is meant to end by a raise: what the passed items are is kept -/
theorem for_tuple_pure {x : Str} {px : Pos} {body : List Stmt} {ax : Addr} {lob : Obj} {items : Array Value} {G : Heap} {m₀ : Str → Option Value} {NL : List (Addr × Obj)} (P : Nat → Prop)
    (hh : A.handled = none) (hc : lob.cls = .type "tuple") (hd : ∃ n, lob.data = .seq items n)
    (hJ : (ax, lob) ∈ NL) (F : Fr G env.locals s.heap m₀) (N : News G env.locals s.heap NL) (h0 : P 0)
    (turn : ∀ (i : Nat) (v : Value) (m : Str → Option Value) (h : Heap) (tk : Nat) (I : Addr) (iob : Obj), items[i]? = some v → P i → (∀ z, z ≠ x → m z = m₀ z) → Fr G env.locals h m → News G env.locals h ((I, iob) :: NL) →
      wpAny (model prog w) A (storeName env x v) (fun _ s₂ => wpAny (model prog w) A (execs body env) (ForEnd env.locals s (fun i g m news => g = G ∧ news = NL ∧ (∀ z, z ≠ x → m z = m₀ z) ∧ P i) I iob Q (i + 1)) E s₂) E { s with heap := h, toks := tk })
    (done : P items.size → ∀ s', Q .next s')
    (hE : PassesOwn (model prog w) A env E := by passes_own) :
    wpAny (model prog w) A (pyIter (.ref ax)) (fun it s₂ => codeAny (model prog w) A (.forLoop (.Name x px) it body [] env) (fun r s' => match r with | .ok f => Q f s' | .error e => cameBackBy (model prog w) A env E e s') s₂) E s := by
  refine for_tuple hh (fun i g m news => g = G ∧ news = NL ∧ (∀ z, z ≠ x → m z = m₀ z) ∧ P i) hc hd (fun _ _ _ _ j => j.2.1 ▸ ⟨hJ, fun p hp => Nat.ne_of_lt (Heap.lt_size (N p hp).1)⟩) F N ⟨rfl, rfl, fun _ _ => rfl, h0⟩ ?_ ?_ hE
  · rintro i v g m news h tk I iob hv ⟨rfl, rfl, hm, hp⟩ F' N'
    exact turn i v m h tk I iob hv hp hm F' N'
  · rintro g m news h tk ⟨rfl, rfl, hm, hp⟩ F' N'
    exact done hp _
end
end Mine
end
section
open PySem PySem.W PyProof.Rows PySem.W.X
namespace Mine


section
variable {w : World} {mean : ExcName → Option Value} {mg mb : Str → Option Value}

theorem c_rex_bad (news : List (Addr × Obj)) (va vr vx vb : Int) (ta tr tx tb : Tok) (hbad : ¬ ((va = 0 ∨ va = 1) ∧ (vr = 0 ∨ vr = 1) ∧ (vx = 0 ∨ vx = 1) ∧ (vb = 0 ∨ vb = 1))) :
    CP w mean mg mb 900 9000 73 [.int va ta, .int vr tr, .int vx tx, .int vb tb] news (fun v tl => False) (fun C => C = 52) := by
  k_with_none
  w_top off
  k_with "exec Raise some none" => ((k_here; refine Raise_own rfl ?_))
  k_with "call ref" => ((k_here; (with_reducible show wpAny _ _ (call (Value.ref _) [Value.str _ _]) (RaisableO _ _) _ _); refine raise_call ?zhCq ?zXq rfl ?zdq ?zuq ?_; (case zhCq => first | exact .inl rfl | exact .inr rfl); (case zXq => k_in); (case zdq => exact Nat.le_of_ble_eq_true rfl); (case zuq => exact Nat.le_of_ble_eq_true rfl); intro e' h' tk' hm'; (try dsimp only at hm' ⊢)))
  k_with "leaving ref" => ((k_here; refine' leave_own ?zk1q ?zk0q ?zk2q ?zk3q ?_; (case zk0q => assumption); (case zk2q => assumption); (case zk1q => assumption); (case zk3q => k_asm); k_whole; intro h' S' U'; (try dsimp only at S' U' ⊢)))
  k_with "exec For Name Tuple cons nil" => ((k_here; k_dflt (refine wpAny_For ?_)))
  have four : ∀ {i : Nat} {v : Value}, (#[Value.int va ta, .int vr tr, .int vx tx, .int vb tb] : Array Value)[i]? = some v → ∃ n t, v = .int n t := by
    intro i v hv
    have hi : i < 4 := (Array.getElem?_eq_some_iff.mp hv).1
    match i, hi with
    | 0, _ => cases hv; exact ⟨_, _, rfl⟩
    | 1, _ => cases hv; exact ⟨_, _, rfl⟩
    | 2, _ => cases hv; exact ⟨_, _, rfl⟩
    | 3, _ => cases hv; exact ⟨_, _, rfl⟩
  have fin : (∀ (j : Nat) (n : Int) (t : Tok), j < 4 → (#[Value.int va ta, .int vr tr, .int vx tx, .int vb tb] : Array Value)[j]? = some (.int n t) → n = 0 ∨ n = 1) → False := fun h =>
    hbad ⟨h 0 _ _ (by decide) rfl, h 1 _ _ (by decide) rfl, h 2 _ _ (by decide) rfl, h 3 _ _ (by decide) rfl⟩
  have more : ∀ {i : Nat} {n : Int} {t : Tok}, (#[Value.int va ta, .int vr tr, .int vx tx, .int vb tb] : Array Value)[i]? = some (.int n t) → (n = 0 ∨ n = 1) → (∀ (j : Nat) (n : Int) (t : Tok), j < i → (#[Value.int va ta, .int vr tr, .int vx tx, .int vb tb] : Array Value)[j]? = some (.int n t) → n = 0 ∨ n = 1) → (∀ (j : Nat) (n : Int) (t : Tok), j < i + 1 → (#[Value.int va ta, .int vr tr, .int vx tx, .int vb tb] : Array Value)[j]? = some (.int n t) → n = 0 ∨ n = 1) := by
    intro i n t hv hn hp j n' t' hj hv'
    rcases Nat.lt_succ_iff_lt_or_eq.mp hj with h | h
    · exact hp j n' t' h hv'
    · subst h
      rw [hv] at hv'
      cases hv'
      exact hn
  k_with "pyIter ref" => (
    (rename News _ _ _ _ => nN)
    (rename Fr _ _ _ _ => nF)
    (k_dflt (refine for_tuple_pure (items := #[Value.int va ta, .int vr tr, .int vx tx, .int vb tb]) (fun i => ∀ (j : Nat) (n : Int) (t : Tok), j < i → (#[Value.int va ta, .int vr tr, .int vx tx, .int vb tb] : Array Value)[j]? = some (.int n t) → n = 0 ∨ n = 1) rfl rfl ⟨_, rfl⟩ (.head _) nF nN (fun j n t hj => absurd hj (Nat.not_lt_zero _)) ?_ (fun hp => (fin hp).elim)))
    intro i v m h tk I iob hv hp hm lF lN
    obtain ⟨n, t, hv'⟩ := four hv
    subst hv')
  refine unhook ?_
  k_fill
  intro _ _
  intro gd cn cs a ccd cl outer A₀ base h₀ L m s Q E hB hF hX hN hT hk hret hexc
  refine wpAny_call ?_
  k_dflt cell_enter
  repeat' (first | (k_unfold; (try dsimp only)) | walk1 | (dsimp only; walk1))

  all_goals first
    | (refine hexc _ _ _ _ _ rfl (by assumption) (by first | assumption | exact RaisedSN.sub (by assumption) (fun p hp => by repeat' (first | exact hp | apply List.Mem.tail))) (by assumption))
    | exact for_next (by assumption) (by assumption) ⟨rfl, rfl, fun z hz => by rw [if_neg hz]; exact hm z hz, more hv (by first | exact .inl (by assumption) | exact .inr (by assumption)) hp⟩
end
end Mine
end
section
open PySem PySem.W PyProof.Rows PySem.W.X
namespace Mine



noncomputable def lamD1 (o : Obj) : PySem.Expr := match o.data with
  | .func fd => (match fd.body with
    | .stmts (_ :: _ :: _ :: _ :: _ :: _ :: _ :: .Assign _ (.List [l, _, _] _) _ :: _) => l
    | _ => default)
  | _ => default
noncomputable def lamD2 (o : Obj) : PySem.Expr := match o.data with
  | .func fd => (match fd.body with
    | .stmts (_ :: _ :: _ :: _ :: _ :: _ :: _ :: .Assign _ (.List [_, l, _] _) _ :: _) => l
    | _ => default)
  | _ => default
noncomputable def lamD3 (o : Obj) : PySem.Expr := match o.data with
  | .func fd => (match fd.body with
    | .stmts (_ :: _ :: _ :: _ :: _ :: _ :: _ :: .Assign _ (.List [_, _, l] _) _ :: _) => l
    | _ => default)
  | _ => default
section
variable {w : World} {mean : ExcName → Option Value} {mg mb : Str → Option Value} {params : Arguments} {body : PySem.Expr} {scope : Scope} {pos : Pos}
theorem c_odd1 (news : List (Addr × Obj)) (f c' : Addr) (oc : Obj) (vs : Array Value) (tq : Tok) (ctv pm : Value) (qual : Str) (hl : lamD1 (ob278 w.params) = .Lambda params body scope pos)
    (hd : oc.data = .fields vs) (hv : vs[1]? = some (.str qual tq)) :
    CP w mean mg mb 750 7500 f [] ((f, kla_obj "<lambda>" qual params body scope [] pm c' ctv) :: (c', oc) :: news)
      (fun v tl => False) (fun C => C = 52) := by
  k_with_none
  w_top off
  k_with "exec Raise some none" => ((k_here; refine Raise_own rfl ?_))
  k_with "call ref" => ((k_here; (with_reducible show wpAny _ _ (call (Value.ref _) [Value.str _ _]) (RaisableO _ _) _ _); refine raise_call ?zhCq ?zXq rfl ?zdq ?zuq ?_; (case zhCq => first | exact .inl rfl | exact .inr rfl); (case zXq => k_in); (case zdq => exact Nat.le_of_ble_eq_true rfl); (case zuq => exact Nat.le_of_ble_eq_true rfl); intro e' h' tk' hm'; (try dsimp only at hm' ⊢)))
  k_with "leaving ref" => ((k_here; refine' leave_own ?zk1q ?zk0q ?zk2q ?zk3q ?_; (case zk0q => assumption); (case zk2q => assumption); (case zk1q => assumption); (case zk3q => k_asm); k_whole; intro h' S' U'; (try dsimp only at S' U' ⊢)))
  k_with "leaving ref" => ((k_here; refine' leave_on ?zk1q ?zk2q ?zk3q ?zk4q ?_; (case zk3q => assumption); (case zk2q => assumption); (case zk1q => assumption); (case zk4q => assumption); k_whole; intro h' S' U'; (try dsimp only at S' U' ⊢)))
  k_with "call ref" => ((k_here; (with_reducible show wpAny _ _ (call (Value.ref 73) [Value.int _ _, Value.int _ _, Value.int _ _, Value.int _ _]) _ _ _); (k_dflt ((refine' (CP.lower (c_rex_bad _ _ _ _ _ _ _ _ _ ?zhbq) ?zdq ?zuq) _ _ _ _ _ _ _ _ _ _ _ _ _ _ _ ?zBq ?zFq ?zXq ?zNq ?zTq ?zKq ?_ ?_); (case zdq => exact Nat.le_of_ble_eq_true rfl); (case zuq => exact Nat.le_of_ble_eq_true rfl); (case zhbq => decide); (case zBq => k_asm); (case zFq => k_asm); (case zXq => k_asm); (case zNq => first | k_asm | exact News.tl1 (by k_asm) | exact News.tl1 (News.tl1 (by k_asm)) | exact News.tl1 (News.tl1 (News.tl1 (by k_asm)))); (case zTq => k_asm); (case zKq => first | exact rfl | assumption); intro v' tl' h' tk' F' N' hR'; exact hR'.elim; intro C' e' h' tk' g' hC' FG' S' U'; subst hC'; (try dsimp only at S' U' ⊢)))))
  have hl' : PySem.Expr.Lambda _ _ _ _ = .Lambda params body scope pos := hl
  injection hl' with e1 e2 e3 e4
  subst e1 e2 e3 e4
  refine unhook ?_
  k_fill
  intro _ _
  intro gd cn cs a ccd cl outer A₀ base h₀ L m s Q E hB hF hX hN hT hk hret hexc
  refine wpAny_call ?_
  k_dflt (refine' kla_code ?k1 ?k2 ?k3 ?k4 ?k5 ?kA ?kF ?kK ?k6 ?k7 ?k8 ?k9 ?kB ?_ ?c2 ?c3 ?c4 ?c5; (case kA => exact rfl); (case kF => exact rfl); (case kK => assumption); (case k1 => exact hB); (case k2 => exact hF); (case k3 => exact hX); (case k4 => exact hN); (case k5 => exact hT); (case k6 => k_mem); (case k7 => exact codeRec_news (by exact hN) (by k_mem) (by assumption) (by assumption)); (case k8 => ktr_room); (case k9 => exact rfl); (case c5 => decide); (case kB => exact locs rfl); (case c2 => exact rfl); (case c3 => exact rfl); (case c4 => exact rfl); k_whole; intro g' L' h' FG' F' N' B' X' T'; (try dsimp only); (try k_lift B'); (try k_fold))
  repeat' (first | (k_unfold; (try dsimp only)) | walk1 | (dsimp only; walk1))

  all_goals exact hexc _ _ _ _ _ rfl (by assumption) (by first | assumption | exact RaisedSN.sub (by assumption) (fun p hp => by repeat' (first | exact hp | apply List.Mem.tail))) (by assumption)
theorem c_odd2 (news : List (Addr × Obj)) (f c' : Addr) (oc : Obj) (vs : Array Value) (tq : Tok) (ctv pm : Value) (qual : Str) (hl : lamD2 (ob278 w.params) = .Lambda params body scope pos)
    (hd : oc.data = .fields vs) (hv : vs[1]? = some (.str qual tq)) :
    CP w mean mg mb 750 7500 f [] ((f, kla_obj "<lambda>" qual params body scope [] pm c' ctv) :: (c', oc) :: news)
      (fun v tl => False) (fun C => C = 52) := by
  k_with_none
  w_top off
  k_with "exec Raise some none" => ((k_here; refine Raise_own rfl ?_))
  k_with "call ref" => ((k_here; (with_reducible show wpAny _ _ (call (Value.ref _) [Value.str _ _]) (RaisableO _ _) _ _); refine raise_call ?zhCq ?zXq rfl ?zdq ?zuq ?_; (case zhCq => first | exact .inl rfl | exact .inr rfl); (case zXq => k_in); (case zdq => exact Nat.le_of_ble_eq_true rfl); (case zuq => exact Nat.le_of_ble_eq_true rfl); intro e' h' tk' hm'; (try dsimp only at hm' ⊢)))
  k_with "leaving ref" => ((k_here; refine' leave_own ?zk1q ?zk0q ?zk2q ?zk3q ?_; (case zk0q => assumption); (case zk2q => assumption); (case zk1q => assumption); (case zk3q => k_asm); k_whole; intro h' S' U'; (try dsimp only at S' U' ⊢)))
  k_with "leaving ref" => ((k_here; refine' leave_on ?zk1q ?zk2q ?zk3q ?zk4q ?_; (case zk3q => assumption); (case zk2q => assumption); (case zk1q => assumption); (case zk4q => assumption); k_whole; intro h' S' U'; (try dsimp only at S' U' ⊢)))
  k_with "call ref" => ((k_here; (with_reducible show wpAny _ _ (call (Value.ref 73) [Value.int _ _, Value.int _ _, Value.int _ _, Value.int _ _]) _ _ _); (k_dflt ((refine' (CP.lower (c_rex_bad _ _ _ _ _ _ _ _ _ ?zhbq) ?zdq ?zuq) _ _ _ _ _ _ _ _ _ _ _ _ _ _ _ ?zBq ?zFq ?zXq ?zNq ?zTq ?zKq ?_ ?_); (case zdq => exact Nat.le_of_ble_eq_true rfl); (case zuq => exact Nat.le_of_ble_eq_true rfl); (case zhbq => decide); (case zBq => k_asm); (case zFq => k_asm); (case zXq => k_asm); (case zNq => first | k_asm | exact News.tl1 (by k_asm) | exact News.tl1 (News.tl1 (by k_asm)) | exact News.tl1 (News.tl1 (News.tl1 (by k_asm)))); (case zTq => k_asm); (case zKq => first | exact rfl | assumption); intro v' tl' h' tk' F' N' hR'; exact hR'.elim; intro C' e' h' tk' g' hC' FG' S' U'; subst hC'; (try dsimp only at S' U' ⊢)))))
  have hl' : PySem.Expr.Lambda _ _ _ _ = .Lambda params body scope pos := hl
  injection hl' with e1 e2 e3 e4
  subst e1 e2 e3 e4
  refine unhook ?_
  k_fill
  intro _ _
  intro gd cn cs a ccd cl outer A₀ base h₀ L m s Q E hB hF hX hN hT hk hret hexc
  refine wpAny_call ?_
  k_dflt (refine' kla_code ?k1 ?k2 ?k3 ?k4 ?k5 ?kA ?kF ?kK ?k6 ?k7 ?k8 ?k9 ?kB ?_ ?c2 ?c3 ?c4 ?c5; (case kA => exact rfl); (case kF => exact rfl); (case kK => assumption); (case k1 => exact hB); (case k2 => exact hF); (case k3 => exact hX); (case k4 => exact hN); (case k5 => exact hT); (case k6 => k_mem); (case k7 => exact codeRec_news (by exact hN) (by k_mem) (by assumption) (by assumption)); (case k8 => ktr_room); (case k9 => exact rfl); (case c5 => decide); (case kB => exact locs rfl); (case c2 => exact rfl); (case c3 => exact rfl); (case c4 => exact rfl); k_whole; intro g' L' h' FG' F' N' B' X' T'; (try dsimp only); (try k_lift B'); (try k_fold))
  repeat' (first | (k_unfold; (try dsimp only)) | walk1 | (dsimp only; walk1))

  all_goals exact hexc _ _ _ _ _ rfl (by assumption) (by first | assumption | exact RaisedSN.sub (by assumption) (fun p hp => by repeat' (first | exact hp | apply List.Mem.tail))) (by assumption)
theorem c_odd3 (news : List (Addr × Obj)) (f c' : Addr) (oc : Obj) (vs : Array Value) (tq : Tok) (ctv pm : Value) (qual : Str) (hl : lamD3 (ob278 w.params) = .Lambda params body scope pos)
    (hd : oc.data = .fields vs) (hv : vs[1]? = some (.str qual tq)) :
    CP w mean mg mb 750 7500 f [] ((f, kla_obj "<lambda>" qual params body scope [] pm c' ctv) :: (c', oc) :: news)
      (fun v tl => False) (fun C => C = 52) := by
  k_with_none
  w_top off
  k_with "exec Raise some none" => ((k_here; refine Raise_own rfl ?_))
  k_with "call ref" => ((k_here; (with_reducible show wpAny _ _ (call (Value.ref _) [Value.str _ _]) (RaisableO _ _) _ _); refine raise_call ?zhCq ?zXq rfl ?zdq ?zuq ?_; (case zhCq => first | exact .inl rfl | exact .inr rfl); (case zXq => k_in); (case zdq => exact Nat.le_of_ble_eq_true rfl); (case zuq => exact Nat.le_of_ble_eq_true rfl); intro e' h' tk' hm'; (try dsimp only at hm' ⊢)))
  k_with "leaving ref" => ((k_here; refine' leave_own ?zk1q ?zk0q ?zk2q ?zk3q ?_; (case zk0q => assumption); (case zk2q => assumption); (case zk1q => assumption); (case zk3q => k_asm); k_whole; intro h' S' U'; (try dsimp only at S' U' ⊢)))
  k_with "leaving ref" => ((k_here; refine' leave_on ?zk1q ?zk2q ?zk3q ?zk4q ?_; (case zk3q => assumption); (case zk2q => assumption); (case zk1q => assumption); (case zk4q => assumption); k_whole; intro h' S' U'; (try dsimp only at S' U' ⊢)))
  k_with "call ref" => ((k_here; (with_reducible show wpAny _ _ (call (Value.ref 73) [Value.int _ _, Value.int _ _, Value.int _ _, Value.int _ _]) _ _ _); (k_dflt ((refine' (CP.lower (c_rex_bad _ _ _ _ _ _ _ _ _ ?zhbq) ?zdq ?zuq) _ _ _ _ _ _ _ _ _ _ _ _ _ _ _ ?zBq ?zFq ?zXq ?zNq ?zTq ?zKq ?_ ?_); (case zdq => exact Nat.le_of_ble_eq_true rfl); (case zuq => exact Nat.le_of_ble_eq_true rfl); (case zhbq => decide); (case zBq => k_asm); (case zFq => k_asm); (case zXq => k_asm); (case zNq => first | k_asm | exact News.tl1 (by k_asm) | exact News.tl1 (News.tl1 (by k_asm)) | exact News.tl1 (News.tl1 (News.tl1 (by k_asm)))); (case zTq => k_asm); (case zKq => first | exact rfl | assumption); intro v' tl' h' tk' F' N' hR'; exact hR'.elim; intro C' e' h' tk' g' hC' FG' S' U'; subst hC'; (try dsimp only at S' U' ⊢)))))
  have hl' : PySem.Expr.Lambda _ _ _ _ = .Lambda params body scope pos := hl
  injection hl' with e1 e2 e3 e4
  subst e1 e2 e3 e4
  refine unhook ?_
  k_fill
  intro _ _
  intro gd cn cs a ccd cl outer A₀ base h₀ L m s Q E hB hF hX hN hT hk hret hexc
  refine wpAny_call ?_
  k_dflt (refine' kla_code ?k1 ?k2 ?k3 ?k4 ?k5 ?kA ?kF ?kK ?k6 ?k7 ?k8 ?k9 ?kB ?_ ?c2 ?c3 ?c4 ?c5; (case kA => exact rfl); (case kF => exact rfl); (case kK => assumption); (case k1 => exact hB); (case k2 => exact hF); (case k3 => exact hX); (case k4 => exact hN); (case k5 => exact hT); (case k6 => k_mem); (case k7 => exact codeRec_news (by exact hN) (by k_mem) (by assumption) (by assumption)); (case k8 => ktr_room); (case k9 => exact rfl); (case c5 => decide); (case kB => exact locs rfl); (case c2 => exact rfl); (case c3 => exact rfl); (case c4 => exact rfl); k_whole; intro g' L' h' FG' F' N' B' X' T'; (try dsimp only); (try k_lift B'); (try k_fold))
  repeat' (first | (k_unfold; (try dsimp only)) | walk1 | (dsimp only; walk1))

  all_goals exact hexc _ _ _ _ _ rfl (by assumption) (by first | assumption | exact RaisedSN.sub (by assumption) (fun p hp => by repeat' (first | exact hp | apply List.Mem.tail))) (by assumption)
end
end Mine
end
section
open PySem PySem.W PyProof.Rows PySem.W.X
namespace Mine

section
variable {fs : List Addr} {g g' h : Heap} {L : Addr} {m : Str → Option Value} {news : List (Addr × Obj)}
theorem turn_same (T : KtsTurn [] g g') : ∀ b o, g.get? b = some o → g'.get? b = some o := fun b o e => T.other b o e (fun h => nomatch h)
theorem fr_same (T : KtsTurn [] g g') (F : Fr g' L h m) : Fr g L h m := ⟨F.ns, fun b o e => F.keep b o (turn_same T b o e), by rw [← T.size]; exact F.above⟩
theorem news_same (T : KtsTurn [] g g') (N : News g' L h news) : News g L h news := fun p hp => ⟨(N p hp).1, (N p hp).2.1, keep_none (turn_same T) (N p hp).2.2⟩
end
section
variable {w : World} {mean : ExcName → Option Value} {mg mb : Str → Option Value}

/-- a call of _law_heard that gives None, over the outermost frame -/
theorem heard_none {gd : Option (List Code)} {cn : Str} {cs : Scope} {L a : Addr} {ccd : Value} {cl : List (Str × Addr)} {A₀ : Around} {g : Heap} {m : Str → Option Value} {s : Shared} {Q E : Value → Shared → Prop} {dp un : Nat} {news : List (Addr × Obj)}
    {f : Addr} {oc : Value} {od : Option Addr} {fd : FuncData} {sl : Array (Option Value)} (hf : (f, (⟨oc, od, .func fd, sl⟩ : Obj)) ∈ news)
    (hask : CP w mean mg mb 750 7500 f [] news (fun _ _ => False) (fun C => C = 52)) (hB : Below A₀ g [] g) (hF : Fr g L s.heap m) (hX : (K2 w.params).In g) (hN : News g L s.heap news) (hT : Top VV LL mean mg mb g) (hD : KtsDicts [] g) (hk : cs.kind = .function) (d : dp ≤ 700) (u : un ≤ 7000)
    (hQ : ∀ h tk, Fr g L h m → News g L h news → Q .none { s with heap := h, toks := tk }) :
    wpAny (model PP w) (ktrTop dp un gd cn cs L a ccd cl []) (call (.ref 240) [.ref f]) Q E s := by
  refine (CT.lower (c_heard news f oc od fd sl hf _ _ hask (fun C hC => .inl hC)) d u) gd cn cs a ccd cl [] A₀ g g g L m s Q E hB hF hX hN hT hX hT hD KtsTurn.refl hk ?_
  intro v tl h' tk' h₀' T' F' N' B' X' P' D' hR
  rcases hR with hR | ⟨rfl, rfl, _⟩
  · exact hR.elim
  · exact hQ h' tk' (fr_same T' F') (news_same T' N')
theorem heard2 {gd : Option (List Code)} {cn : Str} {cs : Scope} {L a : Addr} {ccd : Value} {cl : List (Str × Addr)} {A₀ : Around} {g : Heap} {m : Str → Option Value} {s : Shared} {Q E : Value → Shared → Prop} {dp un : Nat} {l : List (Addr × Obj)}
    {f c' : Addr} {oc : Obj} {qual : Str} {params : Arguments} {body : PySem.Expr} {scope : Scope} {pm ctv : Value}
    (hask : CP w mean mg mb 750 7500 f [] ((f, kla_obj "<lambda>" qual params body scope [] pm c' ctv) :: (c', oc) :: l) (fun _ _ => False) (fun C => C = 52)) (hB : Below A₀ g [] g) (hF : Fr g L s.heap m) (hX : (K2 w.params).In g) (hN : News g L s.heap l) (hT : Top VV LL mean mg mb g)
    (m1 : (f, kla_obj "<lambda>" qual params body scope [] pm c' ctv) ∈ l) (m2 : (c', oc) ∈ l) (hk : cs.kind = .function) (d : dp ≤ 700) (u : un ≤ 7000)
    (hQ : ∀ h tk, Fr g L h m → News g L h l → Q .none { s with heap := h, toks := tk }) :
    wpAny (model PP w) (ktrTop dp un gd cn cs L a ccd cl []) (call (.ref 240) [.ref f]) Q E s :=
  heard_none (.head _) hask hB hF hX (News.dup2 hN m1 m2) hT ktsDicts_nil hk d u fun h tk F N => hQ h tk F (News.tl1 (News.tl1 N))
end
end Mine
end
section
open PySem PySem.W PyProof.Rows PySem.W.X
namespace Mine

section
variable {w : World} {mean : ExcName → Option Value} {mg mb : Str → Option Value}

theorem law_odd {gd : Option (List Code)} {cn : Str} {cs : Scope} {L a : Addr} {cl : List (Str × Addr)} {A₀ : Around} {g : Heap} {m : Str → Option Value} {s : Shared} {Q : Flow → Shared → Prop} {E : Value → Shared → Prop} {x y : Stmt} {o1 o2 : Obj}
    (h5 : (lawStmts (ob278 w.params))[7]? = some x) (h6 : (lawStmts (ob278 w.params))[8]? = some y) (hcs : lawScope (ob278 w.params) = cs)
    (hB : Below A₀ g [] g) (hF : Fr g L s.heap m) (hX : (K2 w.params).In g) (hN : News g L s.heap [(261, o1), (247, o2), (275, tabObj #[])]) (hT : Top VV LL mean mg mb g)
    (hk : ∀ h tk m' ps, Fr g L h m' → News g L h [(261, o1), (247, o2), (275, tabObj ps)] → Q (.ret (.bool true)) { s with heap := h, toks := tk }) :
    wpAny (model PP w) (ktrTop 600 6000 gd cn cs L a (.ref 277) cl []) (execs [x, y] (envX cn cs L a (.ref 277) cl)) Q E s := by
  k_with_none
  w_top off
  k_with "k_ne" => (((with_reducible show _ ≠ 275); first | exact Ne.symm (by assumption) | exact ne_cls (o2 := tabObj _) (by k_asm) (by k_mem) (by k_mem) (by intro e; cases e)))
  k_with "CompRest" => ((with_unfolding_all (refine LCg.CompRest.succ ?_; intro v' I' oI' C' oC' D' m' h' tk' E' hv' hC' hx' F' N' off' ne'; lcg_open hv')))
  k_with "CompEnd" => ((k_dflt (refine ⟨_, _, _, rfl, by k_asm, by k_asm, by assumption, by lcg_src, ?_⟩)))
  k_with "eval Lambda" => ((k_here; k_dflt (refine kla_eval rfl ?_); (k_dflt (refine' lam_made ?zFq ?zNq ?zTq (codeHd_of_K (P := 275) (by k_asm) (by kernel_rfl)) rfl ?zUq ?zokq ?zhcq rfl ?_; (case zFq => k_asm); (case zNq => k_asm); (case zTq => k_asm); (case zUq => k_updF); (case zokq => first | exact TabOk.mono (by assumption) (by assumption) | exact TabOk.nil); (case zhcq => repeat' (first | exact List.forall_mem_nil _ | refine List.forall_mem_cons.mpr ⟨by k_mem, ?_⟩)))); intro f c' oc vs t ctv ps' codes' h' tk F' N' hd hv ok' hsub hPc hnew; (try dsimp only at N')))
  k_with "call ref" => ((k_here; (k_dflt show wpAny _ _ (call (Value.ref 240) [Value.ref _]) _ _ _); (k_dflt ((first | (refine' heard2 (c_odd1 _ _ _ _ _ _ _ _ _ ?zhlq ?zhdq ?zhvq) ?zBq ?zFq ?zXq ?zNq ?zTq ?zm1q ?zm2q rfl (Nat.le_of_ble_eq_true rfl) (Nat.le_of_ble_eq_true rfl) ?_; (case zNq => k_asm); (case zm1q => k_mem); (case zhlq => exact rfl)) | (refine' heard2 (c_odd2 _ _ _ _ _ _ _ _ _ ?zhlq ?zhdq ?zhvq) ?zBq ?zFq ?zXq ?zNq ?zTq ?zm1q ?zm2q rfl (Nat.le_of_ble_eq_true rfl) (Nat.le_of_ble_eq_true rfl) ?_; (case zNq => k_asm); (case zm1q => k_mem); (case zhlq => exact rfl)) | (refine' heard2 (c_odd3 _ _ _ _ _ _ _ _ _ ?zhlq ?zhdq ?zhvq) ?zBq ?zFq ?zXq ?zNq ?zTq ?zm1q ?zm2q rfl (Nat.le_of_ble_eq_true rfl) (Nat.le_of_ble_eq_true rfl) ?_; (case zNq => k_asm); (case zm1q => k_mem); (case zhlq => exact rfl))); (case zm2q => k_mem); (case zhdq => assumption); (case zhvq => assumption); (case zBq => k_asm); (case zFq => k_asm); (case zXq => k_asm); (case zTq => k_asm); intro h' tk' F' N'; (try dsimp only)))))
  have e5 : some (Stmt.Assign _ _ _) = some x := h5
  have e6 : some (Stmt.Return _ _) = some y := h6
  have ec : (⟨_, _, _, _, _⟩ : Scope) = cs := hcs
  injection e5 with e5
  injection e6 with e6
  clear h5 h6 hcs
  subst e5
  subst e6
  subst ec
  refine unhook ?_
  k_fill
  intro _ _
  repeat' (first | (k_unfold; (try dsimp only)) | walk1 | (dsimp only; walk1))

  all_goals exact hk _ _ _ _ (by assumption) (News.sub (by assumption) (List.forall_mem_cons.mpr ⟨by k_mem, List.forall_mem_cons.mpr ⟨by k_mem, List.forall_mem_cons.mpr ⟨by k_mem, List.forall_mem_nil _⟩⟩⟩))
end
end Mine
end
section
open PySem PySem.W PyProof.Rows PySem.W.X
namespace Mine


section
variable {w : World} {mean : ExcName → Option Value} {mg mb : Str → Option Value} {gd : Option (List Code)} {cn cn₀ : Str} {cs cs₀ : Scope} {L a L₀ a₀ : Addr} {ccd₀ : Value} {cl₀ : List (Str × Addr)} {A₀ : Around} {base g₀ g : Heap} {outer : List Env} {m : Str → Option Value} {s : Shared} {Q : Flow → Shared → Prop} {E : Value → Shared → Prop} {b : List Stmt}
/-- the names that the draw of parts gives -/
structure PrM (X : Pfx) (tp : Addr) (v1 v3 v5 : Tok) (m : Str → Option Value) : Prop where
  pl : m (Str.ofString "place") = some (.str X.seg v1)
  da : m (Str.ofString "is_data") = some (.bool X.data)
  re : m (Str.ofString "repeat") = some (.int X.rep v3)
  lo : m (Str.ofString "is_lock") = some (.bool X.lock)
  rx : m (Str.ofString "rex") = some (.int X.rex v5)
  pa : m (Str.ofString "parts") = some (.ref tp)
/-- what is heard of the octets -/
noncomputable def Heard (X : Pfx) (v : Value) : Prop := (octF X = none ∧ v = .none) ∨ ∃ zs t, octF X = some zs ∧ KBa.In zs ∧ zs.length ≤ 5 ∧ v = .bytes (byteArr zs) t
theorem pr_0 {x0 x1 x2 : Stmt} {tail : List (Addr × Obj)} {tp : Addr} (X : Pfx) {v1 v3 v5 : Tok} {cc : Nat} {oB : Obj} {vB : Option Value}
    (g0 : (lawStmts (ob266 w.params))[0]? = some x0) (g1 : (lawStmts (ob266 w.params))[1]? = some x1) (g2 : (lawStmts (ob266 w.params))[2]? = some x2) (hcs : lawScope (ob266 w.params) = cs)
    (hm : m (Str.ofString "parts") = some (.ref tp)) (hoB : oB.data = .cell vB) (hne : ∀ p ∈ tail, p.1 ≠ 261) (htp : tp ≠ 261) (hlt : @LT.lt Nat _ 261 L) (hlt2 : @LT.lt Nat _ tp L) (hl : ∀ p ∈ tail, @LT.lt Nat _ p.1 L)
    (hXB : (K2 w.params).In base) (hTB : Top VV LL mean mg mb base)
    (hB : Below (ktrTop 650 6500 gd cn₀ cs₀ L₀ a₀ ccd₀ cl₀ outer) base (envX cn₀ cs₀ L₀ a₀ ccd₀ cl₀ :: outer) g) (hF : Fr g L s.heap m) (hX : (K2 w.params).In g) (hN : News g L s.heap ((L + 1, oB) :: (261, tabObj #[]) :: (tp, parts X.seg X.data X.rep X.lock X.rex v1 v3 v5 cc) :: tail)) (hT : Top VV LL mean mg mb g)
    (hD : KtsDicts ((envX cn₀ cs₀ L₀ a₀ ccd₀ cl₀ :: outer).filterMap (·.frame)) g) (hT0 : KtsTurn ((envX cn₀ cs₀ L₀ a₀ ccd₀ cl₀ :: outer).filterMap (·.frame)) g₀ g)
    (hk : ∀ (g h : Heap) (tk : Nat) (m' : Str → Option Value) (hv : Value) (x d c' : Addr) (oc o : Obj) (ps : Array Value) (t1 t2 t3 t4 t5 u1 u3 u5 : Tok), KtsTurn ((envX cn₀ cs₀ L₀ a₀ ccd₀ cl₀ :: outer).filterMap (·.frame)) g₀ g → Fr g L h m' →
      News g L h ((c', oc) :: (x, instObj 154 d) :: (d, dictOf (pfxEs w t1 t2 t3 t4 t5 X.seg X.data X.rep X.lock X.rex u1 u3 u5) 5) :: (L + 1, o) :: (261, tabObj ps) :: (tp, parts X.seg X.data X.rep X.lock X.rex v1 v3 v5 cc) :: tail) →
      Below (ktrTop 650 6500 gd cn₀ cs₀ L₀ a₀ ccd₀ cl₀ outer) base (envX cn₀ cs₀ L₀ a₀ ccd₀ cl₀ :: outer) g → (K2 w.params).In g → Top VV LL mean mg mb g → KtsDicts ((envX cn₀ cs₀ L₀ a₀ ccd₀ cl₀ :: outer).filterMap (·.frame)) g →
      PrM X tp v1 v3 v5 m' → m' (Str.ofString "heard") = some hv → Heard X hv → o.data = .cell (some (.ref x)) → 261 ≠ c' → TabOk (cn ++ ".<locals>." ++ "<lambda>") ps [(c', oc)] → @LT.lt Nat _ 261 d → @LT.lt Nat _ d x →
      wpAny (model PP w) (Around.deeper (ktrTop 650 6500 gd cn₀ cs₀ L₀ a₀ ccd₀ cl₀ outer) (envOfC cn cs L a (.ref 265))) (execs b (envOfC cn cs L a (.ref 265))) Q E { s with heap := h, toks := tk }) :
    wpAny (model PP w) (Around.deeper (ktrTop 650 6500 gd cn₀ cs₀ L₀ a₀ ccd₀ cl₀ outer) (envOfC cn cs L a (.ref 265))) (execs (x0 :: x1 :: x2 :: b) (envOfC cn cs L a (.ref 265))) Q E s := by
  k_with_none
  w_top off
  k_with "k_all" => (first | assumption | exact lt_ne (by assumption) (by first | exact Nat.le_refl _ | exact Nat.le_add_right _ _ | omega))
  k_with "LeaveT" => ((k_dflt (refine' leaveT_ ?zk1q ?zk2q ?zk3q ?_; (case zk1q => k_asm); (case zk2q => k_asm); (case zk3q => first | assumption | exact KtsTurn.refl); k_whole); intro kh kT kF kN kB kX kP kD; (try dsimp only)))
  k_with "k_ne" => (first | exact Ne.symm (by assumption) | exact ne_cell (by k_asm) (by k_mem) (by k_mem) (by assumption) (by intro v e; cases e) | exact ne_cell (by k_asm) (by k_mem) (by k_mem) (by assumption) (fields_nc (by assumption)) | exact ne_cell (by k_asm) (by k_mem) (by k_mem) (by assumption) (dict_nc (by assumption)) | exact ne_cell (by k_asm) (by k_mem) (by k_mem) (by assumption) list_nc | exact ne_cls (o2 := tabObj _) (by k_asm) (by k_mem) (by k_mem) (iter_cls (by assumption)) | exact ne_cls (by k_asm) (by k_mem) (by k_mem) (by intro e; cases e) | exact ne_cls (o2 := tabObj _) (by k_asm) (by k_mem) (by k_mem) (dict_cls (by assumption)))
  k_with "eval Lambda" => ((k_here; k_dflt (refine kla_eval rfl ?_); (k_dflt (refine' lam_made ?zFq ?zNq ?zTq (codeHd_of_K (P := 261) (by k_asm) (by kernel_rfl)) rfl ?zUq ?zokq ?zhcq rfl ?_; (case zFq => k_asm); (case zNq => k_asm); (case zTq => k_asm); (case zUq => k_updF); (case zokq => first | exact TabOk.mono (by assumption) (by assumption) | exact TabOk.nil); (case zhcq => first | exact fun q hq => by rw [List.mem_singleton.mp hq]; k_mem | exact fun q hq => (nomatch hq)))); intro f c' oc vs t ctv ps' codes' h' tk F' N' hd hv ok' hsub hPc hnew; (try dsimp only at N')))
  k_with "call ref" => ((k_here; (with_reducible show wpAny _ _ (call (Value.ref 240) [Value.ref _]) _ _ _); (k_dflt ((refine' (CT.lower (c_heard _ _ _ _ _ _ (.head _) _ _ (c_lamO _ _ _ _ _ _ _ _ _ _ _ _ _ _ _ _ _ _ _ _ _ _ ?zhlq ?zhdq ?zhvq ?zh1q) ?zhEq) ?zdq ?zuq) _ _ _ _ _ _ _ _ _ _ _ _ _ _ _ _ ?zBq ?zFq ?zXq ?zNq ?zTq ?zXBq ?zTBq ?zDq ?zT0q ?zKq ?_); (case zdq => exact Nat.le_of_ble_eq_true rfl); (case zuq => exact Nat.le_of_ble_eq_true rfl); (case zBq => k_asm); (case zFq => k_asm); (case zXq => k_asm); (case zNq => (refine' News.dup5 ?znq ?zm1q ?zm2q ?zm3q ?zm4q ?zm5q; (case znq => k_asm); (case zm1q => k_mem); (case zm2q => k_mem); (case zm3q => k_mem); (case zm4q => k_mem); (case zm5q => k_mem))); (case zTq => k_asm); (case zXBq => assumption); (case zTBq => assumption); (case zDq => assumption); (case zT0q => first | assumption | exact KtsTurn.refl); (case zKq => exact rfl); (case zhlq => exact rfl); (case zhdq => assumption); (case zhvq => assumption); (case zh1q => k_asm); (case zhEq => exact fun C hC => .inl hC.1); intro v' tl' h' tk' h₀' T0' F' N' B' X' P' D' hR'; have N' := News.undup5 N'; rcases hR' with ⟨e2', zs', t', o', i', l', e1'⟩ | ⟨e1', e2', C', hC', o'⟩ <;> subst e1' <;> subst e2' <;> (try dsimp only [List.nil_append, List.cons_append] at N' ⊢)))))
  have e0 : some (Stmt.Assign _ _ _) = some x0 := g0
  have e1 : some (Stmt.Assign _ _ _) = some x1 := g1
  have e2 : some (Stmt.Assign _ _ _) = some x2 := g2
  have ec : (⟨_, _, _, _, _⟩ : Scope) = cs := hcs
  injection e0 with e0
  injection e1 with e1
  injection e2 with e2
  clear g0 g1 g2 hcs
  subst e0
  subst e1
  subst e2
  subst ec
  have hF := fr_as hF hm
  refine unhook ?_
  k_fill
  intro _ _
  repeat' (first | (k_unfold; (try dsimp only)) | walk1 | (dsimp only; walk1))

  all_goals
    (rename TabOk _ _ _ => ok9)
    (rename ∀ q ∈ _, q ∈ [_] => hs9)
    (rename 261 ≠ _ => hp9)
    (rename News _ _ _ _ => N9)
    refine hk _ _ _ _ _ _ _ _ _ _ _ _ _ _ _ _ _ _ _ (by assumption) (by assumption) (News.tl1 (by assumption)) (by assumption) (by assumption) (by assumption) (by assumption) ⟨rfl, rfl, rfl, rfl, rfl, rfl⟩ rfl (by first | exact .inl ⟨by assumption, rfl⟩ | exact .inr ⟨_, _, by assumption, by assumption, by assumption, rfl⟩) (by assumption) hp9 (TabOk.mono ok9 hs9) (by omega) (by assumption)
end
end Mine
end
section
open PySem PySem.W PyProof.Rows PySem.W.X
namespace Mine

/-- what stands in the way of writing -/
noncomputable def badF (X : Pfx) : Bool := (X.seg == Str.ofString "cs") || ([240, 1].any fun x => x == X.rep) || (X.lock && X.rep != 0) || ([80, 63].any fun x => x == X.rex)
section
variable {X : Pfx}
theorem bd1 (h : (X.seg == Str.ofString "cs") = true) : badF X = true := by unfold badF; rw [h]; rfl
theorem bd2 (h : ([240, 1].any fun x => x == X.rep) = true) : badF X = true := by unfold badF; rw [h]; simp
theorem bd3 (h : X.lock = true) (h1 : X.rep ≠ 0) : badF X = true := by unfold badF; rw [h, bne_iff_ne.mpr h1]; simp
theorem bd4 (h0 : (X.seg == Str.ofString "cs") = false) (h : ([240, 1].any fun x => x == X.rep) = false) (h1 : X.rep = 0) : badF X = ([80, 63].any fun x => x == X.rex) := by unfold badF; rw [h0, h, h1]; simp
theorem bd5 (h0 : (X.seg == Str.ofString "cs") = false) (h : ([240, 1].any fun x => x == X.rep) = false) (h1 : X.lock = false) : badF X = ([80, 63].any fun x => x == X.rex) := by unfold badF; rw [h0, h, h1]; simp
end
theorem PrM.set {X : Pfx} {tp : Addr} {v1 v3 v5 : Tok} {m : Str → Option Value} {y : Str} {v : Value} (h : PrM X tp v1 v3 v5 m) (hy : y ∉ [Str.ofString "place", Str.ofString "is_data", Str.ofString "repeat", Str.ofString "is_lock", Str.ofString "rex", Str.ofString "parts"]) : PrM X tp v1 v3 v5 (fun z => if z = y then some v else m z) := by
  simp only [List.mem_cons, List.not_mem_nil, or_false, not_or] at hy
  obtain ⟨h1, h2, h3, h4, h5, h6⟩ := hy
  exact ⟨(if_neg (Ne.symm h1)).trans h.pl, (if_neg (Ne.symm h2)).trans h.da, (if_neg (Ne.symm h3)).trans h.re, (if_neg (Ne.symm h4)).trans h.lo, (if_neg (Ne.symm h5)).trans h.rx, (if_neg (Ne.symm h6)).trans h.pa⟩
theorem fr_known {g h : Heap} {L : Addr} {m : Str → Option Value} {x : Str} {v : Value} (F : Fr g L h (fun y => if y = x then some v else m y)) (e : m x = some v) : Fr g L h m := by
  have : (fun y => if y = x then some v else m y) = m := funext fun z => by
    split
    · rename_i q; rw [q, e]
    · rfl
  rw [this] at F
  exact F
section
variable {w : World} {mean : ExcName → Option Value} {mg mb : Str → Option Value} {gd : Option (List Code)} {cn cn₀ : Str} {cs cs₀ : Scope} {L a L₀ a₀ : Addr} {ccd₀ : Value} {cl₀ : List (Str × Addr)} {A₀ : Around} {base g₀ g : Heap} {outer : List Env} {m : Str → Option Value} {s : Shared} {Q : Flow → Shared → Prop} {E : Value → Shared → Prop} {b : List Stmt}
/-- is_bad -/
theorem pr_3 {x0 : Stmt} {tail : List (Addr × Obj)} {tp : Addr} {X : Pfx} {v1 v3 v5 : Tok} {cc : Nat} {x d c' : Addr} {oc o : Obj} {ps : Array Value} {t1 t2 t3 t4 t5 u1 u3 u5 : Tok}
    (g0 : (lawStmts (ob266 w.params))[3]? = some x0) (hcs : lawScope (ob266 w.params) = cs) {hv : Value} (hm : PrM X tp v1 v3 v5 m) (hh : m (Str.ofString "heard") = some hv)
    (hB : Below (ktrTop 650 6500 gd cn₀ cs₀ L₀ a₀ ccd₀ cl₀ outer) base (envX cn₀ cs₀ L₀ a₀ ccd₀ cl₀ :: outer) g) (hF : Fr g L s.heap m) (hX : (K2 w.params).In g) (hN : News g L s.heap ((c', oc) :: (x, instObj 154 d) :: (d, dictOf (pfxEs w t1 t2 t3 t4 t5 X.seg X.data X.rep X.lock X.rex u1 u3 u5) 5) :: (L + 1, o) :: (261, tabObj ps) :: (tp, parts X.seg X.data X.rep X.lock X.rex v1 v3 v5 cc) :: tail)) (hT : Top VV LL mean mg mb g)
    (hk : ∀ (h : Heap) (tk : Nat) (m' : Str → Option Value), Fr g L h m' → News g L h ((c', oc) :: (x, instObj 154 d) :: (d, dictOf (pfxEs w t1 t2 t3 t4 t5 X.seg X.data X.rep X.lock X.rex u1 u3 u5) 5) :: (L + 1, o) :: (261, tabObj ps) :: (tp, parts X.seg X.data X.rep X.lock X.rex v1 v3 v5 cc) :: tail) → PrM X tp v1 v3 v5 m' → m' (Str.ofString "heard") = some hv → m' (Str.ofString "is_bad") = some (.bool (badF X)) →
      wpAny (model PP w) (Around.deeper (ktrTop 650 6500 gd cn₀ cs₀ L₀ a₀ ccd₀ cl₀ outer) (envOfC cn cs L a (.ref 265))) (execs b (envOfC cn cs L a (.ref 265))) Q E { s with heap := h, toks := tk }) :
    wpAny (model PP w) (Around.deeper (ktrTop 650 6500 gd cn₀ cs₀ L₀ a₀ ccd₀ cl₀ outer) (envOfC cn cs L a (.ref 265))) (execs (x0 :: b) (envOfC cn cs L a (.ref 265))) Q E s := by
  k_with_none
  w_top off
  have e0 : some (Stmt.Assign _ _ _) = some x0 := g0
  have ec : (⟨_, _, _, _, _⟩ : Scope) = cs := hcs
  injection e0 with e0
  clear g0 hcs
  subst e0
  subst ec
  have F1 := fr_as (fr_as (fr_as (fr_as hF hm.pl) ((if_neg (by decide)).trans hm.re)) ((if_neg (by decide)).trans ((if_neg (by decide)).trans hm.lo))) ((if_neg (by decide)).trans ((if_neg (by decide)).trans ((if_neg (by decide)).trans hm.rx)))
  clear hF
  refine unhook ?_
  k_fill
  intro _ _
  repeat' (first | (k_unfold; (try dsimp only)) | walk1 | (dsimp only; walk1))

  all_goals
    (rename Fr _ _ _ _ => F9)
    refine hk _ _ _ F9 (News.sub (by assumption) (fun p hp => by repeat' (first | exact hp | apply List.Mem.tail))) ⟨rfl, hm.da, rfl, rfl, rfl, hm.pa⟩ hh (congrArg (fun b => some (Value.bool b)) ?_)
    first | exact Eq.trans (by assumption) (bd1 (by assumption)).symm | exact Eq.trans (by assumption) (bd2 (by assumption)).symm | (rw [bd3 (by assumption) (by assumption)]; simp; assumption) | exact (bd4 (by assumption) (by assumption) (by assumption)).symm | exact (bd5 (by assumption) (by assumption) (by assumption)).symm
theorem rex_ne {X : Pfx} (h : (decide (0 ≤ X.rex) != decide (0 ≤ X.rex)) = true) : False := by simp at h
theorem pr_4 {x0 : Stmt} {tail : List (Addr × Obj)} {tp : Addr} {X : Pfx} {v1 v3 v5 : Tok} {cc : Nat} {x d c' : Addr} {oc o : Obj} {ps : Array Value} {t1 t2 t3 t4 t5 u1 u3 u5 : Tok} {hv : Value} {bb : Bool}
    (g0 : (lawStmts (ob266 w.params))[4]? = some x0) (hcs : lawScope (ob266 w.params) = cs) (hm : PrM X tp v1 v3 v5 m) (hh : m (Str.ofString "heard") = some hv) (hb : m (Str.ofString "is_bad") = some (.bool bb))
    (ho : o.data = .cell (some (.ref x))) (hso : PyData.strOk X.seg = true) (hc : (hv = .none ∧ bb = true) ∨ ∃ z t, hv = .bytes z t ∧ bb = false)
    (hB : Below (ktrTop 650 6500 gd cn₀ cs₀ L₀ a₀ ccd₀ cl₀ outer) base (envX cn₀ cs₀ L₀ a₀ ccd₀ cl₀ :: outer) g) (hF : Fr g L s.heap m) (hX : (K2 w.params).In g) (hN : News g L s.heap ((c', oc) :: (x, instObj 154 d) :: (d, dictOf (pfxEs w t1 t2 t3 t4 t5 X.seg X.data X.rep X.lock X.rex u1 u3 u5) 5) :: (L + 1, o) :: (261, tabObj ps) :: (tp, parts X.seg X.data X.rep X.lock X.rex v1 v3 v5 cc) :: tail)) (hT : Top VV LL mean mg mb g)
    (hk : ∀ (h : Heap) (tk : Nat) (m' : Str → Option Value), Fr g L h m' → News g L h ((c', oc) :: (x, instObj 154 d) :: (d, dictOf (pfxEs w t1 t2 t3 t4 t5 X.seg X.data X.rep X.lock X.rex u1 u3 u5) 5) :: (L + 1, o) :: (261, tabObj ps) :: (tp, parts X.seg X.data X.rep X.lock X.rex v1 v3 v5 cc) :: tail) → PrM X tp v1 v3 v5 m' → m' (Str.ofString "heard") = some hv → m' (Str.ofString "is_bad") = some (.bool bb) →
      wpAny (model PP w) (Around.deeper (ktrTop 650 6500 gd cn₀ cs₀ L₀ a₀ ccd₀ cl₀ outer) (envOfC cn cs L a (.ref 265))) (execs b (envOfC cn cs L a (.ref 265))) Q E { s with heap := h, toks := tk }) :
    wpAny (model PP w) (Around.deeper (ktrTop 650 6500 gd cn₀ cs₀ L₀ a₀ ccd₀ cl₀ outer) (envOfC cn cs L a (.ref 265))) (execs (x0 :: b) (envOfC cn cs L a (.ref 265))) Q E s := by
  k_with_none
  w_top off
  k_with "compareOp NotEq ref ref" => ((k_here; k_dflt (refine ne_parts (by k_asm) (by k_mem) (by k_mem) ⟨rfl, rfl, rfl, rfl, rfl⟩ (by assumption) (by ke_room) ?_)))
  k_with "call ref" => ((k_here; (with_reducible show wpAny _ _ (call (Value.ref 123) [Value.ref _]) _ _ _); (k_dflt ((refine' (CP.lower (c_told _ _ _ _ _ _ _ _ _ _ _ _) ?zdq ?zuq) _ _ _ _ _ _ _ _ _ _ _ _ _ _ _ ?zBq ?zFq ?zXq ?zNq ?zTq ?zKq ?_ ?zexcq); (case zdq => exact Nat.le_of_ble_eq_true rfl); (case zuq => exact Nat.le_of_ble_eq_true rfl); (case zBq => k_asm); (case zFq => k_asm); (case zXq => k_asm); (case zNq => refine' News.dup2 ?znq ?zm1q ?zm2q; (case znq => k_asm); (case zm1q => k_mem); (case zm2q => k_mem)); (case zTq => k_asm); (case zKq => first | exact rfl | assumption); (case zexcq => exact fun _ _ _ _ _ h => h.elim); intro v' tl' h' tk' F' N' hR'; have N' := News.undup (News.undup N'); obtain ⟨tp', e1', t1', t3', t5', c', e2'⟩ := hR'; subst e1'; subst e2'; (try dsimp only [List.nil_append, List.cons_append] at N' ⊢)))))
  have e0 : some (Stmt.If _ _ _ _) = some x0 := g0
  have ec : (⟨_, _, _, _, _⟩ : Scope) = cs := hcs
  injection e0 with e0
  clear g0 hcs
  subst e0
  subst ec
  have F1 := fr_as (fr_as (fr_as (fr_as hF hm.rx) ((if_neg (by decide)).trans hh)) ((if_neg (by decide)).trans ((if_neg (by decide)).trans hb))) ((if_neg (by decide)).trans ((if_neg (by decide)).trans ((if_neg (by decide)).trans hm.pa)))
  clear hF
  rcases hc with ⟨rfl, rfl⟩ | ⟨z, t, rfl, rfl⟩
  all_goals
    refine unhook ?_
    k_fill
    intro _ _
  repeat' (first | (k_unfold; (try dsimp only)) | walk1 | (dsimp only; walk1))

  all_goals first
    | exact (rex_ne (by assumption)).elim
    | ((rename Fr _ _ _ _ => F9)
       exact hk _ _ _ F9 (News.sub (by assumption) (fun p hp => by repeat' (first | exact hp | apply List.Mem.tail))) ⟨hm.pl, hm.da, hm.re, hm.lo, rfl, rfl⟩ rfl rfl)
end
end Mine
end
section
open PySem PySem.W PyProof.Rows PySem.W.X
namespace Mine

theorem no_oct {X : Pfx} {zs : List Int} (h : octF X = none) (h' : octF X = some zs) : False := by rw [h] at h'; cases h'
theorem sub1 {h₀ h : Heap} {L : Addr} {x : Addr × Obj} {l news : List (Addr × Obj)} (N : News h₀ L h l) (hx : x ∈ l) (hn : ∀ p ∈ news, p ∈ l) : News h₀ L h (x :: news) := fun p hp => N p ((List.mem_cons.mp hp).elim (fun e => e ▸ hx) (hn p))
section
variable {w : World} {mean : ExcName → Option Value} {mg mb : Str → Option Value} {gd : Option (List Code)} {cn cn₀ : Str} {cs cs₀ : Scope} {L a L₀ a₀ : Addr} {ccd₀ : Value} {cl₀ : List (Str × Addr)} {A₀ : Around} {base g₀ g : Heap} {outer : List Env} {m : Str → Option Value} {s : Shared} {Q : Flow → Shared → Prop} {E : Value → Shared → Prop} {b : List Stmt}
theorem pr_5f {x0 : Stmt} {news : List (Addr × Obj)}
    (g0 : (lawStmts (ob266 w.params))[5]? = some x0) (hcs : lawScope (ob266 w.params) = cs) (hb : m (Str.ofString "is_bad") = some (.bool false))
    (hB : Below (ktrTop 650 6500 gd cn₀ cs₀ L₀ a₀ ccd₀ cl₀ outer) base (envX cn₀ cs₀ L₀ a₀ ccd₀ cl₀ :: outer) g) (hF : Fr g L s.heap m) (hX : (K2 w.params).In g) (hN : News g L s.heap news) (hT : Top VV LL mean mg mb g)
    (hk : ∀ (h : Heap) (tk : Nat), Fr g L h m → News g L h news → wpAny (model PP w) (Around.deeper (ktrTop 650 6500 gd cn₀ cs₀ L₀ a₀ ccd₀ cl₀ outer) (envOfC cn cs L a (.ref 265))) (execs b (envOfC cn cs L a (.ref 265))) Q E { s with heap := h, toks := tk }) :
    wpAny (model PP w) (Around.deeper (ktrTop 650 6500 gd cn₀ cs₀ L₀ a₀ ccd₀ cl₀ outer) (envOfC cn cs L a (.ref 265))) (execs (x0 :: b) (envOfC cn cs L a (.ref 265))) Q E s := by
  k_with_none
  w_top off
  have e0 : some (Stmt.If _ _ _ _) = some x0 := g0
  have ec : (⟨_, _, _, _, _⟩ : Scope) = cs := hcs
  injection e0 with e0
  clear g0 hcs
  subst e0
  subst ec
  have F1 := fr_as hF hb
  clear hF
  refine unhook ?_
  k_fill
  intro _ _
  repeat' (first | (k_unfold; (try dsimp only)) | walk1 | (dsimp only; walk1))

  all_goals exact hk _ _ (fr_known (by assumption) hb) (by assumption)
end

section
variable {w : World} {mean : ExcName → Option Value} {mg mb : Str → Option Value} {gd : Option (List Code)} {cn cn₀ : Str} {cs cs₀ : Scope} {L a L₀ a₀ : Addr} {ccd₀ : Value} {cl₀ : List (Str × Addr)} {A₀ : Around} {base g₀ g : Heap} {outer : List Env} {m : Str → Option Value} {s : Shared} {Q : Flow → Shared → Prop} {E : Value → Shared → Prop} {b : List Stmt}
theorem pr_5t {x0 : Stmt} {tail : List (Addr × Obj)} {tp : Addr} {X : Pfx} {v1 v3 v5 : Tok} {cc : Nat} {x d c' : Addr} {oc o : Obj} {ps : Array Value} {t1 t2 t3 t4 t5 u1 u3 u5 : Tok}
    (g0 : (lawStmts (ob266 w.params))[5]? = some x0) (hcs : lawScope (ob266 w.params) = cs) (hb : m (Str.ofString "is_bad") = some (.bool true)) (hno : octF X = none)
    (ho : o.data = .cell (some (.ref x))) (hp : 261 ≠ c') (ok : TabOk (cn ++ ".<locals>." ++ "<lambda>") ps [(c', oc)]) (hne : ∀ p ∈ tail, p.1 ≠ 261) (htp : tp ≠ 261) (hlt : @LT.lt Nat _ 261 L) (hd1 : @LT.lt Nat _ 261 d) (hd2 : @LT.lt Nat _ d x)
    (hXB : (K2 w.params).In base) (hTB : Top VV LL mean mg mb base)
    (hB : Below (ktrTop 650 6500 gd cn₀ cs₀ L₀ a₀ ccd₀ cl₀ outer) base (envX cn₀ cs₀ L₀ a₀ ccd₀ cl₀ :: outer) g) (hF : Fr g L s.heap m) (hX : (K2 w.params).In g) (hN : News g L s.heap ((c', oc) :: (x, instObj 154 d) :: (d, dictOf (pfxEs w t1 t2 t3 t4 t5 X.seg X.data X.rep X.lock X.rex u1 u3 u5) 5) :: (L + 1, o) :: (261, tabObj ps) :: (tp, parts X.seg X.data X.rep X.lock X.rex v1 v3 v5 cc) :: tail)) (hT : Top VV LL mean mg mb g)
    (hD : KtsDicts ((envX cn₀ cs₀ L₀ a₀ ccd₀ cl₀ :: outer).filterMap (·.frame)) g) (hT0 : KtsTurn ((envX cn₀ cs₀ L₀ a₀ ccd₀ cl₀ :: outer).filterMap (·.frame)) g₀ g)
    (hk : ∀ (g h : Heap) (tk : Nat) (m' : Str → Option Value) (ps : Array Value), KtsTurn ((envX cn₀ cs₀ L₀ a₀ ccd₀ cl₀ :: outer).filterMap (·.frame)) g₀ g → Fr g L h m' → News g L h ((261, tabObj ps) :: tail) → Below (ktrTop 650 6500 gd cn₀ cs₀ L₀ a₀ ccd₀ cl₀ outer) base (envX cn₀ cs₀ L₀ a₀ ccd₀ cl₀ :: outer) g → (K2 w.params).In g → Top VV LL mean mg mb g → KtsDicts ((envX cn₀ cs₀ L₀ a₀ ccd₀ cl₀ :: outer).filterMap (·.frame)) g →
      Q (.ret (.bool true)) { s with heap := h, toks := tk }) :
    wpAny (model PP w) (Around.deeper (ktrTop 650 6500 gd cn₀ cs₀ L₀ a₀ ccd₀ cl₀ outer) (envOfC cn cs L a (.ref 265))) (execs (x0 :: b) (envOfC cn cs L a (.ref 265))) Q E s := by
  k_with_none
  w_top off
  k_with "k_all" => (first | assumption | exact lt_ne (by assumption) (by first | exact Nat.le_refl _ | exact Nat.le_add_right _ _ | omega))
  k_with "LeaveT" => ((k_dflt (refine' leaveT_ ?zk1q ?zk2q ?zk3q ?_; (case zk1q => k_asm); (case zk2q => k_asm); (case zk3q => first | assumption | exact KtsTurn.refl); k_whole); intro kh kT kF kN kB kX kP kD; (try dsimp only)))
  k_with "k_ne" => (first | exact Ne.symm (by assumption) | exact ne_cell (by k_asm) (by k_mem) (by k_mem) (by assumption) (by intro v e; cases e) | exact ne_cell (by k_asm) (by k_mem) (by k_mem) (by assumption) (fields_nc (by assumption)) | exact ne_cell (by k_asm) (by k_mem) (by k_mem) (by assumption) (dict_nc (by assumption)) | exact ne_cell (by k_asm) (by k_mem) (by k_mem) (by assumption) list_nc | exact ne_cls (o2 := tabObj _) (by k_asm) (by k_mem) (by k_mem) (iter_cls (by assumption)) | exact ne_cls (by k_asm) (by k_mem) (by k_mem) (by intro e; cases e) | exact ne_cls (o2 := tabObj _) (by k_asm) (by k_mem) (by k_mem) (dict_cls (by assumption)))
  k_with "eval Lambda" => ((k_here; k_dflt (refine kla_eval rfl ?_); (k_dflt (refine' lam_made ?zFq ?zNq ?zTq (codeHd_of_K (P := 261) (by k_asm) (by kernel_rfl)) rfl ?zUq ?zokq ?zhcq rfl ?_; (case zFq => k_asm); (case zNq => k_asm); (case zTq => k_asm); (case zUq => k_updF); (case zokq => first | exact TabOk.mono (by assumption) (by assumption) | exact TabOk.nil); (case zhcq => first | exact List.forall_mem_cons.mpr ⟨by k_mem, List.forall_mem_nil _⟩ | exact fun q hq => by rw [List.mem_singleton.mp hq]; k_mem | exact fun q hq => (nomatch hq)))); intro f c' oc vs t ctv ps' codes' h' tk F' N' hd hv ok' hsub hPc hnew; (try dsimp only at N')))
  k_with "call ref" => ((k_here; (with_reducible show wpAny _ _ (call (Value.ref 240) [Value.ref _]) _ _ _); (k_dflt ((refine' (CT.lower (c_heard _ _ _ _ _ _ (.head _) _ _ (c_lamC _ _ _ _ _ _ _ _ _ _ _ _ _ _ _ _ _ _ _ _ _ _ ?zhlq ?zhdq ?zhvq ?zh1q) ?zhEq) ?zdq ?zuq) _ _ _ _ _ _ _ _ _ _ _ _ _ _ _ _ ?zBq ?zFq ?zXq ?zNq ?zTq ?zXBq ?zTBq ?zDq ?zT0q ?zKq ?_); (case zdq => exact Nat.le_of_ble_eq_true rfl); (case zuq => exact Nat.le_of_ble_eq_true rfl); (case zBq => k_asm); (case zFq => k_asm); (case zXq => k_asm); (case zNq => (refine' News.dup5 ?znq ?zm1q ?zm2q ?zm3q ?zm4q ?zm5q; (case znq => k_asm); (case zm1q => k_mem); (case zm2q => k_mem); (case zm3q => k_mem); (case zm4q => k_mem); (case zm5q => k_mem))); (case zTq => k_asm); (case zXBq => assumption); (case zTBq => assumption); (case zDq => assumption); (case zT0q => first | assumption | exact KtsTurn.refl); (case zKq => exact rfl); (case zhlq => exact rfl); (case zhdq => assumption); (case zhvq => assumption); (case zh1q => k_asm); (case zhEq => exact fun C hC => .inl hC.1); intro v' tl' h' tk' h₀' T0' F' N' B' X' P' D' hR'; have N' := News.undup5 N'; rcases hR' with ⟨e2', zs', t', o', e1'⟩ | ⟨e1', e2', C', hC', o'⟩ <;> subst e1' <;> subst e2' <;> (try dsimp only [List.nil_append, List.cons_append] at N' ⊢)))))
  have e0 : some (Stmt.If _ _ _ _) = some x0 := g0
  have ec : (⟨_, _, _, _, _⟩ : Scope) = cs := hcs
  injection e0 with e0
  clear g0 hcs
  subst e0
  subst ec
  have F1 := fr_as hF hb
  clear hF
  have hsub : ∀ q ∈ [(c', oc)], q ∈ [(c', oc)] := fun q hq => hq
  refine unhook ?_
  k_fill
  intro _ _
  repeat' (first | (k_unfold; (try dsimp only)) | walk1 | (dsimp only; walk1))
  all_goals first
    | exact (no_oct (by assumption) (by assumption)).elim
    | exact hk _ _ _ _ _ (by assumption) (by assumption) (sub1 (by assumption) (by k_mem) (fun p hp => by repeat' (first | exact hp | apply List.Mem.tail))) (by assumption) (by assumption) (by assumption) (by assumption)
end
end Mine
end
section
open PySem PySem.W PyProof.Rows PySem.W.X
namespace Mine

theorem two_at {a b : Value} {i : Nat} {v : Value} (h : (#[a, b] : Array Value)[i]? = some v) : (i = 0 ∧ v = a) ∨ (i = 1 ∧ v = b) := by
  have hi : i < 2 := (Array.getElem?_eq_some_iff.mp h).1
  match i, hi with
  | 0, _ => cases h; exact .inl ⟨rfl, rfl⟩
  | 1, _ => cases h; exact .inr ⟨rfl, rfl⟩
theorem two_ref {a b : Addr} {i : Nat} {v : Value} (h : (#[.ref a, .ref b] : Array Value)[i]? = some v) : ∃ T, v = Value.ref T := by
  rcases two_at h with ⟨_, h⟩ | ⟨_, h⟩ <;> exact ⟨_, h⟩
theorem three_at {a b c : Value} {i : Nat} {v : Value} (h : (#[a, b, c] : Array Value)[i]? = some v) : (i = 0 ∧ v = a) ∨ (i = 1 ∧ v = b) ∨ (i = 2 ∧ v = c) := by
  have hi : i < 3 := (Array.getElem?_eq_some_iff.mp h).1
  match i, hi with
  | 0, _ => cases h; exact .inl ⟨rfl, rfl⟩
  | 1, _ => cases h; exact .inr (.inl ⟨rfl, rfl⟩)
  | 2, _ => cases h; exact .inr (.inr ⟨rfl, rfl⟩)
theorem three_ref {a b c : Addr} {i : Nat} {v : Value} (h : (#[.ref a, .ref b, .ref c] : Array Value)[i]? = some v) : ∃ T, v = Value.ref T := by
  rcases three_at h with ⟨_, h⟩ | ⟨_, h⟩ | ⟨_, h⟩ <;> exact ⟨_, h⟩
theorem nil_kind {prog : Program} {w : World} {o : Obj} {K : Type} [DecidableEq K] {knd : KeyKind prog w K} (h : o.IsDictOf knd []) : o.IsDictOf (PySem.strKind prog w) [] := by
  obtain ⟨es, ep, hx, hd, hk, hp, hn⟩ := h
  have e : es.toList = [] := by
    cases q : es.toList with
    | nil => rfl
    | cons a l => rw [q] at hp; cases hp
  refine ⟨es, ep, hx, hd, ?_, ?_, List.nodup_nil⟩
  · intro x hx
    first | exact absurd hx (by simp [e]) | (have := Array.mem_toList_iff.mpr hx; rw [e] at this; cases this)
  · rw [e]; first | exact .nil | trivial
section
variable {X : Pfx}
theorem es_dt (h : X.data = true) : (esF X)[0 + 1]? = some (Str.ofString "data", 102) := by show some (Str.ofString "data", if X.data then (102 : Int) else -1) = _; rw [if_pos h]
theorem es_df (h : X.data = false) : (esF X)[0 + 1]? = some (Str.ofString "data", -1) := by show some (Str.ofString "data", if X.data then (102 : Int) else -1) = _; rw [h]; rfl
theorem es_rt (h : 0 < X.rep) : (esF X)[2 + 0]? = some (Str.ofString "repeat", X.rep) := by show some (Str.ofString "repeat", if 0 < X.rep then X.rep else -1) = _; rw [if_pos h]
theorem es_rf (h : ¬ 0 < X.rep) : (esF X)[2 + 0]? = some (Str.ofString "repeat", -1) := by show some (Str.ofString "repeat", if 0 < X.rep then X.rep else -1) = _; rw [if_neg h]
theorem es_lt (h : X.lock = true) : (esF X)[2 + 1]? = some (Str.ofString "lock", 240) := by show some (Str.ofString "lock", if X.lock then (240 : Int) else -1) = _; rw [if_pos h]
theorem es_lf (h : X.lock = false) : (esF X)[2 + 1]? = some (Str.ofString "lock", -1) := by show some (Str.ofString "lock", if X.lock then (240 : Int) else -1) = _; rw [h]; rfl
end
theorem hk_small {X : Pfx} {i : Nat} {kvs : List (Str × Value)} (h : HK kvs (heldN X i)) : kvs.length ≤ 1000 := Nat.le_trans (Nat.le_of_eq h.len) (Nat.le_trans (held_len X i) (by decide))
section
variable {w : World} {mean : ExcName → Option Value} {mg mb : Str → Option Value} {gd : Option (List Code)} {cn cn₀ : Str} {cs cs₀ : Scope} {L a L₀ a₀ : Addr} {ccd₀ : Value} {cl₀ : List (Str × Addr)} {A₀ : Around} {base g₀ g : Heap} {outer : List Env} {m : Str → Option Value} {s : Shared} {Q : Flow → Shared → Prop} {E : Value → Shared → Prop} {b : List Stmt}
/-- held = {} -/
theorem pr_6 {x0 : Stmt} {post : List (Addr × Obj)} (g0 : (lawStmts (ob266 w.params))[6]? = some x0) (hcs : lawScope (ob266 w.params) = cs)
    (hB : Below (ktrTop 650 6500 gd cn₀ cs₀ L₀ a₀ ccd₀ cl₀ outer) base (envX cn₀ cs₀ L₀ a₀ ccd₀ cl₀ :: outer) g) (hF : Fr g L s.heap m) (hX : (K2 w.params).In g) (hN : News g L s.heap post) (hT : Top VV LL mean mg mb g)
    (hk : ∀ (h : Heap) (tk : Nat) (D : Addr) (od : Obj), Fr g L h (fun y => if y = Str.ofString "held" then some (.ref D) else m y) → News g L h ((D, od) :: post) → od.IsDictOf (PySem.strKind PP w) [] → (∀ p ∈ post, @LT.lt Nat _ p.1 D) →
      wpAny (model PP w) (Around.deeper (ktrTop 650 6500 gd cn₀ cs₀ L₀ a₀ ccd₀ cl₀ outer) (envOfC cn cs L a (.ref 265))) (execs b (envOfC cn cs L a (.ref 265))) Q E { s with heap := h, toks := tk }) :
    wpAny (model PP w) (Around.deeper (ktrTop 650 6500 gd cn₀ cs₀ L₀ a₀ ccd₀ cl₀ outer) (envOfC cn cs L a (.ref 265))) (execs (x0 :: b) (envOfC cn cs L a (.ref 265))) Q E s := by
  k_with_none
  w_top off
  have e0 : some (Stmt.Assign _ _ _) = some x0 := g0
  have ec : (⟨_, _, _, _, _⟩ : Scope) = cs := hcs
  injection e0 with e0
  clear g0 hcs
  subst e0
  subst ec
  refine unhook ?_
  k_fill
  intro _ _
  repeat' (first | (k_unfold; (try dsimp only)) | walk1 | (dsimp only; walk1))


  (rename Obj.IsDictOf _ _ _ => hd9)
  exact hk _ _ _ _ (by assumption) (by assumption) (nil_kind hd9) (by first | assumption | exact allLt_mem (by assumption))
end
end Mine
end
section
open PySem PySem.W PyProof.Rows PySem.W.X
namespace Mine

theorem drop4 {h₀ h : Heap} {L : Addr} {a b c x : Addr × Obj} {r : List (Addr × Obj)} (N : News h₀ L h (a :: b :: c :: x :: r)) : News h₀ L h ([a, b, c] ++ r) := fun p hp => N p (by
  simp only [List.cons_append, List.nil_append, List.mem_cons] at hp ⊢
  rcases hp with h | h | h | h <;> simp [h])
noncomputable def IntEnd (z : Int) (g : Heap) (L : Addr) (m : Str → Option Value) (news : List (Addr × Obj)) (s : Shared) (v : Value) (s₁ : Shared) : Prop := ∃ h tk t, v = .int z t ∧ s₁ = { s with heap := h, toks := tk } ∧ Fr g L h m ∧ News g L h news
theorem if_int {M : Model} {A : Around} {E : Value → Shared → Prop} {env : Env} {s : Shared} {g : Heap} {L : Addr} {m : Str → Option Value} {news : List (Addr × Obj)} {Q : Value → Shared → Prop} {test body orelse : PySem.Expr} {pos : Pos} (z : Int) (_ : Fr g L s.heap m) (_ : News g L s.heap news)
    (h1 : Cut (wpAny M A (eval (.IfExp test body orelse pos) env) (IntEnd z g L m news s) E s))
    (h2 : Cut (∀ h tk t, Fr g L h m → News g L h news → Q (.int z t) { s with heap := h, toks := tk })) : wpAny M A (eval (.IfExp test body orelse pos) env) Q E s :=
  wpAny_mono h1.un (fun _ _ ⟨h, tk, t, e1, e2, F, N⟩ => by rw [e1, e2]; exact h2.un h tk t F N) fun _ _ e => e

section
variable {w : World} {mean : ExcName → Option Value} {mg mb : Str → Option Value} {gd : Option (List Code)} {cn cn₀ : Str} {cs cs₀ : Scope} {L a L₀ a₀ : Addr} {ccd₀ : Value} {cl₀ : List (Str × Addr)} {A₀ : Around} {base g₀ g : Heap} {outer : List Env} {m : Str → Option Value} {s : Shared} {Q : Flow → Shared → Prop} {E : Value → Shared → Prop} {b : List Stmt}
theorem pr_7 {x0 : Stmt} {post : List (Addr × Obj)} {tp D : Addr} {X : Pfx} {v1 v3 v5 : Tok} {od : Obj} (g0 : (lawStmts (ob266 w.params))[7]? = some x0) (hcs : lawScope (ob266 w.params) = cs) (hm : PrM X tp v1 v3 v5 m) (hh : m (Str.ofString "held") = some (.ref D))
    (hpl : X.seg ∈ [Str.ofString "", Str.ofString "fs", Str.ofString "gs", Str.ofString "cs"]) (hd : od.IsDictOf (PySem.strKind PP w) []) (hpost : ∀ p ∈ post, p.1 ≠ D)
    (hB : Below (ktrTop 650 6500 gd cn₀ cs₀ L₀ a₀ ccd₀ cl₀ outer) base (envX cn₀ cs₀ L₀ a₀ ccd₀ cl₀ :: outer) g) (hF : Fr g L s.heap m) (hX : (K2 w.params).In g) (hN : News g L s.heap ((D, od) :: post)) (hT : Top VV LL mean mg mb g)
    (hk : ∀ (h : Heap) (tk : Nat) (m' : Str → Option Value) (od : Obj) (kvs : List (Str × Value)), Fr g L h m' → News g L h ((D, od) :: post) → od.IsDictOf (PySem.strKind PP w) kvs → HK kvs (heldN X 2) → (∀ z, soNames.contains z = false → m' z = m z) →
      wpAny (model PP w) (Around.deeper (ktrTop 650 6500 gd cn₀ cs₀ L₀ a₀ ccd₀ cl₀ outer) (envOfC cn cs L a (.ref 265))) (execs b (envOfC cn cs L a (.ref 265))) Q (fun _ _ => False) { s with heap := h, toks := tk }) :
    wpAny (model PP w) (Around.deeper (ktrTop 650 6500 gd cn₀ cs₀ L₀ a₀ ccd₀ cl₀ outer) (envOfC cn cs L a (.ref 265))) (execs (x0 :: b) (envOfC cn cs L a (.ref 265))) Q (fun _ _ => False) s := by
  k_with_none
  w_top off
  k_with "setItem ref str" => ((k_here; (k_dflt (refine' set_heldU (by k_asm) (by k_asm) ?zUq (by assumption) (by assumption) (held_no rfl) (hk_small (by assumption)) ?_; (case zUq => k_updF); intro h' o' kvs' F' N' hd' hk'))))
  k_with "exec For Tuple List cons nil" => ((k_here; k_dflt (refine wpAny_For ?_)))
  k_with "pyIter ref" => ((k_here; refine Halt.go ?_))
  k_with "k_all" => (first | assumption | exact lt_ne (by assumption) (by first | exact Nat.le_refl _ | exact Nat.le_add_right _ _ | omega))
  k_with "k_ne" => (first | exact Ne.symm (by assumption) | exact ne_cell (by k_asm) (by k_mem) (by k_mem) (by assumption) (by intro v e; cases e) | exact ne_cell (by k_asm) (by k_mem) (by k_mem) (by assumption) (fields_nc (by assumption)) | exact ne_cell (by k_asm) (by k_mem) (by k_mem) (by assumption) (dict_nc (by assumption)) | exact ne_cell (by k_asm) (by k_mem) (by k_mem) (by assumption) list_nc | exact ne_cls (o2 := tabObj _) (by k_asm) (by k_mem) (by k_mem) (iter_cls (by assumption)) | exact ne_cls (by k_asm) (by k_mem) (by k_mem) (by intro e; cases e) | exact ne_cls (o2 := tabObj _) (by k_asm) (by k_mem) (by k_mem) (dict_cls (by assumption)))
  have e0 : some (Stmt.For _ _ _ _ _) = some x0 := g0
  have ec : (⟨_, _, _, _, _⟩ : Scope) = cs := hcs
  injection e0 with e0
  clear g0 hcs
  subst e0
  subst ec
  have F1 := fr_as (fr_as (fr_as hF hm.pl) ((if_neg (by decide)).trans hm.da)) ((if_neg (by decide)).trans ((if_neg (by decide)).trans hh))
  clear hF
  k_with "eval IfExp" => (
    (k_dflt (refine if_int (if X.data then 102 else -1) (by k_asm) (by k_asm) ?_ ?_))
    (with_reducible refine Cut.go ?_)
    (with_reducible refine IfExp_ ?_)
    rotate_left
    (with_reducible refine Cut.go ?_)
    intro h' tk' t' F' N'
    rotate_right)
  refine unhook ?_
  k_fill
  intro _ _
  repeat' (first | (k_unfold; (try dsimp only)) | walk1 | (dsimp only; walk1))

  · exact ⟨_, _, _, by rw [if_pos (by assumption)], rfl, by assumption, by assumption⟩
  · exact ⟨_, _, _, by rw [if_neg (by first | assumption | (intro q; rw [q] at *; contradiction) | simp_all)], rfl, by assumption, by assumption⟩
  unfold Halt
  (rename PyProof.V.Flat _ _ => hv9)
  obtain ⟨t9, e9⟩ := segv hpl hv9
  subst e9
  (rename Fr _ _ _ _ => F9)
  (rename News _ _ _ _ => N9)
  have N8 := drop4 N9
  have hId9 := news_size N8 _ (List.mem_append_right _ (.head _))
  refine for_listT (HJ w _ _ _ [_, _, _] _ X 0) F9 N8 (HJ.start (b := 0) (X := X) hd (show HK [] (heldN X 0) from trivial)) (HJ.hJ (.head _) N8) rfl ⟨_, rfl⟩ (fun _ _ => two_ref) rfl ?_ ?_ PassesOwn.never
  rotate_left
  · with_reducible refine Cut.go ?_
    rintro g m1 news h tk ⟨rfl, u, od1, kvs, rfl, rfl, hd1, hk1⟩ F N
    refine hk _ _ _ _ _ F (News.sub N (fun p hp => .tail _ (.tail _ (.tail _ hp)))) hd1 hk1 (fun z hz => ?_)
    simp only [hz, Bool.false_eq_true, if_false]
    repeat' (first | rfl | (split; (rename_i e; first | (rw [e]; exact hm.pl.symm) | (rw [e]; exact hm.da.symm) | (rw [e]; exact hh.symm))))
  · with_reducible refine Cut.go ?_
    rintro i v g m1 news h tk I iob hv ⟨rfl, u, od1, kvs, rfl, rfl, hd1, hk1⟩ F N rfl
    dsimp only [List.cons_append, List.nil_append] at N
    rcases two_at hv with ⟨rfl, rfl⟩ | ⟨rfl, rfl⟩
    all_goals skip
    repeat' (first | (k_unfold; (try dsimp only)) | walk1 | (dsimp only; walk1))

    all_goals
      (rename Fr _ _ _ _ => F8)
      (rename News _ _ _ _ => N8)
      (rename HK _ _ => hk8)
      (rename Obj.IsDictOf _ _ _ => hd8)
      first
        | exact for_next F8 N8 (HJ.next hd8 hk8 (held_snoc (by first | exact rfl) (by first | assumption | decide | omega)) (by intro z hz; simp only [if_neg (ne_sort hz), if_neg (ne_octet hz), hz, Bool.false_eq_true, if_false]))
        | exact for_next F8 N8 (HJ.next hd8 hk8 (held_skip (by first | exact rfl) (by first | assumption | decide | omega)) (by intro z hz; simp only [if_neg (ne_sort hz), if_neg (ne_octet hz), hz, Bool.false_eq_true, if_false]))
end
end Mine
end
section
open PySem PySem.W PyProof.Rows PySem.W.X
namespace Mine

theorem drop5 {h₀ h : Heap} {L : Addr} {a b c d : Addr × Obj} {r : List (Addr × Obj)} (N : News h₀ L h (a :: b :: c :: d :: r)) : News h₀ L h ([a, b, c, d] ++ r) := N

section
variable {w : World} {mean : ExcName → Option Value} {mg mb : Str → Option Value} {gd : Option (List Code)} {cn cn₀ : Str} {cs cs₀ : Scope} {L a L₀ a₀ : Addr} {ccd₀ : Value} {cl₀ : List (Str × Addr)} {A₀ : Around} {base g₀ g : Heap} {outer : List Env} {m : Str → Option Value} {s : Shared} {Q : Flow → Shared → Prop} {E : Value → Shared → Prop} {b : List Stmt}
theorem pr_8 {x0 : Stmt} {post : List (Addr × Obj)} {tp D : Addr} {X : Pfx} {v1 v3 v5 : Tok} {od : Obj} {kvs : List (Str × Value)} (g0 : (lawStmts (ob266 w.params))[8]? = some x0) (hcs : lawScope (ob266 w.params) = cs) (hm : PrM X tp v1 v3 v5 m) (hh : m (Str.ofString "held") = some (.ref D))
    (hd : od.IsDictOf (PySem.strKind PP w) kvs) (hkv : HK kvs (heldN X 2)) (hpost : ∀ p ∈ post, p.1 ≠ D)
    (hB : Below (ktrTop 650 6500 gd cn₀ cs₀ L₀ a₀ ccd₀ cl₀ outer) base (envX cn₀ cs₀ L₀ a₀ ccd₀ cl₀ :: outer) g) (hF : Fr g L s.heap m) (hX : (K2 w.params).In g) (hN : News g L s.heap ((D, od) :: post)) (hT : Top VV LL mean mg mb g)
    (hk : ∀ (h : Heap) (tk : Nat) (m' : Str → Option Value) (od : Obj) (kvs : List (Str × Value)), Fr g L h m' → News g L h ((D, od) :: post) → od.IsDictOf (PySem.strKind PP w) kvs → HK kvs (heldN X 5) → (∀ z, soNames.contains z = false → m' z = m z) →
      wpAny (model PP w) (Around.deeper (ktrTop 650 6500 gd cn₀ cs₀ L₀ a₀ ccd₀ cl₀ outer) (envOfC cn cs L a (.ref 265))) (execs b (envOfC cn cs L a (.ref 265))) Q (fun _ _ => False) { s with heap := h, toks := tk }) :
    wpAny (model PP w) (Around.deeper (ktrTop 650 6500 gd cn₀ cs₀ L₀ a₀ ccd₀ cl₀ outer) (envOfC cn cs L a (.ref 265))) (execs (x0 :: b) (envOfC cn cs L a (.ref 265))) Q (fun _ _ => False) s := by
  k_with_none
  w_top off
  k_with "setItem ref str" => ((k_here; (k_dflt (refine' set_heldU (by k_asm) (by k_asm) ?zUq (by assumption) (by assumption) (held_no rfl) (hk_small (by assumption)) ?_; (case zUq => k_updF); intro h' o' kvs' F' N' hd' hk'))))
  k_with "exec For Tuple List cons nil" => ((k_here; k_dflt (refine wpAny_For ?_)))
  k_with "pyIter ref" => ((k_here; refine Halt.go ?_))
  k_with "k_all" => (first | assumption | exact lt_ne (by assumption) (by first | exact Nat.le_refl _ | exact Nat.le_add_right _ _ | omega))
  k_with "k_ne" => (first | exact Ne.symm (by assumption) | exact ne_cell (by k_asm) (by k_mem) (by k_mem) (by assumption) (by intro v e; cases e) | exact ne_cell (by k_asm) (by k_mem) (by k_mem) (by assumption) (fields_nc (by assumption)) | exact ne_cell (by k_asm) (by k_mem) (by k_mem) (by assumption) (dict_nc (by assumption)) | exact ne_cell (by k_asm) (by k_mem) (by k_mem) (by assumption) list_nc | exact ne_cls (o2 := tabObj _) (by k_asm) (by k_mem) (by k_mem) (iter_cls (by assumption)) | exact ne_cls (by k_asm) (by k_mem) (by k_mem) (by intro e; cases e) | exact ne_cls (o2 := tabObj _) (by k_asm) (by k_mem) (by k_mem) (dict_cls (by assumption)))
  have e0 : some (Stmt.For _ _ _ _ _) = some x0 := g0
  have ec : (⟨_, _, _, _, _⟩ : Scope) = cs := hcs
  injection e0 with e0
  clear g0 hcs
  subst e0
  subst ec
  have F1 := fr_as (fr_as (fr_as (fr_as hF hm.re) ((if_neg (by decide)).trans hm.lo)) ((if_neg (by decide)).trans ((if_neg (by decide)).trans hm.rx))) ((if_neg (by decide)).trans ((if_neg (by decide)).trans ((if_neg (by decide)).trans hh)))
  clear hF
  k_with "eval IfExp" => (
    (first
      | ((with_reducible show wpAny _ _ (eval (PySem.Expr.IfExp _ (PySem.Expr.Constant _ _ _) _ _) _) _ _ _); (k_dflt (refine if_int (if X.lock then 240 else -1) (by k_asm) (by k_asm) ?_ ?_)))
      | (k_dflt (refine if_int (if 0 < X.rep then X.rep else -1) (by k_asm) (by k_asm) ?_ ?_)))
    (with_reducible refine Cut.go ?_)
    (with_reducible refine IfExp_ ?_)
    rotate_left
    (with_reducible refine Cut.go ?_)
    intro h' tk' t' F' N'
    rotate_right)
  refine unhook ?_
  k_fill
  intro _ _
  repeat' (first | (k_unfold; (try dsimp only)) | walk1 | (dsimp only; walk1))

  all_goals try exact ⟨_, _, _, by rw [if_pos (by assumption)], rfl, by assumption, by assumption⟩
  all_goals try exact ⟨_, _, _, by rw [if_neg (by first | assumption | (intro q; rw [q] at *; contradiction) | simp_all | omega)], rfl, by assumption, by assumption⟩
  unfold Halt
  (rename Fr _ _ _ _ => F9)
  (rename News _ _ _ _ => N9)
  have N8 := drop5 N9
  have hId9 := news_size N8 _ (List.mem_append_right _ (.head _))
  refine for_listT (HJ w _ _ _ [_, _, _, _] _ X 2) F9 N8 (HJ.start (b := 2) (X := X) hd hkv) (HJ.hJ (.head _) N8) rfl ⟨_, rfl⟩ (fun _ _ => three_ref) rfl ?_ ?_ PassesOwn.never
  rotate_left
  · with_reducible refine Cut.go ?_
    rintro g m1 news h tk ⟨rfl, u, od1, kvs, rfl, rfl, hd1, hk1⟩ F N
    refine hk _ _ _ _ _ F (News.sub N (fun p hp => .tail _ (.tail _ (.tail _ (.tail _ hp))))) hd1 hk1 (fun z hz => ?_)
    simp only [hz, Bool.false_eq_true, if_false]
    repeat' (first | rfl | (split; (rename_i e; first | (rw [e]; exact hm.re.symm) | (rw [e]; exact hm.lo.symm) | (rw [e]; exact hm.rx.symm) | (rw [e]; exact hh.symm))))
  · with_reducible refine Cut.go ?_
    rintro i v g m1 news h tk I iob hv ⟨rfl, u, od1, kvs, rfl, rfl, hd1, hk1⟩ F N rfl
    dsimp only [List.cons_append, List.nil_append] at N
    rcases three_at hv with ⟨rfl, rfl⟩ | ⟨rfl, rfl⟩ | ⟨rfl, rfl⟩
    all_goals skip
    repeat' (first | (k_unfold; (try dsimp only)) | walk1 | (dsimp only; walk1))

    all_goals
      (rename Fr _ _ _ _ => F8)
      (rename News _ _ _ _ => N8)
      (rename HK _ _ => hk8)
      (rename Obj.IsDictOf _ _ _ => hd8)
      first
        | exact for_next F8 N8 (HJ.next hd8 hk8 (held_snoc (by first | exact rfl) (by first | assumption | decide | omega)) (by intro z hz; simp only [if_neg (ne_sort hz), if_neg (ne_octet hz), hz, Bool.false_eq_true, if_false]))
        | exact for_next F8 N8 (HJ.next hd8 hk8 (held_skip (by first | exact rfl) (by first | assumption | decide | omega)) (by intro z hz; simp only [if_neg (ne_sort hz), if_neg (ne_octet hz), hz, Bool.false_eq_true, if_false]))
end
end Mine
end
section
open PySem PySem.W PyProof.Rows PySem.W.X
namespace Mine

theorem lo_of {d : Nat} (h : 261 < d) : ((d : Addr) == sysModules) = false := by
  refine beq_false_of_ne fun e => ?_
  have : (d : Nat) = 1 := e
  omega
theorem len_ne {X : Pfx} {a b : List Int} (n : (a.length : Int) ≠ (b.length : Int)) (h : octF X = some a) (h' : octF X = some b) : False := by rw [h] at h'; cases h'; exact n rfl
section
variable {w : World} {mean : ExcName → Option Value} {mg mb : Str → Option Value} {gd : Option (List Code)} {cn cn₀ : Str} {cs cs₀ : Scope} {L a L₀ a₀ : Addr} {ccd₀ : Value} {cl₀ : List (Str × Addr)} {A₀ : Around} {base g₀ g : Heap} {outer : List Env} {m : Str → Option Value} {s : Shared} {Q : Flow → Shared → Prop} {E : Value → Shared → Prop} {b : List Stmt}
theorem pr_9 {x0 : Stmt} {tail : List (Addr × Obj)} {tp : Addr} {X : Pfx} {v1 v3 v5 : Tok} {cc : Nat} {x d c' : Addr} {oc o : Obj} {ps : Array Value} {t1 t2 t3 t4 t5 u1 u3 u5 : Tok} {zs : List Int} {th : Tok} {D : Addr} {od : Obj} {kvs : List (Str × Value)}
    (g0 : (lawStmts (ob266 w.params))[9]? = some x0) (hcs : lawScope (ob266 w.params) = cs) (hm : PrM X tp v1 v3 v5 m) (hh : m (Str.ofString "heard") = some (.bytes (byteArr zs) th)) (hm2 : m (Str.ofString "held") = some (.ref D)) (ho : o.data = .cell (some (.ref x)))
    (hpl : X.seg ∈ [Str.ofString "", Str.ofString "fs", Str.ofString "gs", Str.ofString "cs"]) (hrp : X.rep ∈ ([0, 242, 243, 240, 1] : List Int)) (hrx : X.rex ∈ ([-1, 64, 72, 79, 80, 63] : List Int)) (e1 : octF X = some zs) (e2 : KBa.In zs) (e3 : zs.length ≤ 5) (hd : od.IsDictOf (PySem.strKind PP w) kvs) (hkv : HK kvs (heldN X 5)) (hD1 : @LT.lt Nat _ 261 D)
    (hB : Below (ktrTop 650 6500 gd cn₀ cs₀ L₀ a₀ ccd₀ cl₀ outer) base (envX cn₀ cs₀ L₀ a₀ ccd₀ cl₀ :: outer) g) (hF : Fr g L s.heap m) (hX : (K2 w.params).In g) (hN : News g L s.heap ((D, od) :: (c', oc) :: (x, instObj 154 d) :: (d, dictOf (pfxEs w t1 t2 t3 t4 t5 X.seg X.data X.rep X.lock X.rex u1 u3 u5) 5) :: (L + 1, o) :: (261, tabObj ps) :: (tp, parts X.seg X.data X.rep X.lock X.rex v1 v3 v5 cc) :: tail)) (hT : Top VV LL mean mg mb g)
    (hk : ∀ (h : Heap) (tk : Nat) (m' : Str → Option Value), Fr g L h m' → News g L h ((c', oc) :: (x, instObj 154 d) :: (d, dictOf (pfxEs w t1 t2 t3 t4 t5 X.seg X.data X.rep X.lock X.rex u1 u3 u5) 5) :: (L + 1, o) :: (261, tabObj ps) :: (tp, parts X.seg X.data X.rep X.lock X.rex v1 v3 v5 cc) :: tail) → PrM X tp v1 v3 v5 m' → m' (Str.ofString "heard") = some (.bytes (byteArr zs) th) →
      wpAny (model PP w) (Around.deeper (ktrTop 650 6500 gd cn₀ cs₀ L₀ a₀ ccd₀ cl₀ outer) (envOfC cn cs L a (.ref 265))) (execs b (envOfC cn cs L a (.ref 265))) Q E { s with heap := h, toks := tk }) :
    wpAny (model PP w) (Around.deeper (ktrTop 650 6500 gd cn₀ cs₀ L₀ a₀ ccd₀ cl₀ outer) (envOfC cn cs L a (.ref 265))) (execs (x0 :: b) (envOfC cn cs L a (.ref 265))) Q E s := by
  k_with_none
  w_top off
  k_with "call type:list" => ((k_here; (with_reducible show wpAny _ _ (call (Value.type "list") [Value.bytes _ _]) _ _ _); (k_dflt (refine' list_bytesK ?zFq ?zNq ?zbq ?zhq ?znq ?_; (case zFq => k_asm); (case zNq => k_asm); (case zbq => exact KBa.ints_make (by assumption)); (case zhq => exact rfl); (case znq => omega))); intro D' acc' c' h' tk' F' N' hI' l1; (try k_lt l1)))
  k_with "call ref" => ((k_here; (with_reducible show wpAny _ _ (call (Value.ref 233) [Value.ref _]) _ _ _); (k_dflt ((refine' (CP.lower (c_written _ _ _ _ _ ?zp1q ?zp2q ?zp3q) ?zdq ?zuq) _ _ _ _ _ _ _ _ _ _ _ _ _ _ _ ?zBq ?zFq ?zXq ?zNq ?zTq ?zKq ?_ ?zexcq); (case zdq => exact Nat.le_of_ble_eq_true rfl); (case zuq => exact Nat.le_of_ble_eq_true rfl); (case zp1q => assumption); (case zp2q => exact lo_of (by omega)); (case zp3q => assumption); (case zBq => k_asm); (case zFq => k_asm); (case zXq => k_asm); (case zNq => refine' News.dup ?znq ?zm1q; (case znq => k_asm); (case zm1q => k_mem)); (case zTq => k_asm); (case zKq => first | exact rfl | assumption); (case zexcq => exact fun _ _ _ _ _ h => h.elim); intro v' tl' h' tk' F' N' hR'; have N' := News.undup N'; obtain ⟨D', ys', e1', e2', hI'⟩ := hR'; subst e1'; subst e2'; (try dsimp only [List.nil_append, List.cons_append] at N')))))
  k_with "call ref" => ((k_here; (k_dflt show wpAny _ _ (call (Value.ref 144) [Value.ref _]) _ _ _); (k_dflt ((refine' (CP.lower (c_count _ _ _ _ _ _ _ _ _ _ _ _) ?zdq ?zuq) _ _ _ _ _ _ _ _ _ _ _ _ _ _ _ ?zBq ?zFq ?zXq ?zNq ?zTq ?zKq ?_ ?_); (case zdq => exact Nat.le_of_ble_eq_true rfl); (case zuq => exact Nat.le_of_ble_eq_true rfl); (case zBq => k_asm); (case zFq => k_asm); (case zXq => k_asm); (case zNq => refine' News.dup2 ?znq ?zm1q ?zm2q; (case znq => k_asm); (case zm1q => k_mem); (case zm2q => k_mem)); (case zTq => k_asm); (case zKq => first | exact rfl | assumption); intro v' tl' h' tk' F' N' hR'; have N' := News.undup (News.undup N'); obtain ⟨e1', zs', t', o', e2'⟩ := hR'; subst e1'; subst e2'; (try dsimp only [List.nil_append, List.cons_append] at N' ⊢); rotate_left; intro C' e' h' tk' g' hC' FG' S' U'; obtain ⟨e1', hY'⟩ := hC'; subst e1'; (try dsimp only at S' U' ⊢); rotate_right))))
  have e0 : some (Stmt.If _ _ _ _) = some x0 := g0
  have ec : (⟨_, _, _, _, _⟩ : Scope) = cs := hcs
  injection e0 with e0
  clear g0 hcs
  subst e0
  subst ec
  have F1 := fr_as (fr_as hF hh) ((if_neg (by decide)).trans hm2)
  clear hF
  refine unhook ?_
  k_fill
  intro _ _
  repeat' (first | (k_unfold; (try dsimp only)) | walk1 | (dsimp only; walk1))
  all_goals first
    | exact absurd (part_written hpl hrp hrx (by assumption)).symm (by assumption)
    | exact (len_ne (by assumption) (by assumption) (by assumption)).elim
    | exact (no_oct (by assumption) (by assumption)).elim
    | ((rename Fr _ _ _ _ => F9)
       exact hk _ _ _ F9 (News.sub (by assumption) (fun p hp => by repeat' (first | exact hp | apply List.Mem.tail))) ⟨hm.pl, hm.da, hm.re, hm.lo, hm.rx, hm.pa⟩ rfl)
end
end Mine
end
section
open PySem PySem.W PyProof.Rows PySem.W.X
namespace Mine

theorem eq_parts {prog : Program} {w : World} {A : Around} {E : Value → Shared → Prop} {s : Shared} {h₀ : Heap} {L a b : Addr} {news : List (Addr × Obj)} {p p' : Str} {d d' l l' : Bool} {r r' x x' : Int} {t1 t3 t5 u1 u3 u5 : Tok} {c c' : Nat} {Q : Value → Shared → Prop}
    (N : News h₀ L s.heap news) (h1 : (a, parts p d r l x t1 t3 t5 c) ∈ news) (h2 : (b, parts p' d' r' l' x' u1 u3 u5 c') ∈ news) (e : p = p' ∧ d = d' ∧ r = r' ∧ l = l' ∧ x = x') (hp : PyData.strOk p' = true) (hu : A.units + 64 < cLine) (h : Q (.bool true) s) :
    wpAny (model prog w) A (compareOp .Eq (.ref a) (.ref b)) Q E s := by
  obtain ⟨rfl, rfl, rfl, rfl, rfl⟩ := e
  obtain ⟨as, ra⟩ := reads_parts (N _ h1).1
  obtain ⟨bs, rb⟩ := reads_parts (N _ h2).1
  have sh : PySem.SeqAt.shaped (.tuple [.str p, .bool d, .int r, .bool l, .int x]) = true := by simp [SeqAt.shaped, PyData.canLay0, PyData.canLayAll0, PyData.depth, PyData.depthAll, hp]
  have eq : PyData.eqv (.tuple [.str p, .bool d, .int r, .bool l, .int x]) (.tuple [.str p, .bool d, .int r, .bool l, .int x]) = true := by simp [PyData.eqv, PyData.eqvAll]
  exact eq_dataH ra rb sh sh hu (by rw [eq]; exact h)
theorem end_eq {n k : Nat} (e : n = 1 + k) : Value.bool ((n : Int) == 1 + (k : Int)) = .bool true := by rw [e]; simp
theorem rd_size {b : Array UInt8} {zs : List Int} {x y z : UInt8} (h : KBw.bInts b = List.map (fun c => (c.toNat : Int)) [x] ++ zs ++ List.map (fun c => (c.toNat : Int)) [y, z]) (l : zs.length ≤ 5) : 1 ≤ b.size ∧ b.size ≤ 1099511627776 := by
  have e := KBw.ints_length b
  rw [h] at e
  simp only [List.length_append, List.length_map, List.length_cons, List.length_nil] at e
  omega
theorem rd_drop {b : Array UInt8} {zs : List Int} (h : KBw.bInts b = List.map (fun c => (c.toNat : Int)) [(Int.toNat 9).toUInt8] ++ zs ++ List.map (fun c => (c.toNat : Int)) [(Int.toNat 144).toUInt8, (Int.toNat 102).toUInt8]) : (KBw.bInts b).drop 1 = zs ++ [144, 102] := by rw [h]; rfl
section
variable {w : World} {mean : ExcName → Option Value} {mg mb : Str → Option Value} {gd : Option (List Code)} {cn cn₀ : Str} {cs cs₀ : Scope} {L a L₀ a₀ : Addr} {ccd₀ : Value} {cl₀ : List (Str × Addr)} {A₀ : Around} {base g₀ g : Heap} {outer : List Env} {m : Str → Option Value} {s : Shared} {Q : Flow → Shared → Prop} {E : Value → Shared → Prop} {b : List Stmt}
theorem pr_10 {x0 x1 : Stmt} {tail : List (Addr × Obj)} {tp : Addr} {X : Pfx} {v1 v3 v5 : Tok} {cc : Nat} {x d c' : Addr} {oc o : Obj} {ps : Array Value} {t1 t2 t3 t4 t5 u1 u3 u5 : Tok} {zs : List Int} {th : Tok}
    (g0 : (lawStmts (ob266 w.params))[10]? = some x0) (g1 : (lawStmts (ob266 w.params))[11]? = some x1) (hcs : lawScope (ob266 w.params) = cs) (hm : PrM X tp v1 v3 v5 m) (hh : m (Str.ofString "heard") = some (.bytes (byteArr zs) th))
    (hpl : X.seg ∈ [Str.ofString "", Str.ofString "fs", Str.ofString "gs", Str.ofString "cs"]) (hrp : X.rep ∈ ([0, 242, 243, 240, 1] : List Int)) (hrx : X.rex ∈ ([-1, 64, 72, 79, 80, 63] : List Int)) (ho : o.data = .cell (some (.ref x))) (hso : PyData.strOk X.seg = true) (e1 : octF X = some zs) (e2 : KBa.In zs) (e3 : zs.length ≤ 5)
    (hB : Below (ktrTop 650 6500 gd cn₀ cs₀ L₀ a₀ ccd₀ cl₀ outer) base (envX cn₀ cs₀ L₀ a₀ ccd₀ cl₀ :: outer) g) (hF : Fr g L s.heap m) (hX : (K2 w.params).In g) (hN : News g L s.heap ((c', oc) :: (x, instObj 154 d) :: (d, dictOf (pfxEs w t1 t2 t3 t4 t5 X.seg X.data X.rep X.lock X.rex u1 u3 u5) 5) :: (L + 1, o) :: (261, tabObj ps) :: (tp, parts X.seg X.data X.rep X.lock X.rex v1 v3 v5 cc) :: tail)) (hT : Top VV LL mean mg mb g)
    (hk : ∀ (h : Heap) (tk : Nat) (m' : Str → Option Value), Fr g L h m' → News g L h ((261, tabObj ps) :: tail) → Q (.ret (.bool true)) { s with heap := h, toks := tk }) :
    wpAny (model PP w) (Around.deeper (ktrTop 650 6500 gd cn₀ cs₀ L₀ a₀ ccd₀ cl₀ outer) (envOfC cn cs L a (.ref 265))) (execs [x0, x1] (envOfC cn cs L a (.ref 265))) Q E s := by
  k_with_none
  w_top off
  k_with "call ref" => ((k_here; (with_reducible show wpAny _ _ (call (Value.ref 179) [Value.bytes _ _, Value.int _ _]) _ _ _); (k_dflt ((refine' (CP.lower (c_read _ _ _ 1 _ ?zp1q ?zp2q) ?zdq ?zuq) _ _ _ _ _ _ _ _ _ _ _ _ _ _ _ ?zBq ?zFq ?zXq ?zNq ?zTq ?zKq ?_ ?_); (case zdq => exact Nat.le_of_ble_eq_true rfl); (case zuq => exact Nat.le_of_ble_eq_true rfl); (case zp1q => exact (rd_size (by assumption) (by assumption)).1); (case zp2q => exact (rd_size (by assumption) (by assumption)).2); (case zBq => k_asm); (case zFq => k_asm); (case zXq => k_asm); (case zNq => k_asm); (case zTq => k_asm); (case zKq => first | exact rfl | assumption); rotate_left; (intro C' e' h' tk' g' hC' FG' S' U'; obtain ⟨e1', hY'⟩ := hC'; rw [rd_drop (by assumption)] at hY'; exact (part_no (by assumption) (by assumption) (by assumption) (by assumption) hY').elim); intro v' tl' h' tk' F' N' hR'; obtain ⟨tp', q', Y', l', n', t', c', e1', r1', hP', e2'⟩ := hR'; rw [rd_drop (by assumption)] at r1'; obtain ⟨e8', e9'⟩ := part_back (by assumption) (by assumption) (by assumption) (by assumption) r1'; have e8' := e8'.symm; subst e8'; obtain ⟨d', t1', t2', t3', t4', t5', u1', u3', u5', hlt', e3'⟩ := hP'; subst e1'; subst e3'; subst e2'; (try dsimp only [List.nil_append, List.cons_append] at N' ⊢)))))
  k_with "call ref" => ((k_here; (with_reducible show wpAny _ _ (call (Value.ref 123) [Value.ref _]) _ _ _); (k_dflt ((refine' (CP.lower (c_told _ _ _ _ _ _ _ _ _ _ _ _) ?zdq ?zuq) _ _ _ _ _ _ _ _ _ _ _ _ _ _ _ ?zBq ?zFq ?zXq ?zNq ?zTq ?zKq ?_ ?zexcq); (case zdq => exact Nat.le_of_ble_eq_true rfl); (case zuq => exact Nat.le_of_ble_eq_true rfl); (case zBq => k_asm); (case zFq => k_asm); (case zXq => k_asm); (case zNq => refine' News.dup2 ?znq ?zm1q ?zm2q; (case znq => k_asm); (case zm1q => k_mem); (case zm2q => k_mem)); (case zTq => k_asm); (case zKq => first | exact rfl | assumption); (case zexcq => exact fun _ _ _ _ _ h => h.elim); intro v' tl' h' tk' F' N' hR'; have N' := News.undup (News.undup N'); obtain ⟨tp', e1', t1', t3', t5', c', e2'⟩ := hR'; subst e1'; subst e2'; (try dsimp only [List.nil_append, List.cons_append] at N' ⊢)))))
  k_with "compareOp Eq ref ref" => ((k_here; k_dflt (refine eq_parts (by k_asm) (by k_mem) (by k_mem) ⟨rfl, rfl, rfl, rfl, rfl⟩ (by assumption) (by ke_room) ?_)))
  have e0 : some (Stmt.Assign _ _ _) = some x0 := g0
  have e9 : some (Stmt.Return _ _) = some x1 := g1
  injection e9 with e9
  clear g1
  subst e9
  have ec : (⟨_, _, _, _, _⟩ : Scope) = cs := hcs
  injection e0 with e0
  clear g0 hcs
  subst e0
  subst ec
  have F1 := fr_as (fr_as (fr_as hF hh) ((if_neg (by decide)).trans hm.pa)) ((if_neg (by decide)).trans ((if_neg (by decide)).trans hm.rx))
  clear hF
  refine unhook ?_
  k_fill
  intro _ _
  repeat' (first | (k_unfold; (try dsimp only)) | walk1 | (dsimp only; walk1))

  all_goals
    (rename _ = 1 + List.length _ => e8)
    first
      | exact hk _ _ _ (by assumption) (sub1 (by assumption) (by k_mem) (fun p hp => by repeat' (first | exact hp | apply List.Mem.tail)))
      | (rw [end_eq e8]; exact hk _ _ _ (by assumption) (sub1 (by assumption) (by k_mem) (fun p hp => by repeat' (first | exact hp | apply List.Mem.tail))))
end
end Mine
end
section
open PySem PySem.W PyProof.Rows PySem.W.X
namespace Mine

theorem oct_bad : ∀ pl ∈ [Str.ofString "", Str.ofString "fs", Str.ofString "gs", Str.ofString "cs"], ∀ rp ∈ ([0, 242, 243, 240, 1] : List Int), ∀ rx ∈ ([-1, 64, 72, 79, 80, 63] : List Int), ∀ dt lk : Bool, (octF ⟨pl, dt, rp, lk, rx⟩).isNone = badF ⟨pl, dt, rp, lk, rx⟩ := by decide +kernel
theorem seg_all : ∀ pl ∈ [Str.ofString "", Str.ofString "fs", Str.ofString "gs", Str.ofString "cs"], PyData.strOk pl = true := by decide +kernel
section
variable {X : Pfx} (hpl : X.seg ∈ [Str.ofString "", Str.ofString "fs", Str.ofString "gs", Str.ofString "cs"]) (hrp : X.rep ∈ ([0, 242, 243, 240, 1] : List Int)) (hrx : X.rex ∈ ([-1, 64, 72, 79, 80, 63] : List Int))
include hpl hrp hrx
theorem octs_good {zs : List Int} (e : octF X = some zs) : badF X = false := by
  have z := oct_bad _ hpl _ hrp _ hrx X.data X.lock
  rw [← z, e]; rfl
theorem octs_none (e : octF X = none) : badF X = true := by
  have z := oct_bad _ hpl _ hrp _ hrx X.data X.lock
  rw [← z, e]; rfl
end
theorem PrM.off {X : Pfx} {tp : Addr} {v1 v3 v5 : Tok} {m m' : Str → Option Value} (h : PrM X tp v1 v3 v5 m) (k : ∀ z, soNames.contains z = false → m' z = m z) : PrM X tp v1 v3 v5 m' :=
  ⟨(k _ (by decide)).trans h.pl, (k _ (by decide)).trans h.da, (k _ (by decide)).trans h.re, (k _ (by decide)).trans h.lo, (k _ (by decide)).trans h.rx, (k _ (by decide)).trans h.pa⟩
section
variable {w : World} {mean : ExcName → Option Value} {mg mb : Str → Option Value} {gd : Option (List Code)} {cn cn₀ : Str} {cs cs₀ : Scope} {L a L₀ a₀ : Addr} {ccd₀ : Value} {cl₀ : List (Str × Addr)} {A₀ : Around} {base g₀ g : Heap} {outer : List Env} {m : Str → Option Value} {s : Shared} {Q : Flow → Shared → Prop} {E : Value → Shared → Prop} {b : List Stmt}
theorem parts_body {tail : List (Addr × Obj)} {tp : Addr} (X : Pfx) {v1 v3 v5 : Tok} {cc : Nat} {oB : Obj} {vB : Option Value} (hcs : lawScope (ob266 w.params) = cs)
    (hm : m (Str.ofString "parts") = some (.ref tp)) (hoB : oB.data = .cell vB) (hne : ∀ p ∈ tail, p.1 ≠ 261) (htp : tp ≠ 261) (hlt : @LT.lt Nat _ 261 L) (hlt2 : @LT.lt Nat _ tp L) (hl : ∀ p ∈ tail, @LT.lt Nat _ p.1 L) (hso : PyData.strOk X.seg = true)
    (hpl : X.seg ∈ [Str.ofString "", Str.ofString "fs", Str.ofString "gs", Str.ofString "cs"]) (hrp : X.rep ∈ ([0, 242, 243, 240, 1] : List Int)) (hrx : X.rex ∈ ([-1, 64, 72, 79, 80, 63] : List Int))
    (hXB : (K2 w.params).In base) (hTB : Top VV LL mean mg mb base)
    (hB : Below (ktrTop 650 6500 gd cn₀ cs₀ L₀ a₀ ccd₀ cl₀ outer) base (envX cn₀ cs₀ L₀ a₀ ccd₀ cl₀ :: outer) g) (hF : Fr g L s.heap m) (hX : (K2 w.params).In g) (hN : News g L s.heap ((L + 1, oB) :: (261, tabObj #[]) :: (tp, parts X.seg X.data X.rep X.lock X.rex v1 v3 v5 cc) :: tail)) (hT : Top VV LL mean mg mb g)
    (hD : KtsDicts ((envX cn₀ cs₀ L₀ a₀ ccd₀ cl₀ :: outer).filterMap (·.frame)) g) (hT0 : KtsTurn ((envX cn₀ cs₀ L₀ a₀ ccd₀ cl₀ :: outer).filterMap (·.frame)) g₀ g)
    (hk : ∀ (g h : Heap) (tk : Nat) (m' : Str → Option Value) (ps : Array Value), KtsTurn ((envX cn₀ cs₀ L₀ a₀ ccd₀ cl₀ :: outer).filterMap (·.frame)) g₀ g → Fr g L h m' → News g L h ((261, tabObj ps) :: tail) → Below (ktrTop 650 6500 gd cn₀ cs₀ L₀ a₀ ccd₀ cl₀ outer) base (envX cn₀ cs₀ L₀ a₀ ccd₀ cl₀ :: outer) g → (K2 w.params).In g → Top VV LL mean mg mb g → KtsDicts ((envX cn₀ cs₀ L₀ a₀ ccd₀ cl₀ :: outer).filterMap (·.frame)) g →
      Q (.ret (.bool true)) { s with heap := h, toks := tk }) :
    wpAny (model PP w) (Around.deeper (ktrTop 650 6500 gd cn₀ cs₀ L₀ a₀ ccd₀ cl₀ outer) (envOfC cn cs L a (.ref 265))) (execs (lawStmts (ob266 w.params)) (envOfC cn cs L a (.ref 265))) Q (fun _ _ => False) s := by
  obtain ⟨x0, x1, x2, x3, x4, x5, x6, x7, x8, x9, x10, x11, e⟩ : ∃ x0 x1 x2 x3 x4 x5 x6 x7 x8 x9 x10 x11, lawStmts (ob266 w.params) = [x0, x1, x2, x3, x4, x5, x6, x7, x8, x9, x10, x11] := ⟨_, _, _, _, _, _, _, _, _, _, _, _, rfl⟩
  have g0 : (lawStmts (ob266 w.params))[0]? = some x0 := by rw [e]; rfl
  have g1 : (lawStmts (ob266 w.params))[1]? = some x1 := by rw [e]; rfl
  have g2 : (lawStmts (ob266 w.params))[2]? = some x2 := by rw [e]; rfl
  have g3 : (lawStmts (ob266 w.params))[3]? = some x3 := by rw [e]; rfl
  have g4 : (lawStmts (ob266 w.params))[4]? = some x4 := by rw [e]; rfl
  have g5 : (lawStmts (ob266 w.params))[5]? = some x5 := by rw [e]; rfl
  have g6 : (lawStmts (ob266 w.params))[6]? = some x6 := by rw [e]; rfl
  have g7 : (lawStmts (ob266 w.params))[7]? = some x7 := by rw [e]; rfl
  have g8 : (lawStmts (ob266 w.params))[8]? = some x8 := by rw [e]; rfl
  have g9 : (lawStmts (ob266 w.params))[9]? = some x9 := by rw [e]; rfl
  have g10 : (lawStmts (ob266 w.params))[10]? = some x10 := by rw [e]; rfl
  have g11 : (lawStmts (ob266 w.params))[11]? = some x11 := by rw [e]; rfl
  rw [e]
  refine pr_0 X g0 g1 g2 hcs hm hoB hne htp hlt hlt2 hl hXB hTB hB hF hX hN hT hD hT0 ?_
  intro g h tk m1 hv x d c' oc o ps t1 t2 t3 t4 t5 u1 u3 u5 T0 F1 N1 B1 X1 P1 D1 M1 hh1 H1 ho hp ok hd1 hd2
  refine pr_3 g3 hcs M1 hh1 B1 F1 X1 N1 P1 ?_
  intro h tk m2 F2 N2 M2 hh2 hb2
  rcases H1 with ⟨h1, rfl⟩ | ⟨zs, th, h1, h2, h3, rfl⟩
  · rw [octs_none hpl hrp hrx h1] at hb2
    refine pr_4 g4 hcs M2 hh2 hb2 ho hso (.inl ⟨rfl, rfl⟩) B1 F2 X1 N2 P1 ?_
    intro h tk m3 F3 N3 M3 hh3 hb3
    refine pr_5t g5 hcs hb3 h1 ho hp ok hne htp hlt hd1 hd2 hXB hTB B1 F3 X1 N3 P1 D1 T0 ?_
    intro g h tk m4 ps4 T4 F4 N4 B4 X4 P4 D4
    exact hk _ _ _ _ _ T4 F4 N4 B4 X4 P4 D4
  · rw [octs_good hpl hrp hrx h1] at hb2
    refine pr_4 g4 hcs M2 hh2 hb2 ho hso (.inr ⟨_, _, rfl, rfl⟩) B1 F2 X1 N2 P1 ?_
    intro h tk m3 F3 N3 M3 hh3 hb3
    refine pr_5f g5 hcs hb3 B1 F3 X1 N3 P1 ?_
    intro h tk F4 N4
    refine pr_6 g6 hcs B1 F4 X1 N4 P1 ?_
    intro h tk D od F5 N5 hod hDl
    have M5 : PrM X tp v1 v3 v5 (fun y => if y = Str.ofString "held" then some (.ref D) else m3 y) := M3.set (by decide)
    have hh5 : (fun y => if y = Str.ofString "held" then some (Value.ref D) else m3 y) (Str.ofString "heard") = some (.bytes (byteArr zs) th) := (if_neg (by decide)).trans hh3
    refine pr_7 g7 hcs M5 rfl hpl hod (fun p hp => Nat.ne_of_lt (hDl p hp)) B1 F5 X1 N5 P1 ?_
    intro h tk m6 od6 kvs6 F6 N6 hod6 hk6 hm6
    refine pr_8 g8 hcs (M5.off hm6) ((hm6 _ (by decide)).trans rfl) hod6 hk6 (fun p hp => Nat.ne_of_lt (hDl p hp)) B1 F6 X1 N6 P1 ?_
    intro h tk m7 od7 kvs7 F7 N7 hod7 hk7 hm7
    refine pr_9 g9 hcs ((M5.off hm6).off hm7) ((hm7 _ (by decide)).trans ((hm6 _ (by decide)).trans hh5)) ((hm7 _ (by decide)).trans ((hm6 _ (by decide)).trans rfl)) ho hpl hrp hrx h1 h2 h3 hod7 hk7 (hDl (261, tabObj ps) (by simp)) B1 F7 X1 N7 P1 ?_
    intro h tk m8 F8 N8 M8 hh8
    refine pr_10 g10 g11 hcs M8 hh8 hpl hrp hrx ho hso h1 h2 h3 B1 F8 X1 N8 P1 ?_
    intro h tk m9 F9 N9
    exact hk _ _ _ _ _ T0 F9 N9 B1 X1 P1 D1
end
section
variable {w : World} {mean : ExcName → Option Value} {mg mb : Str → Option Value}

theorem c_parts_right (tail : List (Addr × Obj)) (tp : Addr) (X : Pfx) (v1 v3 v5 : Tok) (cc : Nat) (hpl : X.seg ∈ [Str.ofString "", Str.ofString "fs", Str.ofString "gs", Str.ofString "cs"]) (hrp : X.rep ∈ ([0, 242, 243, 240, 1] : List Int)) (hrx : X.rex ∈ ([-1, 64, 72, 79, 80, 63] : List Int)) (hne : ∀ p ∈ tail, p.1 ≠ 261) (htp : tp ≠ 261) :
    CTk w mean mg mb 650 6500 266 [.ref tp] ((261, tabObj #[]) :: (tp, parts X.seg X.data X.rep X.lock X.rex v1 v3 v5 cc) :: tail) tail (fun v tl => v = .bool true ∧ ∃ ps', tl = [(261, tabObj ps')]) := by
  have hso := seg_all _ hpl
  refine unhook ?_
  k_fill
  intro _ _
  intro gd cn cs a ccd cl outer A₀ base g₀ h₀ L m s Q E hB hF hX hN hT hXB hTB hD hT0 hk hret
  refine wpAny_call ?_
  k_dflt (refine' code_T ?k1 ?k2 ?k3 ?k4 ?k5 ?XB ?TB ?D ?T0 ?kA ?kF ?kK ?k6 ?k7 ?k8 ?k9 ?kB ?kD ?_ ?c2 ?c3 ?c4; (case kA => exact rfl); (case kF => exact rfl); (case kK => assumption); (case k1 => exact hB); (case k2 => exact hF); (case k3 => exact hX); (case k4 => exact hN); (case k5 => exact hT); (case XB => exact hXB); (case TB => exact hTB); (case D => exact hD); (case T0 => exact hT0); (case k6 => k_is); (case k7 => k_is); (case k8 => ktr_room); (case k9 => exact BindsTo.of_eq rfl); (case kB => exact rfl); (case kD => decide +kernel); (case c2 => exact rfl); (case c3 => exact rfl); (case c4 => exact rfl); k_whole; intro g' L' h' tk' cells' FG' F' N' Y' B' X' T' D' l1; (try k_lt l1); (first | k_cells Y' | (cases Y')); (try simp only [List.cons_append, List.nil_append] at N'); (try dsimp only); (try k_lift B'); (try k_fold))
  have l2 : ∀ p ∈ tail, @LT.lt Nat _ p.1 L' := allLt_mem l1.2.2
  refine wpAny_noRaise ?_
  refine parts_body X rfl rfl (by assumption) hne htp l1.1 l1.2.1 l2 hso hpl hrp hrx hXB hTB (by assumption) (by assumption) (by assumption) (by assumption) (by assumption) (by assumption) KtsTurn.refl ?_
  intro g h tk m9 ps9 T9 F9 N9 B9 X9 P9 D9
  refine leaveT_ F9 N9 T9 ?_
  intro kh kT kF kN kB kX kP kD
  exact hret _ [_] _ _ _ kT kF kN kB kX kP kD ⟨rfl, _, rfl⟩
end
end Mine
end
section
open PySem PySem.W PyProof.Rows PySem.W.X
namespace Mine

section
variable {w : World} {mean : ExcName → Option Value} {mg mb : Str → Option Value}

theorem law_all {gd : Option (List Code)} {cn : Str} {cs : Scope} {L a scr : Addr} {A₀ : Around} {g : Heap} {m : Str → Option Value} {s : Shared} {Q : Flow → Shared → Prop} {E : Value → Shared → Prop} {x y : Stmt} {b : List Stmt} {its : List Value} {xs : List Int} {oB : Obj} {ps1 ps2 : Array Value} {vB : Option Value}
    (h5 : (lawStmts (ob278 w.params))[3]? = some x) (h6 : (lawStmts (ob278 w.params))[4]? = some y) (hcs : lawScope (ob278 w.params) = cs)
    (hI : IntsAre its xs) (hlen : xs.length ≤ 63) (hG : g.IsList scr its.toArray) (hm : m (Str.ofString "script") = some (.ref scr)) (hoB : oB.data = .cell vB)
    (hB : Below A₀ g [] g) (hF : Fr g L s.heap m) (hX : (K2 w.params).In g) (hN : News g L s.heap [(L + 1, oB), (261, tabObj ps1), (247, tabObj ps2), (275, tabObj #[])]) (hT : Top VV LL mean mg mb g) (hlt : 275 < L)
    (hk : ∀ h tk m', Fr g L h m' → News g L h [(261, tabObj ps1), (247, tabObj ps2), (275, tabObj #[])] → wpAny (model PP w) (ktrTop 600 6000 gd cn cs L a (.ref 277) (cellsFrom (L + 1) cs.names []) []) (execs b (envOfC cn cs L a (.ref 277))) Q E { s with heap := h, toks := tk }) :
    wpAny (model PP w) (ktrTop 600 6000 gd cn cs L a (.ref 277) (cellsFrom (L + 1) cs.names []) []) (execs (x :: y :: b) (envOfC cn cs L a (.ref 277))) Q E s := by
  k_with_none
  w_top off
  k_with "call ref" => ((k_here; (k_dflt show wpAny _ _ (call (Value.ref 200) [Value.ref _, Value.int _ _]) _ _ _); (k_dflt ((refine' (CPs.lower (c_law_cell _ _ _ _ ?zi1q ?zi2q _ _ ?zp1q ?zp2q) ?zdq ?zuq) _ _ _ _ _ _ _ _ _ _ _ _ _ _ _ ?zGq ?zBq ?zFq ?zXq ?zNq ?zTq ?zKq ?_ ?zexcq); (case zdq => exact Nat.le_of_ble_eq_true rfl); (case zuq => exact Nat.le_of_ble_eq_true rfl); (case zGq => assumption); (case zi1q => assumption); (case zi2q => omega); (case zp1q => omega); (case zp2q => omega); (case zBq => k_asm); (case zFq => k_asm); (case zXq => k_asm); (case zNq => k_asm); (case zTq => assumption); (case zKq => first | exact rfl | assumption); (case zexcq => exact fun _ _ _ _ _ h => h.elim); intro v' tl' h' tk' F' N' hR'; obtain ⟨e1', z', t', e2', hz'⟩ := hR'; subst e1'; subst e2'; (try dsimp only [List.nil_append, List.cons_append] at N' ⊢)))))
  k_with "call ref" => ((k_here; (k_dflt show wpAny _ _ (call (Value.ref 273) [Value.int _ _]) _ _ _); (k_dflt ((refine' (CP.lower (c_octet_right _ _ _ ?zp1q ?zp2q) ?zdq ?zuq) _ _ _ _ _ _ _ _ _ _ _ _ _ _ _ ?zBq ?zFq ?zXq ?zNq ?zTq ?zKq ?_ ?zexcq); (case zdq => exact Nat.le_of_ble_eq_true rfl); (case zuq => exact Nat.le_of_ble_eq_true rfl); (case zp1q => exact fmod_lo _ (by decide)); (case zp2q => exact fmod_hi _ (by decide)); (case zBq => k_asm); (case zFq => k_asm); (case zXq => k_asm); (case zNq => k_asm); (case zTq => k_asm); (case zKq => first | exact rfl | assumption); (case zexcq => exact fun _ _ _ _ _ h => h.elim); intro v' tl' h' tk' F' N' hR'; obtain ⟨e2', e1'⟩ := hR'; subst e1'; subst e2'; (try dsimp only [List.nil_append, List.cons_append] at N' ⊢)))))
  k_with "eval Call" => ((k_here; (with_reducible show wpAny _ _ (eval (PySem.Expr.Call (PySem.Expr.Name _ _) [PySem.Expr.Name _ _, PySem.Expr.Constant _ _ _] _ _) _) _ _ _); k_dflt (refine Call_ ?_)))
  k_with "CompSrc" => ((k_here; k_dflt (refine' LCg.CompSrc.range ?zhq ?zFq ?zNq ?zrq (n := 52) ?zsq ?zzq ?zyq ?_; (case zhq => rfl); (case zFq => k_asm); (case zNq => k_asm); (case zrq => assumption); (case zsq => decide); (case zzq => rfl); (case zyq => decide)); intro g8; refine Halt.go ?_))
  k_with "call builtin:all" => ((k_here; (with_reducible show wpAny _ _ (call (Value.builtin "all") [Value.ref _]) _ _ _); k_dflt (refine LSm.all_bools (by k_asm) (by k_asm) (by rfl) (by first | is_list | exact News.isList (by k_asm) (by k_mem)) (bools_rep _) ?_); intro h' tk' F' N'))
  k_with "eval ListComp" => ((k_here; (with_reducible show wpAny _ _ (eval (PySem.Expr.ListComp (PySem.Expr.Call _ [PySem.Expr.BinOp _ _ _ _] _ _) _ _ _) _) _ _ _); refine Halt.go ?_))
  have e5 : some (Stmt.Assign _ _ _) = some x := h5
  have e6 : some (Stmt.If _ _ _ _) = some y := h6
  have ec : (⟨_, _, _, _, _⟩ : Scope) = cs := hcs
  injection e5 with e5
  injection e6 with e6
  clear h5 h6 hcs
  subst e5
  subst e6
  subst ec
  have hF := fr_as hF hm
  refine unhook ?_
  k_fill
  intro _ _
  repeat' (first | (k_unfold; (try dsimp only)) | walk1 | (dsimp only; walk1))

  unfold Halt
  (rename Fr _ _ _ _ => F8)
  refine LCg.ListComp_U (F₀ := F8) (by rfl) (by decide) (by rfl) (by decide) (by rfl) ?_
  k_dflt lcg_toSrc
  repeat' (first | (k_unfold; (try dsimp only)) | walk1 | (dsimp only; walk1))

  unfold Halt
  refine same_rest (.bool true) ?_ ?_
  · with_reducible refine Cut.go ?_
    intro i v I oI C oC D m₂ ys h tk E' hi hv hC hx F N off ne
    obtain ⟨t, rfl⟩ := hv
    repeat' (first | (k_unfold; (try dsimp only)) | walk1 | (dsimp only; walk1))

    (rename Fr _ _ _ _ => F8)
    (rename News _ _ _ _ => N8)
    exact ⟨_, _, _, rfl, F8, N8, off, trivial, rfl, rfl⟩
  · with_reducible refine Cut.go ?_
    repeat' (first | (k_unfold; (try dsimp only)) | walk1 | (dsimp only; walk1))

    all_goals exact hk _ _ _ (by assumption) (News.sub (by assumption) (fun p hp => by repeat' (first | exact hp | apply List.Mem.tail)))
end
end Mine
end
section
open PySem PySem.W PyProof.Rows PySem.W.X
namespace Mine

section
variable {w : World} {mean : ExcName → Option Value} {mg mb : Str → Option Value}

theorem law_front {gd : Option (List Code)} {cn : Str} {cs : Scope} {L a scr : Addr} {A₀ : Around} {g : Heap} {m : Str → Option Value} {s : Shared} {Q : Flow → Shared → Prop} {E : Value → Shared → Prop} {x : Stmt} {b : List Stmt} {its : List Value} {xs : List Int} {oB : Obj}
    (h5 : (lawStmts (ob278 w.params))[0]? = some x) (hcs : lawScope (ob278 w.params) = cs)
    (hI : IntsAre its xs) (hlen : xs.length ≤ 63) (hG : g.IsList scr its.toArray) (hm : m (Str.ofString "script") = some (.ref scr))
    (hB : Below A₀ g [] g) (hF : Fr g L s.heap m) (hX : (K2 w.params).In g) (hN : News g L s.heap [(L + 1, oB), (261, tabObj #[]), (247, tabObj #[]), (275, tabObj #[])]) (hT : Top VV LL mean mg mb g)
    (hk : ∀ h tk m' r ys zs tp pl d rp lk rx t1 t3 t5 c, Fr g L h m' → News g L h [(tp, parts pl d rp lk rx t1 t3 t5 c), (r, LCg.lst ys), (L + 1, oB), (261, tabObj #[]), (247, tabObj #[]), (275, tabObj #[])] → m' (Str.ofString "script") = some (.ref scr) → m' (Str.ofString "row") = some (.ref r) → m' (Str.ofString "parts") = some (.ref tp) →
      IntsAre ys zs → zs.length ≤ 7 → (∀ y ∈ zs, 0 ≤ y ∧ y < 256) → pl ∈ [Str.ofString "", Str.ofString "fs", Str.ofString "gs", Str.ofString "cs"] → rp ∈ ([0, 242, 243, 240, 1] : List Int) → rx ∈ ([-1, 64, 72, 79, 80, 63] : List Int) →
      wpAny (model PP w) (ktrTop 600 6000 gd cn cs L a (.ref 277) (cellsFrom (L + 1) cs.names []) []) (execs b (envOfC cn cs L a (.ref 277))) Q E { s with heap := h, toks := tk }) :
    wpAny (model PP w) (ktrTop 600 6000 gd cn cs L a (.ref 277) (cellsFrom (L + 1) cs.names []) []) (execs (x :: b) (envOfC cn cs L a (.ref 277))) Q E s := by
  k_with_none
  w_top off
  k_with "call ref" => ((k_here; (with_reducible show wpAny _ _ (call (Value.ref 245) [Value.ref _]) _ _ _); ((k_dflt ((refine' (CPs.lower (c_law_row _ _ _ _ ?zp1q ?zp2q) ?zdq ?zuq) _ _ _ _ _ _ _ _ _ _ _ _ _ _ _ ?zGq ?zBq ?zFq ?zXq ?zNq ?zTq ?zKq ?_ ?zexcq); (case zdq => exact Nat.le_of_ble_eq_true rfl); (case zuq => exact Nat.le_of_ble_eq_true rfl); (case zGq => assumption); (case zp1q => assumption); (case zp2q => omega); (case zBq => k_asm); (case zFq => k_asm); (case zXq => k_asm); (case zNq => k_asm); (case zTq => assumption); (case zKq => first | exact rfl | assumption); (case zexcq => exact fun _ _ _ _ _ h => h.elim); intro v' tl' h' tk' F' N' hR'; obtain ⟨r', zs', e1', ys', e2', hy', hl', hz'⟩ := hR'; subst e1'; subst e2'; (try dsimp only [List.nil_append, List.cons_append] at N' ⊢))))))
  k_with "call ref" => ((k_here; (with_reducible show wpAny _ _ (call (Value.ref 259) [Value.ref _]) _ _ _); ((k_dflt ((refine' (CPs.lower (c_law_parts _ _ _ _ ?zp1q ?zp2q) ?zdq ?zuq) _ _ _ _ _ _ _ _ _ _ _ _ _ _ _ ?zGq ?zBq ?zFq ?zXq ?zNq ?zTq ?zKq ?_ ?zexcq); (case zdq => exact Nat.le_of_ble_eq_true rfl); (case zuq => exact Nat.le_of_ble_eq_true rfl); (case zGq => assumption); (case zp1q => assumption); (case zp2q => omega); (case zBq => k_asm); (case zFq => k_asm); (case zXq => k_asm); (case zNq => k_asm); (case zTq => assumption); (case zKq => first | exact rfl | assumption); (case zexcq => exact fun _ _ _ _ _ h => h.elim); intro v' tl' h' tk' F' N' hR'; obtain ⟨tp', pl', d', rp', lk', rx', e1', ⟨t1', t3', t5', c', e2'⟩, p1', p2', p3'⟩ := hR'; subst e1'; subst e2'; (try dsimp only [List.nil_append, List.cons_append] at N' ⊢))))))
  have e5 : some (Stmt.Assign _ _ _) = some x := h5
  have ec : (⟨_, _, _, _, _⟩ : Scope) = cs := hcs
  injection e5 with e5
  clear h5 hcs
  subst e5
  subst ec
  have hF := fr_as hF hm
  refine unhook ?_
  k_fill
  intro _ _
  repeat' (first | (k_unfold; (try dsimp only)) | walk1 | (dsimp only; walk1))

  exact hk _ _ _ _ _ _ _ _ _ _ _ _ _ _ _ _ (by assumption) (News.sub (by assumption) (fun p hp => by repeat' (first | exact hp | apply List.Mem.tail))) rfl rfl rfl (by assumption) (by assumption) (by assumption) (by assumption) (by assumption) (by assumption)
theorem CTk.same {f : Addr} {vs : List Value} {news keep : List (Addr × Obj)} {Ret : Value → List (Addr × Obj) → Prop} {dp un : Nat} (h : CTk w mean mg mb dp un f vs news keep Ret)
    {gd : Option (List Code)} {cn : Str} {cs : Scope} {a : Addr} {ccd : Value} {cl : List (Str × Addr)} {A₀ : Around} {g : Heap} {L : Addr} {m : Str → Option Value} {s : Shared} {Q E : Value → Shared → Prop} {dp' un' : Nat}
    (hB : Below A₀ g [] g) (hF : Fr g L s.heap m) (hX : (K2 w.params).In g) (hN : News g L s.heap news) (hT : Top VV LL mean mg mb g) (hk : cs.kind = .function) (d : dp' ≤ dp) (u : un' ≤ un) (hR : RetP g L m keep s Q Ret) :
    wpAny (model PP w) (ktrTop dp' un' gd cn cs L a ccd cl []) (call (.ref f) vs) Q E s :=
  (CTk.lower h d u) gd cn cs a ccd cl [] A₀ g g g L m s Q E hB hF hX hN hT hX hT ktsDicts_nil KtsTurn.refl hk
    fun v tl h' tk' h₀' T' F' N' _ _ _ _ hr => hR v tl h' tk' (fr_same T' F') (news_same T' N') hr
end
end Mine
end
section
open PySem PySem.W PyProof.Rows PySem.W.X
namespace Mine

theorem perm5 {h₀ h : Heap} {L : Addr} {x y z : Addr × Obj} {codes tail : List (Addr × Obj)} (N : News h₀ L h (x :: y :: z :: (codes ++ tail))) : News h₀ L h (y :: z :: (codes ++ x :: tail)) := News.sub N fun p hp => by
  simp only [List.mem_cons, List.mem_append] at hp ⊢
  rcases hp with h | h | h | h | h <;> simp [h]
theorem ne5 {I : Addr} {iob : Obj} {codes tail : List (Addr × Obj)} (h1 : ∀ p ∈ codes, p.1 ≠ 247) (hI : I ≠ 247) (ht : ∀ p ∈ tail, p.1 ≠ 247) : ∀ p ∈ codes ++ (I, iob) :: tail, p.1 ≠ 247 := fun p hp => by
  rcases List.mem_append.mp hp with hp | hp
  · exact h1 p hp
  · rcases List.mem_cons.mp hp with rfl | hp
    · exact hI
    · exact ht p hp
theorem dropC {h₀ h : Heap} {L : Addr} {x y : Addr × Obj} {codes tail : List (Addr × Obj)} (N : News h₀ L h (x :: y :: (codes ++ tail))) : News h₀ L h (y :: tail) := News.sub N fun p hp => by
  simp only [List.mem_cons, List.mem_append] at hp ⊢
  rcases hp with h | h <;> simp [h]
theorem rng_small {n : Nat} (h : n ≤ 7) : Builtin.Range.small 0 ((n : Int) + 1) 1 = true := by
  have : ∀ k : Fin 8, Builtin.Range.small 0 ((k.1 : Int) + 1) 1 = true := by decide
  exact this ⟨n, by omega⟩
theorem rng_size {n : Nat} (h : n ≤ 7) : Builtin.Range.rangeSize 0 ((n : Int) + 1) 1 = ((n + 1 : Nat) : Int) := by
  have : ∀ k : Fin 8, Builtin.Range.rangeSize 0 ((k.1 : Int) + 1) 1 = ((k.1 + 1 : Nat) : Int) := by decide
  exact this ⟨n, by omega⟩
theorem sortG {h₀ h : Heap} {L : Addr} {t r c x y z : Addr × Obj} (N : News h₀ L h [t, r, c, x, y, z]) : News h₀ L h (y :: r :: ([] ++ [t, c, x, z])) := News.sub N fun p hp => by
  simp only [List.nil_append, List.mem_cons, List.not_mem_nil, or_false] at hp ⊢
  rcases hp with h | h | h | h | h | h <;> simp [h]
theorem ne4g {h₀ h : Heap} {L : Addr} {t c r x z : Addr × Obj} (N : News h₀ L h ((247, tabObj #[]) :: r :: ([] ++ [t, c, x, z]))) (ht : t.2.cls ≠ (tabObj #[]).cls) (hc : c.1 ≠ 247) (hx : x.1 ≠ 247) (hz : z.1 ≠ 247) : ∀ p ∈ [t, c, x, z], p.1 ≠ 247 := fun p hp => by
  simp only [List.mem_cons, List.not_mem_nil, or_false] at hp
  rcases hp with rfl | rfl | rfl | rfl
  · exact ne_cls (a := p.1) (o := p.2) N (.tail _ (.tail _ (.head _))) (.head _) ht
  · exact hc
  · exact hx
  · exact hz
section
variable {w : World} {mean : ExcName → Option Value} {mg mb : Str → Option Value}

theorem law_for {gd : Option (List Code)} {cn : Str} {cs : Scope} {L a r tp : Addr} {A₀ : Around} {g : Heap} {m : Str → Option Value} {s : Shared} {Q : Flow → Shared → Prop} {E : Value → Shared → Prop} {x : Stmt} {b : List Stmt} {oB oP o261 : Obj} {ys : List Value} {zs : List Int}
    (h5 : (lawStmts (ob278 w.params))[1]? = some x) (hcs : lawScope (ob278 w.params) = cs)
    (hr : m (Str.ofString "row") = some (.ref r)) (hy : IntsAre ys zs) (hl : zs.length ≤ 7) (hz : ∀ y ∈ zs, 0 ≤ y ∧ y < 256) (hc : oP.cls ≠ .none) (hlt : 275 < L)
    (hB : Below A₀ g [] g) (hF : Fr g L s.heap m) (hX : (K2 w.params).In g) (hN : News g L s.heap [(tp, oP), (r, LCg.lst ys), (L + 1, oB), (261, o261), (247, tabObj #[]), (275, tabObj #[])]) (hT : Top VV LL mean mg mb g)
    (hE : PassesOwn (model PP w) (ktrTop 600 6000 gd cn cs L a (.ref 277) (cellsFrom (L + 1) cs.names []) []) (envOfC cn cs L a (.ref 277)) E)
    (hk : ∀ h tk m' ps, Fr g L h m' → News g L h [(tp, oP), (L + 1, oB), (261, o261), (247, tabObj ps), (275, tabObj #[])] → (∀ z, z ≠ Str.ofString "at" → m' z = m z) →
      wpAny (model PP w) (ktrTop 600 6000 gd cn cs L a (.ref 277) (cellsFrom (L + 1) cs.names []) []) (execs b (envOfC cn cs L a (.ref 277))) Q E { s with heap := h, toks := tk }) :
    wpAny (model PP w) (ktrTop 600 6000 gd cn cs L a (.ref 277) (cellsFrom (L + 1) cs.names []) []) (execs (x :: b) (envOfC cn cs L a (.ref 277))) Q E s := by
  k_with_none
  w_top off
  k_with "exec For Name Call cons nil" => ((k_here; k_dflt (refine wpAny_For ?_)))
  k_with "pyIter ref" => ((k_here; refine Halt.go ?_))
  k_with "call ref" => ((k_here; (k_dflt show wpAny _ _ (call (Value.ref 252) [_, _]) _ _ _); refine Halt.go ?_))
  have e5 : some (Stmt.For _ _ _ _ _) = some x := h5
  have ec : (⟨_, _, _, _, _⟩ : Scope) = cs := hcs
  injection e5 with e5
  clear h5 hcs
  subst e5
  subst ec
  have hF := fr_as hF hr
  refine unhook ?_
  k_fill
  intro _ _
  repeat' (first | (k_unfold; (try dsimp only)) | walk1 | (dsimp only; walk1))

  unfold Halt
  (rename IsRange _ _ _ _ _ _ _ _ => hr9)
  (rename Fr _ _ _ _ => F9)
  (rename News _ _ _ _ => N9)
  have N8 := sortG N9
  have hr0 : r ≠ 247 := ne_cls N8 (.tail _ (.head _)) (.head _) (by intro e; cases e)
  have hI0 := news_size N8 _ (.head _)
  have ht0 := ne4g N8 hc (by show @Ne Nat (L + 1) 247; have : @LT.lt Nat _ 275 L := hlt; omega) (show (261 : Nat) ≠ 247 by decide) (show (275 : Nat) ≠ 247 by decide)
  refine for_rangeJ (AJ g _ _ _ _ _) F9 N8 AJ.start (AJ.hJ N8) hr9 (rng_small hl) (rng_size hl) rfl ?_ ?_ hE
  · with_reducible refine Cut.go ?_
    rintro i v tv g1 m1 news1 h1 tk1 I iob hi hv ⟨u, ps, codes, rfl, rfl, rfl, ok, h1, h2⟩ F N hic hid rfl
    obtain rfl : v = (i : Int) := by omega
    repeat' (first | (k_unfold; (try dsimp only)) | walk1 | (dsimp only; walk1))

    unfold Halt
    show wpAny _ _ (call (Value.ref 252) [Value.ref _, Value.int _ _]) _ _ _
    refine' CTk.same (c_row_right _ codes _ _ _ i _ ps hy hl ?h0 hz ok ?hne hr0) ?B ?F ?X ?N ?T rfl (Nat.le_of_ble_eq_true rfl) (Nat.le_of_ble_eq_true rfl) ?_
    (case h0 => omega)
    (case B => exact hB)
    (case F => k_asm)
    (case X => exact hX)
    (case N => exact perm5 (by k_asm))
    (case hne => exact ne5 h1 (Ne.symm hI0) ht0)
    (case T => exact hT)
    intro v' tl' h' tk' F' N' hR'
    obtain ⟨e1', ps', codes', e2', ok', h1'⟩ := hR'
    subst e1'
    subst e2'
    repeat' (first | (k_unfold; (try dsimp only)) | walk1 | (dsimp only; walk1))

    exact AJ.next (by assumption) (by assumption) hid ok' h1' (fun z hz => by simp only [if_neg hz])
  · with_reducible refine Cut.go ?_
    rintro g1 m1 news1 h1 tk1 ⟨u, ps, codes, rfl, rfl, rfl, ok, h1, h2⟩ F N
    refine hk _ _ _ ps F (News.sub N fun p hp => ?_) fun z hz => ?_
    · simp only [List.mem_cons, List.mem_append, List.not_mem_nil, or_false] at hp ⊢
      rcases hp with h | h | h | h | h <;> simp [h]
    · simp only [if_neg hz]
      split
      · rename_i e; rw [e, hr]
      · rfl
end
end Mine
end
section
open PySem PySem.W PyProof.Rows PySem.W.X
namespace Mine

theorem perm4 {h₀ h : Heap} {L : Addr} {t c x y z : Addr × Obj} (N : News h₀ L h [t, c, x, y, z]) : News h₀ L h (x :: t :: [c, y, z]) := News.sub N fun p hp => by
  simp only [List.mem_cons, List.not_mem_nil, or_false] at hp ⊢
  rcases hp with h | h | h | h | h <;> simp [h]
theorem perm4b {h₀ h : Heap} {L : Addr} {c x y z : Addr × Obj} (N : News h₀ L h [x, c, y, z]) : News h₀ L h [c, x, y, z] := News.sub N fun p hp => by
  simp only [List.mem_cons, List.not_mem_nil, or_false] at hp ⊢
  rcases hp with h | h | h | h <;> simp [h]
theorem ne2 {c y z : Addr × Obj} (hc : c.1 ≠ 261) (hy : y.1 ≠ 261) (hz : z.1 ≠ 261) : ∀ p ∈ [c, y, z], p.1 ≠ 261 := fun p hp => by
  simp only [List.mem_cons, List.not_mem_nil, or_false] at hp
  rcases hp with rfl | rfl | rfl
  · exact hc
  · exact hy
  · exact hz
section
variable {w : World} {mean : ExcName → Option Value} {mg mb : Str → Option Value}

theorem law_pr {gd : Option (List Code)} {cn : Str} {cs : Scope} {L a tp : Addr} {A₀ : Around} {g : Heap} {m : Str → Option Value} {s : Shared} {Q : Flow → Shared → Prop} {E : Value → Shared → Prop} {x : Stmt} {b : List Stmt} {oB o2 : Obj} {pl : Str} {d lk : Bool} {rp rx : Int} {t1 t3 t5 : Tok} {c : Nat}
    (h5 : (lawStmts (ob278 w.params))[2]? = some x) (hcs : lawScope (ob278 w.params) = cs)
    (hm : m (Str.ofString "parts") = some (.ref tp)) (hlt : 275 < L) (p1 : pl ∈ [Str.ofString "", Str.ofString "fs", Str.ofString "gs", Str.ofString "cs"]) (p2 : rp ∈ ([0, 242, 243, 240, 1] : List Int)) (p3 : rx ∈ ([-1, 64, 72, 79, 80, 63] : List Int))
    (hB : Below A₀ g [] g) (hF : Fr g L s.heap m) (hX : (K2 w.params).In g) (hN : News g L s.heap [(tp, parts pl d rp lk rx t1 t3 t5 c), (L + 1, oB), (261, tabObj #[]), (247, o2), (275, tabObj #[])]) (hT : Top VV LL mean mg mb g)
    (hk : ∀ h tk ps, Fr g L h m → News g L h [(L + 1, oB), (261, tabObj ps), (247, o2), (275, tabObj #[])] →
      wpAny (model PP w) (ktrTop 600 6000 gd cn cs L a (.ref 277) (cellsFrom (L + 1) cs.names []) []) (execs b (envOfC cn cs L a (.ref 277))) Q E { s with heap := h, toks := tk }) :
    wpAny (model PP w) (ktrTop 600 6000 gd cn cs L a (.ref 277) (cellsFrom (L + 1) cs.names []) []) (execs (x :: b) (envOfC cn cs L a (.ref 277))) Q E s := by
  k_with_none
  w_top off
  k_with "call ref" => ((k_here; (k_dflt show wpAny _ _ (call (Value.ref 266) [_]) _ _ _); refine Halt.go ?_))
  have e5 : some (Stmt.If _ _ _ _) = some x := h5
  have ec : (⟨_, _, _, _, _⟩ : Scope) = cs := hcs
  injection e5 with e5
  clear h5 hcs
  subst e5
  subst ec
  have hF1 := fr_as hF hm
  clear hF
  refine unhook ?_
  k_fill
  intro _ _
  repeat' (first | (k_unfold; (try dsimp only)) | walk1 | (dsimp only; walk1))

  unfold Halt
  show wpAny _ _ (call (Value.ref 266) [Value.ref _]) _ _ _
  (rename Fr _ _ _ _ => F8)
  (rename News _ _ _ _ => N8)
  refine' CTk.same (c_parts_right _ tp ⟨_, _, _, _, _⟩ _ _ _ _ p1 p2 p3 ?hne ?htp) hB ?F hX ?N hT rfl (Nat.le_of_ble_eq_true rfl) (Nat.le_of_ble_eq_true rfl) ?_
  case F => exact F8
  case N => exact perm4 N8
  case hne => exact ne2 (by show @Ne Nat (L + 1) 261; have : @LT.lt Nat _ 275 L := hlt; omega) (show (247 : Nat) ≠ 261 by decide) (show (275 : Nat) ≠ 261 by decide)
  case htp => exact ne_cls N8 (.head _) (.tail _ (.tail _ (.head _))) (by intro e; cases e)
  intro v' tl' h' tk' F' N' hR'
  obtain ⟨e1', ps', e2'⟩ := hR'
  subst e1'
  subst e2'
  dsimp only [List.nil_append, List.cons_append] at N'
  repeat' (first | (k_unfold; (try dsimp only)) | walk1 | (dsimp only; walk1))

  (rename Fr _ _ _ _ => F8)
  refine hk _ _ ps' ?_ (perm4b (by assumption))
  have e : (fun y => if y = Str.ofString "parts" then some (Value.ref tp) else m y) = m := funext fun z => by
    split
    · rename_i e; rw [e, hm]
    · rfl
  rw [e] at F8
  exact F8
end
end Mine
end
section
open PySem PySem.W PyProof.Rows PySem.W.X
namespace Mine

section
variable {w : World} {mean : ExcName → Option Value} {mg mb : Str → Option Value}

theorem law_body {gd : Option (List Code)} {cn : Str} {cs : Scope} {L a scr : Addr} {A₀ : Around} {g : Heap} {m : Str → Option Value} {s : Shared} {Q : Flow → Shared → Prop} {its : List Value} {xs : List Int} {oB : Obj} {vB : Option Value}
    (hcs : lawScope (ob278 w.params) = cs)
    (hI : IntsAre its xs) (hlen : xs.length ≤ 63) (hG : g.IsList scr its.toArray) (hm : m (Str.ofString "script") = some (.ref scr)) (hoB : oB.data = .cell vB)
    (hB : Below A₀ g [] g) (hF : Fr g L s.heap m) (hX : (K2 w.params).In g) (hN : News g L s.heap [(L + 1, oB), (261, tabObj #[]), (247, tabObj #[]), (275, tabObj #[])]) (hT : Top VV LL mean mg mb g) (hlt : 275 < L)
    (hk : ∀ h tk m' p1 p2 p3, Fr g L h m' → News g L h [(261, tabObj p1), (247, tabObj p2), (275, tabObj p3)] → Q (.ret (.bool true)) { s with heap := h, toks := tk }) :
    wpAny (model PP w) (ktrTop 600 6000 gd cn cs L a (.ref 277) (cellsFrom (L + 1) cs.names []) []) (execs (lawStmts (ob278 w.params)) (envOfC cn cs L a (.ref 277))) Q (fun _ _ => False) s := by
  obtain ⟨x0, x1, x2, x3, x4, x5, x6, x7, x8, e⟩ : ∃ x0 x1 x2 x3 x4 x5 x6 x7 x8, lawStmts (ob278 w.params) = [x0, x1, x2, x3, x4, x5, x6, x7, x8] := ⟨_, _, _, _, _, _, _, _, _, rfl⟩
  have g0 : (lawStmts (ob278 w.params))[0]? = some x0 := by rw [e]; rfl
  have g1 : (lawStmts (ob278 w.params))[1]? = some x1 := by rw [e]; rfl
  have g2 : (lawStmts (ob278 w.params))[2]? = some x2 := by rw [e]; rfl
  have g3 : (lawStmts (ob278 w.params))[3]? = some x3 := by rw [e]; rfl
  have g4 : (lawStmts (ob278 w.params))[4]? = some x4 := by rw [e]; rfl
  have g5 : (lawStmts (ob278 w.params))[5]? = some x5 := by rw [e]; rfl
  have g6 : (lawStmts (ob278 w.params))[6]? = some x6 := by rw [e]; rfl
  have g7 : (lawStmts (ob278 w.params))[7]? = some x7 := by rw [e]; rfl
  have g8 : (lawStmts (ob278 w.params))[8]? = some x8 := by rw [e]; rfl
  rw [e]
  refine law_front g0 hcs hI hlen hG hm hB hF hX hN hT ?_
  intro h tk m1 r ys zs tp pl d rp lk rx t1 t3 t5 c F1 N1 ms mr mp hy hl hz p1 p2 p3
  refine law_for g1 hcs mr hy hl hz (by intro e; cases e) hlt hB F1 hX N1 hT PassesOwn.never ?_
  intro h tk m2 ps2 F2 N2 hm2
  refine law_pr g2 hcs ((hm2 _ (by decide)).trans mp) hlt p1 p2 p3 hB F2 hX N2 hT ?_
  intro h tk ps3 F3 N3
  refine law_all g3 g4 hcs hI hlen hG ((hm2 _ (by decide)).trans ms) hoB hB F3 hX N3 hT hlt ?_
  intro h tk m4 F4 N4
  refine law_words g5 g6 hcs hB F4 hX N4 hT ?_
  intro h tk m5 F5 N5
  refine law_odd g7 g8 hcs hB F5 hX N5 hT ?_
  intro h tk m6 ps6 F6 N6
  exact hk _ _ _ _ _ _ F6 N6
end
end Mine
end
section
open PySem PySem.W PyProof.Rows PySem.W.X
namespace Mine

theorem top : PySem.Challenge.rw_pb0416_01.Holds := by
  refine Mine.head ?_
  refine unhook ?_
  k_fill
  intro _ _ w s₀ s₁ mg mb G Y fa o pm cd doc dV kV ho hd hcd hD hmg hg args vals as hpre hlay hrd hwl hlo
  have KX0 := kIn_of Y
  have hT8 := KH_tab KX0
  have KX := K2_in KX0
  clear KX0
  have X := (Ground.X G).1
  have V := (Ground.X G).2
  refine Ground.open G ?_
  intro T B D TE TW
  try (refine guard_noD D (by decide +kernel) ?_; clear D)
  have TG : Top VW (looseW VW L0) (ExcName.means s₀.heap) mg mb s₁.heap := T
  km_lay T hmg ho hd cd
  clear hmg
  wrow_args hpre hlay hrd hwl hlo
  all_goals (
    first | refine callC_kw (enter_call ?_) | refine enter_call ?_
    w_top on
    kn_posts
    w_call any ho hd hcd hD T F
    clear hd
    kn_ghosts F T
    k_drop
    have TT : Top VV LL _ _ _ _ := ghost_top hT9 TG
    clear hcd hD hT8 TE TW B G Y
    skip)
  refine wpAny_noRaise ?_
  refine' wpAny_lower (dp := 600) (un := 6000) ?_ ?d ?u
  (case d => decide)
  (case u => decide)
  refine' law_body rfl (by assumption) ?hlen (by assumption) ?hm (by assumption) (by assumption) (by assumption) (by assumption) (by assumption) TT ?hlt ?hk
  (case hlen => omega)
  (case hm => rfl)
  (case hlt => exact (by assumption : _ ∧ _ ∧ _).2.2)
  intro h tk m' p1 p2 p3 F9 N9
  refine ⟨?g, GrownAt.of N9 (.head _), GrownAt.of N9 (.tail _ (.head _)), GrownAt.of N9 (.tail _ (.tail _ (.head _))), trivial⟩
  case g =>
    dsimp only
    refine goodW_bool F9 (by assumption) (raisesW_false ?hn) ?hp
    (case hn => wrow_none_raised)
    refine' postW_of ?s9 ?v9 ?e9
    (case s9 => o_shape)
    (case v9 => wtm_val)
    (case e9 => first | rfl | w_fin)
end Mine
end
open PySem PySem.W PyProof.Rows
theorem PySem.Challenge.cw_pb0416_01_holds : PySem.Challenge.rw_pb0416_01.Holds := by
  exact Mine.top
